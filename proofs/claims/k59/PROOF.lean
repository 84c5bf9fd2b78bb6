import PyProof.Rows.All
import Wide.All
import OpenK.AllK
import Wide.FinOn
import KE.KStateDown
import HandS.ForMost
import HandS.Walk
import HandS.Deep
import HandS.IsInst
import HandS.TupAny
import HandS.TupLen
import HandS.Conv
import HandS.SortInts
import HandS.TryOnly
import HandS.DictComp
import KE.GoesNew
import KE.GoesNewDict
import KE.GoesDict
import KE.GoesMore
import KE.GoesEnum
import HandS.Zip
import KE.SortData
import HandS.TupLe
import HandS.Style
import HandS.Small
import KE.KDictPairs
import HandS.Codes
import HandS.Defaults
import HandS.Words
import Lean
import HandS.Base
import HandS.Call
import HandS.Ends
import HandS.More
import HandS.WordsExc
import HandS.Head0
import HandS.Head1
import HandS.Head2
import HandS.HeadEnd
import HandS.HeadHook1
import HandS.HeadHook2
import HandS.HeadHook3
import HandS.HeadHook4
import PySem.Challenge.RW_fillorgauge_k59_whole_rings_led_round_ri
section
set_option Elab.async false
set_option linter.all false
/-! Ev0: deep values, frames of owned lists and dicts, the world they are true of. -/
namespace Ev
open PySem PySem.Spec L2
set_option autoImplicit false
inductive D where
  | non | bl (b : Bool) | int (i : Int) | str (x : Str) | tup (k : Bool) (l : List D) | lst (l : List D) | dct (t : Bool) (l : List (D × D)) | ins (c : Nat) (l : List D) | scr (l : List Int) | adr
deriving Inhabited
def kD : Key → D
  | .inl i => .int i
  | .inr x => .str x
abbrev Ct := Nat → Addr × List Str
/-- a tuple; k: its object is known, and has no dict -/
def TupAt (F : Hp) (a : Addr) : Bool → List V → Prop
  | false, vs => F a = some (.tup vs)
  | true, vs => ∃ od : Obj, F a = some (.frz od (.tup vs)) ∧ od.dict = none
section
variable (K : PySem.W.Frag) (ct : Ct) (F : Hp)
mutual
def DRep : D → V → Prop
  | .non, v => v = .non
  | .bl b, v => v = .bl b
  | .int i, v => v = .int i
  | .str x, v => v = .str x
  | .tup k l, v => ∃ a vs, v = .ref a ∧ TupAt F a k vs ∧ DReps l vs
  | .lst l, v => ∃ a vs, v = .ref a ∧ F a = some (.lst vs) ∧ DReps l vs
  | .scr l, v => ∃ a, v = .ref a ∧ SqL K F a (l.map V.int)
  | .adr, v => ∃ a, v = .ref a
  | .dct t l, v => ∃ a od u, v = .ref a ∧ F a = some (.frz od u) ∧ ((t = false ∧ ∃ es, u = .dK es ∧ DKv l es) ∨ (t = true ∧ ∃ es, u = .dT es ∧ DTv l es))
  | .ins c l, v => ∃ a dx fs, v = .ref a ∧ F a = some (.ins (ct c).1 dx fs) ∧ F dx = some (.own a) ∧ fs.map (·.1) = (ct c).2 ∧ DReps l (fs.map (·.2))
def DReps : List D → List V → Prop
  | [], vs => vs = []
  | d :: l, vs => ∃ v r, vs = v :: r ∧ DRep d v ∧ DReps l r
def DKv : List (D × D) → List (Key × V) → Prop
  | [], es => es = []
  | (k, d) :: l, es => ∃ x v r, es = (x, v) :: r ∧ k = kD x ∧ DRep d v ∧ DKv l r
def DTv : List (D × D) → List (List Key × V) → Prop
  | [], es => es = []
  | (k, d) :: l, es => ∃ x v r, es = (x, v) :: r ∧ k = .tup false (x.map kD) ∧ DRep d v ∧ DTv l r
end
def DctO (t : Bool) (l : List (D × D)) (u : HO) : Prop := (t = false ∧ ∃ es, u = .dK es ∧ DKv K ct F l es) ∨ (t = true ∧ ∃ es, u = .dT es ∧ DTv K ct F l es)
end
def Le (F F' : Hp) : Prop := ∀ a o, F a = some o → F' a = some o
theorem Le.refl (F : Hp) : Le F F := fun _ _ h => h
theorem Le.trans {F F' F2 : Hp} (h : Le F F') (h' : Le F' F2) : Le F F2 := fun a o e => h' a o (h a o e)
theorem Le.rd {F F' : Hp} (h : Le F F') {a : Addr} {u : HO} (r : Rd F a u) : Rd F' a u := by
  rcases r with r | ⟨o, r⟩
  · exact .inl (h _ _ r)
  · exact .inr ⟨o, h _ _ r⟩
theorem TupAt.mono {F F' : Hp} (h : Le F F') {a : Addr} : ∀ {k : Bool} {vs : List V}, TupAt F a k vs → TupAt F' a k vs
  | false, _, r => h _ _ r
  | true, _, ⟨od, r, n⟩ => ⟨od, h _ _ r, n⟩
theorem TupAt.sqt {K : PySem.W.Frag} {F : Hp} {a : Addr} : ∀ {k : Bool} {vs : List V}, TupAt F a k vs → SqT K F a vs
  | false, _, r => .inl (.inl r)
  | true, _, ⟨od, r, n⟩ => .inl (.inr ⟨od, r⟩)
theorem Le.sqt {K : PySem.W.Frag} {F F' : Hp} (h : Le F F') {a : Addr} {u : List V} (r : SqT K F a u) : SqT K F' a u := r.imp h.rd id
theorem Le.sql {K : PySem.W.Frag} {F F' : Hp} (h : Le F F') {a : Addr} {u : List V} (r : SqL K F a u) : SqL K F' a u := r.imp h.rd id
theorem Le.none {F F' : Hp} (h : Le F F') {a : Addr} (e : F' a = Option.none) : F a = Option.none := by
  cases q : F a with
  | none => rfl
  | some o => rw [h a o q] at e; cases e
theorem Le.laid {F : Hp} {p : Addr} {o : HO} (h : F p = Option.none) : Le F (upd F p o) := fun a u e => by
  rw [upd_ne (ne_of_none e h)]; exact e
section
variable {K : PySem.W.Frag} {ct : Ct} {F F' : Hp}
mutual
theorem DRep.mono (h : Le F F') : ∀ (d : D) (v : V), DRep K ct F d v → DRep K ct F' d v
  | .non, _, r => r
  | .bl _, _, r => r
  | .int _, _, r => r
  | .str _, _, r => r
  | .tup _ l, _, ⟨a, vs, e, s, r⟩ => ⟨a, vs, e, s.mono h, DReps.mono h l vs r⟩
  | .lst l, _, ⟨a, vs, e, s, r⟩ => ⟨a, vs, e, h _ _ s, DReps.mono h l vs r⟩
  | .scr _, _, ⟨a, e, s⟩ => ⟨a, e, h.sql s⟩
  | .adr, _, r => r
  | .dct _ l, _, ⟨a, od, u, e, s, r⟩ => ⟨a, od, u, e, h _ _ s, r.imp (fun ⟨b, es, t, r⟩ => ⟨b, es, t, DKv.mono h l es r⟩) (fun ⟨b, es, t, r⟩ => ⟨b, es, t, DTv.mono h l es r⟩)⟩
  | .ins _ l, _, ⟨a, dx, fs, e, s, t, u, r⟩ => ⟨a, dx, fs, e, h _ _ s, h _ _ t, u, DReps.mono h l _ r⟩
theorem DReps.mono (h : Le F F') : ∀ (l : List D) (vs : List V), DReps K ct F l vs → DReps K ct F' l vs
  | [], _, r => r
  | d :: l, _, ⟨v, t, e, r, q⟩ => ⟨v, t, e, DRep.mono h d v r, DReps.mono h l t q⟩
theorem DKv.mono (h : Le F F') : ∀ (l : List (D × D)) (es : List (Key × V)), DKv K ct F l es → DKv K ct F' l es
  | [], _, r => r
  | (_, d) :: l, _, ⟨x, v, t, e, k, r, q⟩ => ⟨x, v, t, e, k, DRep.mono h d v r, DKv.mono h l t q⟩
theorem DTv.mono (h : Le F F') : ∀ (l : List (D × D)) (es : List (List Key × V)), DTv K ct F l es → DTv K ct F' l es
  | [], _, r => r
  | (_, d) :: l, _, ⟨x, v, t, e, k, r, q⟩ => ⟨x, v, t, e, k, DRep.mono h d v r, DTv.mono h l t q⟩
end
theorem DctO.mono (h : Le F F') {t : Bool} {l : List (D × D)} {u : HO} (r : DctO K ct F t l u) : DctO K ct F' t l u :=
  r.imp (fun ⟨b, es, t, r⟩ => ⟨b, es, t, DKv.mono h l es r⟩) (fun ⟨b, es, t, r⟩ => ⟨b, es, t, DTv.mono h l es r⟩)
theorem DReps.length : ∀ {l : List D} {vs : List V}, DReps K ct F l vs → l.length = vs.length
  | [], vs, r => by rw [show vs = [] from r] <;> rfl
  | d :: l, _, ⟨v, t, e, r, q⟩ => by rw [e, List.length_cons, List.length_cons, DReps.length q]
theorem DReps.get : ∀ {l : List D} {vs : List V} {i : Nat} {d : D}, DReps K ct F l vs → l[i]? = some d → ∃ v, vs[i]? = some v ∧ DRep K ct F d v
  | [], _, _, _, _, h => by simp at h
  | d :: l, _, 0, _, ⟨v, t, e, r, q⟩, h => by
    simp at h; subst h; exact ⟨v, by rw [e]; rfl, r⟩
  | d :: l, _, i + 1, _, ⟨v, t, e, r, q⟩, h => by
    obtain ⟨v', h1, h2⟩ := DReps.get (i := i) q (by simpa using h)
    exact ⟨v', by rw [e]; simpa using h1, h2⟩
theorem DReps.get' : ∀ {l : List D} {vs : List V} {i : Nat} {v : V}, DReps K ct F l vs → vs[i]? = some v → ∃ d, l[i]? = some d ∧ DRep K ct F d v := fun {l vs i v} r h => by
  have hl := r.length
  have hi : i < l.length := by rw [hl]; exact (List.getElem?_eq_some_iff.mp h).1
  obtain ⟨v', h1, h2⟩ := r.get (List.getElem?_eq_getElem hi)
  rw [h] at h1; cases h1
  exact ⟨_, List.getElem?_eq_getElem hi, h2⟩
theorem DReps.append : ∀ {l m : List D} {vs us : List V}, DReps K ct F l vs → DReps K ct F m us → DReps K ct F (l ++ m) (vs ++ us)
  | [], _, _, _, r, s => by rw [show _ = [] from r]; exact s
  | d :: l, _, _, _, ⟨v, t, e, r, q⟩, s => ⟨v, _, by rw [e]; rfl, r, DReps.append q s⟩
theorem DReps.one {d : D} {v : V} (r : DRep K ct F d v) : DReps K ct F [d] [v] := ⟨v, [], rfl, r, rfl⟩
theorem DReps.take : ∀ {l : List D} {vs : List V} (n : Nat), DReps K ct F l vs → DReps K ct F (l.take n) (vs.take n)
  | _, _, 0, _ => by simp only [List.take_zero]; exact rfl
  | [], _, _ + 1, r => by rw [show _ = [] from r]; exact rfl
  | d :: l, _, n + 1, ⟨v, t, e, r, q⟩ => ⟨v, t.take n, by rw [e]; rfl, r, DReps.take n q⟩
theorem DReps.drop : ∀ {l : List D} {vs : List V} (n : Nat), DReps K ct F l vs → DReps K ct F (l.drop n) (vs.drop n)
  | _, _, 0, r => r
  | [], _, _ + 1, r => by rw [show _ = [] from r]; exact rfl
  | d :: l, _, n + 1, ⟨v, t, e, r, q⟩ => by rw [e]; exact DReps.drop n q
theorem DReps.set : ∀ {l : List D} {vs : List V} (i : Nat) {d : D} {v : V}, DReps K ct F l vs → DRep K ct F d v → DReps K ct F (l.set i d) (vs.set i v)
  | [], _, _, _, _, r, _ => by rw [show _ = [] from r]; exact rfl
  | _ :: l, _, 0, _, _, ⟨v, t, e, _, q⟩, s => ⟨_, t, by rw [e]; rfl, s, q⟩
  | _ :: l, _, i + 1, _, _, ⟨v, t, e, r, q⟩, s => ⟨v, _, by rw [e]; rfl, r, DReps.set i q s⟩
theorem DReps.eraseIdx : ∀ {l : List D} {vs : List V} (i : Nat), DReps K ct F l vs → DReps K ct F (l.eraseIdx i) (vs.eraseIdx i)
  | [], _, _, r => by rw [show _ = [] from r]; exact rfl
  | _ :: l, _, 0, ⟨v, t, e, _, q⟩ => by rw [e]; exact q
  | _ :: l, _, i + 1, ⟨v, t, e, r, q⟩ => ⟨v, t.eraseIdx i, by rw [e]; rfl, r, DReps.eraseIdx i q⟩
theorem DReps.nil : DReps K ct F [] [] := rfl
theorem DReps.cons {d : D} {l : List D} {v : V} {vs : List V} (r : DRep K ct F d v) (q : DReps K ct F l vs) : DReps K ct F (d :: l) (v :: vs) := ⟨v, vs, rfl, r, q⟩
theorem DReps.rev {l : List D} {vs : List V} (r : DReps K ct F l vs) : DReps K ct F l.reverse vs.reverse := by
  induction l generalizing vs with
  | nil => rw [show vs = [] from r]; exact rfl
  | cons d l ih =>
    obtain ⟨v, t, e, r, q⟩ := r
    rw [e, List.reverse_cons, List.reverse_cons]
    exact DReps.append (ih q) (DReps.one r)
end
/-! ### slots -/
/-- what a slot holds: a deep value; a list, a dict of its own (io: a parameter whose changes the caller sees) -/
inductive S where
  | imm (d : D) | ls (io : Bool) (l : List D) | ds (io t : Bool) (l : List (D × D)) | prv
deriving Inhabited
def S.own : S → Bool
  | .imm _ => false
  | .prv => false
  | _ => true
def S.io : S → Bool
  | .imm _ => false
  | .ls b _ => b
  | .ds b _ _ => b
  | .prv => true
def S.toD : S → D
  | .imm d => d
  | .ls _ l => .lst l
  | .ds _ t l => .dct t l
  | .prv => .adr
abbrev Fr := List (Option S)
def SRep (K : PySem.W.Frag) (ct : Ct) (F H : Hp) : S → V → Prop
  | .imm d, v => DRep K ct F d v
  | .ls _ l, v => ∃ a vs, v = .ref a ∧ F a = none ∧ H a = some (.lst vs) ∧ DReps K ct F l vs
  | .ds _ t l, v => ∃ a u, v = .ref a ∧ F a = none ∧ H a = some u ∧ DctO K ct F t l u
  | .prv, v => ∃ a, v = .ref a
def Own (σV : St) (σ : Fr) (a : Addr) : Prop := ∃ (i : Nat) (s : S), σ[i]? = some (some s) ∧ s.own = true ∧ σV[i]? = some (some (.ref a))
theorem DctO.notup {K ct F} {t : Bool} {l : List (D × D)} {u : HO} (r : DctO K ct F t l u) : ∀ xs, u ≠ .tup xs := fun xs e => by
  subst e
  rcases r with ⟨_, es, e, _⟩ | ⟨_, es, e, _⟩ <;> cases e
theorem SRep.ref {K ct F H} {s : S} {v : V} (r : SRep K ct F H s v) (o : s.own = true) : ∃ a u, v = .ref a ∧ F a = none ∧ H a = some u ∧ ∀ xs, u ≠ .tup xs := by
  cases s with
  | imm d => cases o
  | prv => cases o
  | ls b l => obtain ⟨a, vs, e, f, h, _⟩ := r; exact ⟨a, _, e, f, h, fun _ z => nomatch z⟩
  | ds b t l => obtain ⟨a, u, e, f, h, q⟩ := r; exact ⟨a, _, e, f, h, q.notup⟩
theorem SRep.keep {K ct F H F' H'} {s : S} {v : V} (r : SRep K ct F H s v) (h : Le F F') (k : s.own = true → ∀ a, v = .ref a → F' a = none ∧ H' a = H a) : SRep K ct F' H' s v := by
  cases s with
  | imm d => exact DRep.mono h d v r
  | prv => exact r
  | ls b l =>
    obtain ⟨a, vs, e, f, g, q⟩ := r
    obtain ⟨k1, k2⟩ := k rfl a e
    exact ⟨a, vs, e, k1, k2.trans g, DReps.mono h l vs q⟩
  | ds b t l =>
    obtain ⟨a, u, e, f, g, q⟩ := r
    obtain ⟨k1, k2⟩ := k rfl a e
    exact ⟨a, u, e, k1, k2.trans g, q.mono h⟩
structure Wd (K : PySem.W.Frag) (ct : Ct) (F H : Hp) (σV : St) (σ : Fr) : Prop where
  le : Le F H
  slot : ∀ (i : Nat) (s : S), σ[i]? = some (some s) → ∃ v, σV[i]? = some (some v) ∧ SRep K ct F H s v
  dis : ∀ (i j : Nat) (s t : S) (a : Addr), σ[i]? = some (some s) → σ[j]? = some (some t) → s.own = true → t.own = true → σV[i]? = some (some (.ref a)) → σV[j]? = some (some (.ref a)) → i = j
  ln : σ.length ≤ σV.length
structure Stp (K : PySem.W.Frag) (ct : Ct) (F H : Hp) (σV : St) (σ : Fr) (F' H' : Hp) (σV' : St) (σ' : Fr) : Prop where
  w : Wd K ct F' H' σV' σ'
  le : Le F F'
  keep : ∀ a o, H a = some o → ¬ Own σV σ a → H' a = some o
  there : ∀ a, H' a = none → H a = none
  froz : ∀ a, F' a ≠ none → F a ≠ none ∨ H a = none ∨ Own σV σ a ∨ ∃ xs, H a = some (.tup xs)
  own : ∀ a, Own σV' σ' a → Own σV σ a ∨ H a = none
  io : ∀ (i : Nat) (s : S), σ[i]? = some (some s) → s.io = true → (∃ s' : S, σ'[i]? = some (some s') ∧ s'.io = true) ∧ σV'[i]? = σV[i]?
  len : σ'.length = σ.length
section
variable {K : PySem.W.Frag} {ct : Ct} {F H F' H' F2 H2 : Hp} {σV σV' σV2 : St} {σ σ' σ2 : Fr}
theorem Wd.own (w : Wd K ct F H σV σ) {a : Addr} (o : Own σV σ a) : F a = none ∧ ∃ u, H a = some u ∧ ∀ xs, u ≠ .tup xs := by
  obtain ⟨i, s, e, so, ev⟩ := o
  obtain ⟨v, e1, r⟩ := w.slot i s e
  rw [ev] at e1; cases e1
  obtain ⟨b, u, q, f, h, n⟩ := r.ref so
  cases q
  exact ⟨f, u, h, n⟩
theorem Stp.refl (w : Wd K ct F H σV σ) : Stp K ct F H σV σ F H σV σ :=
  ⟨w, Le.refl F, fun _ _ h _ => h, fun _ h => h, fun _ h => .inl h, fun _ h => .inl h, fun i s h o => ⟨⟨s, h, o⟩, rfl⟩, rfl⟩
theorem Stp.trans (x : Stp K ct F H σV σ F' H' σV' σ') (y : Stp K ct F' H' σV' σ' F2 H2 σV2 σ2) : Stp K ct F H σV σ F2 H2 σV2 σ2 where
  w := y.w
  le := x.le.trans y.le
  keep := fun a o h n => y.keep a o (x.keep a o h n) fun q => (x.own a q).elim n fun z => by rw [h] at z; cases z
  there := fun a h => x.there a (y.there a h)
  froz := fun a h => by
    rcases y.froz a h with h | h | h | ⟨xs, h⟩
    · exact x.froz a h
    · exact .inr (.inl (x.there a h))
    · exact (x.own a h).elim (fun z => .inr (.inr (.inl z))) fun z => .inr (.inl z)
    · by_cases ow : Own σV σ a
      · exact .inr (.inr (.inl ow))
      · cases q : H a with
        | none => exact .inr (.inl rfl)
        | some o =>
          have e := x.keep a o q ow
          rw [h] at e
          cases e
          exact .inr (.inr (.inr ⟨xs, rfl⟩))
  own := fun a h => by
    rcases y.own a h with h | h
    · exact x.own a h
    · exact .inr (x.there a h)
  io := fun i s h o => by
    obtain ⟨⟨s', h', o'⟩, e⟩ := x.io i s h o
    obtain ⟨q, e'⟩ := y.io i s' h' o'
    exact ⟨q, e'.trans e⟩
  len := y.len.trans x.len
/-- the heap grows, the slots stay -/
theorem Stp.grow (w : Wd K ct F H σV σ) (le : Le F F') (le' : Le F' H') (keep : Le H H') (froz : ∀ a, F' a ≠ none → F a ≠ none ∨ H a = none ∨ ∃ xs, H a = some (.tup xs)) : Stp K ct F H σV σ F' H' σV σ where
  w := ⟨le', fun i s e => by
    obtain ⟨v, e1, r⟩ := w.slot i s e
    refine ⟨v, e1, r.keep le fun so a ev => ?_⟩
    subst ev
    obtain ⟨f, u, h, nt⟩ := w.own ⟨i, s, e, so, e1⟩
    refine ⟨?_, (keep a u h).trans h.symm⟩
    cases q : F' a with
    | none => rfl
    | some o =>
      rcases froz a (by rw [q]; simp) with z | z | ⟨xs, z⟩
      · exact absurd f z
      · rw [h] at z; exact absurd z (by simp)
      · rw [h] at z; cases z; exact absurd rfl (nt xs),
    fun i j s t a => w.dis i j s t a, w.ln⟩
  le := le
  keep := fun a o h _ => keep a o h
  there := fun a h => keep.none h
  froz := fun a h => (froz a h).imp id fun z => z.imp id .inr
  own := fun _ h => .inl h
  io := fun i s h o => ⟨⟨s, h, o⟩, rfl⟩
  len := rfl
/-- a new object, frozen from the start -/
theorem Stp.new (w : Wd K ct F H σV σ) {p : Addr} {o : HO} (h : H p = none) : Stp K ct F H σV σ (upd F p o) (upd H p o) σV σ :=
  Stp.grow w (Le.laid (w.le.none h)) (fun a u e => by
    by_cases z : a = p
    · subst z; rw [upd_same] at e ⊢; exact e
    · rw [upd_ne z] at e ⊢; exact w.le a u e) (Le.laid h) fun a q => by
    by_cases z : a = p
    · subst z; exact .inr (.inl h)
    · rw [upd_ne z] at q; exact .inl q
/-- a new object that is not frozen -/
theorem Stp.lay (w : Wd K ct F H σV σ) {p : Addr} {o : HO} (h : H p = none) : Stp K ct F H σV σ F (upd H p o) σV σ :=
  Stp.grow w (Le.refl F) (w.le.trans (Le.laid h)) (Le.laid h) fun _ q => .inl q
end
end Ev
end

section
set_option Elab.async false
set_option linter.all false
/-! Ev1: readings of value functions; names, constants, operators, tests. -/
namespace Ev
open PySem PySem.Spec L2
set_option autoImplicit false
abbrev M (α : Type) := Fr → Option (α × Fr)
theorem PEimp {X : Cx} {e : Expr} {t t' : TE} (h : PE X e t) (i : ∀ σ H Q, t' σ H Q → t σ H Q) : PE X e t' := ⟨fun pins s σ H Q I q => h.run pins s σ H Q I (i σ H Q q)⟩
theorem PTimp {X : Cx} {e : Expr} {t t' : TT} (h : PT X e t) (i : ∀ σ H Q, t' σ H Q → t σ H Q) : PT X e t' := ⟨fun pins s σ H Q I q => h.run pins s σ H Q I (i σ H Q q)⟩
theorem PWimp {X : Cx} {e : Expr} {t t' : TT} (h : PW X e t) (i : ∀ σ H Q, t' σ H Q → t σ H Q) : PW X e t' := ⟨fun wh pins s σ H Q I q => h.run wh pins s σ H Q I (i σ H Q q)⟩
theorem PSimp {X : Cx} {e : Stmt} {t t' : TS} (h : PS X e t) (i : ∀ D σ H, t' D σ H → t D σ H) : PS X e t' := ⟨fun pins s σ H D I q => h.run pins s σ H D I (i D σ H q)⟩
theorem PSsimp {X : Cx} {e : List Stmt} {t t' : TS} (h : PSs X e t) (i : ∀ D σ H, t' D σ H → t D σ H) : PSs X e t' := ⟨fun pins s σ H D I q => h.run pins s σ H D I (i D σ H q)⟩
/-- what a fresh or deep result is -/
def FRep (K : PySem.W.Frag) (ct : Ct) (H : Hp) (σV : St) (σ : Fr) (F' H' : Hp) (σ' : Fr) : S → V → Prop
  | .imm d, v => DRep K ct F' d v
  | s, v => s.io = false ∧ SRep K ct F' H' s v ∧ ∀ a, v = .ref a → ¬ Own σV σ' a ∧ (H a = none ∨ Own σV σ a)
/-- a deep value -/
def rdE (X : Cx) (ct : Ct) (m : M D) : TE := fun σV H Q => ∃ F σ, Wd X.K ct F H σV σ ∧ ∃ d σ', m σ = some (d, σ') ∧ ∀ v H' F', Stp X.K ct F H σV σ F' H' σV σ' → DRep X.K ct F' d v → Q v H'
/-- a fresh list or dict, or a deep value -/
def rdF (X : Cx) (ct : Ct) (m : M S) : TE := fun σV H Q => ∃ F σ, Wd X.K ct F H σV σ ∧ ∃ d σ', m σ = some (d, σ') ∧ ∀ v H' F', Stp X.K ct F H σV σ F' H' σV σ' → FRep X.K ct H σV σ F' H' σ' d v → Q v H'
def rdT (X : Cx) (ct : Ct) (m : M Bool) : TT := fun σV H Q => ∃ F σ, Wd X.K ct F H σV σ ∧ ∃ d σ', m σ = some (d, σ') ∧ ∀ H' F', Stp X.K ct F H σV σ F' H' σV σ' → Q d H'
abbrev SE (X : Cx) (ct : Ct) (e : Expr) (m : M D) : Prop := PE X e (rdE X ct m)
abbrev SF (X : Cx) (ct : Ct) (e : Expr) (m : M S) : Prop := PE X e (rdF X ct m)
abbrev ST (X : Cx) (ct : Ct) (e : Expr) (m : M Bool) : Prop := PT X e (rdT X ct m)
abbrev SW (X : Cx) (ct : Ct) (e : Expr) (m : M Bool) : Prop := PW X e (rdT X ct m)
/-! ### views -/
def VRep (K : PySem.W.Frag) (ct : Ct) (F H : Hp) : D → V → Prop
  | .lst l, v => ∃ a vs, v = .ref a ∧ H a = some (.lst vs) ∧ DReps K ct F l vs
  | .dct t l, v => ∃ a u, v = .ref a ∧ Rd H a u ∧ DctO K ct F t l u
  | d, v => DRep K ct F d v
theorem VRep.of {K ct F H} (le : Le F H) : ∀ {d : D} {v : V}, DRep K ct F d v → VRep K ct F H d v
  | .lst _, _, ⟨a, vs, e, h, r⟩ => ⟨a, vs, e, le _ _ h, r⟩
  | .dct _ _, _, ⟨a, od, u, e, h, r⟩ => ⟨a, u, e, .inr ⟨od, le _ _ h⟩, r⟩
  | .non, _, r => r
  | .bl _, _, r => r
  | .int _, _, r => r
  | .str _, _, r => r
  | .tup _ _, _, r => r
  | .ins _ _, _, r => r
  | .scr _, _, r => r
  | .adr, _, r => r
theorem SRep.view {K ct F H} (le : Le F H) : ∀ {s : S} {v : V}, SRep K ct F H s v → VRep K ct F H s.toD v
  | .imm _, _, r => VRep.of le r
  | .ls _ _, _, ⟨a, vs, e, _, h, r⟩ => ⟨a, vs, e, h, r⟩
  | .ds _ _ _, _, ⟨a, u, e, _, h, r⟩ => ⟨a, u, e, .inl h, r⟩
  | .prv, _, r => r
/-- the view of a slot -/
def vw (σ : Fr) (i : Nat) : Option D := match σ[i]? with
  | some (some s) => some s.toD
  | _ => none
/-- an argument: reckoned; or a name's own thing, looked at when all are there -/
inductive A where
  | val (m : M D) | pk (i : Nat)
def A.go : A → Fr → Option (D × Fr)
  | .val m, σ => m σ
  | .pk i, σ => match σ[i]? with
    | some (some _) => some (.non, σ)
    | _ => none
def A.fin : A → D → Fr → Option D
  | .val _, d, _ => some d
  | .pk i, _, σ => vw σ i
def A.one (a : A) : M D := fun σ => match a.go σ with
  | some (x, σ1) => (match a.fin x σ1 with
    | some d => some (d, σ1)
    | none => none)
  | none => none
def A.two (a b : A) : Fr → Option ((D × D) × Fr) := fun σ => match a.go σ with
  | some (x, σ1) => (match b.go σ1 with
    | some (y, σ2) => (match a.fin x σ2, b.fin y σ2 with
      | some d, some e => some ((d, e), σ2)
      | _, _ => none)
    | none => none)
  | none => none
def A.rd (X : Cx) (ct : Ct) : A → TE
  | .val m => rdE X ct m
  | .pk i => tVar i
abbrev AE (X : Cx) (ct : Ct) (e : Expr) (a : A) : Prop := PE X e (a.rd X ct)
/-- what came of an argument -/
def A.res (K : PySem.W.Frag) (ct : Ct) (F : Hp) (σV : St) : A → D → V → Prop
  | .val _, d, v => DRep K ct F d v
  | .pk i, _, v => σV[i]? = some (some v)
section
variable {X : Cx} {ct : Ct} {F H F' H' : Hp} {σV : St} {σ σ' : Fr}
theorem A.res_mono {K} (h : Le F F') : ∀ {a : A} {d : D} {v : V}, a.res K ct F σV d v → a.res K ct F' σV d v
  | .val _, d, v, r => DRep.mono h d v r
  | .pk _, _, _, r => r
theorem A.view {K} (w : Wd K ct F H σV σ) : ∀ {a : A} {x d : D} {v : V}, a.res K ct F σV x v → a.fin x σ = some d → VRep K ct F H d v
  | .val _, x, d, v, r, e => by cases e; exact VRep.of w.le r
  | .pk i, x, d, v, r, e => by
    have e : vw σ i = some d := e
    unfold vw at e
    split at e
    · rename_i s q
      cases e
      obtain ⟨v', e1, r1⟩ := w.slot i s q
      have r' : σV[i]? = some (some v) := r
      rw [r'] at e1; cases e1
      exact r1.view w.le
    · cases e
theorem A.ok (w : Wd X.K ct F H σV σ) : ∀ {a : A} {x : D}, a.go σ = some (x, σ') → ∀ {R : V → Hp → Prop}, (∀ v H' F', Stp X.K ct F H σV σ F' H' σV σ' → a.res X.K ct F' σV x v → R v H') → a.rd X ct σV H R
  | .val m, x, e, R, h => ⟨F, σ, w, x, σ', e, fun v H' F' st r => h v H' F' st r⟩
  | .pk i, x, e, R, h => by
    have e : (match σ[i]? with | some (some _) => some (D.non, σ) | _ => none) = some (x, σ') := e
    split at e
    · rename_i s q
      cases e
      obtain ⟨v, e1, r1⟩ := w.slot i s q
      exact ⟨v, e1, h v H F (Stp.refl w) e1⟩
    · cases e
theorem A.one_ok (w : Wd X.K ct F H σV σ) {a : A} {d : D} (e : a.one σ = some (d, σ')) {R : V → Hp → Prop} (h : ∀ v H' F', Stp X.K ct F H σV σ F' H' σV σ' → VRep X.K ct F' H' d v → R v H') : a.rd X ct σV H R := by
  unfold A.one at e
  split at e
  · rename_i x σ1 q
    split at e
    · rename_i d' q2
      cases e
      exact A.ok w q fun v H' F' st r => h v H' F' st (A.view st.w r q2)
    · cases e
  · cases e
theorem A.two_ok (w : Wd X.K ct F H σV σ) {a b : A} {d e : D} (he : a.two b σ = some ((d, e), σ')) {R : V → V → Hp → Prop}
    (h : ∀ v u H' F', Stp X.K ct F H σV σ F' H' σV σ' → VRep X.K ct F' H' d v → VRep X.K ct F' H' e u → R v u H') : a.rd X ct σV H fun x H1 => b.rd X ct σV H1 fun y H2 => R x y H2 := by
  unfold A.two at he
  split at he
  · rename_i x σ1 q
    split at he
    · rename_i y σ2 q2
      split at he
      · rename_i d' e' q3 q4
        cases he
        refine A.ok w q fun v H1 F1 st1 r1 => A.ok st1.w q2 fun u H2 F2 st2 r2 => ?_
        have st := st1.trans st2
        exact h v u H2 F2 st (A.view st.w (A.res_mono st2.le r1) q3) (A.view st.w r2 q4)
      · cases he
    · cases he
  · cases he
end
/-! ### names, constants -/
def mC (d : D) : M D := fun σ => some (d, σ)
/-- a name's deep value; an own thing is frozen for good -/
def mV (i : Nat) : M D := fun σ => match σ[i]? with
  | some (some (.imm d)) => some (d, σ)
  | some (some (.ls false l)) => some (.lst l, σ.set i (some (.imm (.lst l))))
  | some (some (.ds false t l)) => some (.dct t l, σ.set i (some (.imm (.dct t l))))
  | _ => none
section
variable {X : Cx} {ct : Ct} {F H F' H' : Hp} {σV : St} {σ σ' : Fr}
theorem set_get {i : Nat} {s : S} {j : Nat} {t : S} (e : (σ.set i (some s))[j]? = some (some t)) : (j = i ∧ t = s) ∨ (j ≠ i ∧ σ[j]? = some (some t)) := by
  rw [List.getElem?_set] at e
  by_cases h : i = j
  · subst h
    rw [if_pos rfl] at e
    split at e
    · cases e; exact .inl ⟨rfl, rfl⟩
    · cases e
  · rw [if_neg h] at e
    exact .inr ⟨Ne.symm h, e⟩
theorem upd_self {H : Hp} {a : Addr} {u : HO} (h : H a = some u) : upd H a u = H := by
  funext b
  by_cases z : b = a
  · subst z; rw [upd_same, h]
  · rw [upd_ne z]
theorem upd_none {H : Hp} {a b : Addr} {u : HO} (h : upd H a u b = none) : H b = none := by
  by_cases z : b = a
  · subst z; rw [upd_same] at h; cases h
  · rwa [upd_ne z] at h
/-- an own thing becomes frozen -/
theorem Stp.freeze {K} (w : Wd K ct F H σV σ) {i : Nat} {s : S} {a : Addr} {u : HO} {d : D} (e : σ[i]? = some (some s)) (so : s.own = true) (io : s.io = false) (ev : σV[i]? = some (some (.ref a)))
    (r : DRep K ct (upd F a u) d (.ref a)) : Stp K ct F H σV σ (upd F a u) (upd H a u) σV (σ.set i (some (.imm d))) := by
  have o : Own σV σ a := ⟨i, s, e, so, ev⟩
  have fa := (w.own o).1
  have le : Le F (upd F a u) := Le.laid fa
  refine ⟨⟨fun b q z => ?_, fun j t ej => ?_, fun j k t t' b ej ek to to' bj bk => ?_, ?_⟩, le, fun b q h n => ?_, fun _ h => upd_none h, fun b z => ?_, fun b z => ?_, fun j t ej tio => ?_, by simp⟩
  · by_cases hb : b = a
    · subst hb; rw [upd_same] at z ⊢; exact z
    · rw [upd_ne hb] at z ⊢; exact w.le b q z
  · rcases set_get ej with ⟨rfl, rfl⟩ | ⟨hj, ej⟩
    · exact ⟨_, ev, r⟩
    · obtain ⟨v', e1, r1⟩ := w.slot j t ej
      refine ⟨v', e1, r1.keep le fun to b eb => ?_⟩
      subst eb
      have nb : b ≠ a := fun z => by subst z; exact hj (w.dis j i t s b ej e to so e1 ev)
      exact ⟨by rw [upd_ne nb]; exact (w.own ⟨j, t, ej, to, e1⟩).1, by rw [upd_ne nb]⟩
  · rcases set_get ej with ⟨_, rfl⟩ | ⟨_, ej⟩
    · cases to
    · rcases set_get ek with ⟨_, rfl⟩ | ⟨_, ek⟩
      · cases to'
      · exact w.dis j k t t' b ej ek to to' bj bk
  · simp; exact w.ln
  · rw [upd_ne fun z => n (by subst z; exact o)]; exact h
  · by_cases hb : b = a
    · subst hb; exact .inr (.inr (.inl o))
    · rw [upd_ne hb] at z; exact .inl z
  · obtain ⟨j, t, ej, to, bj⟩ := z
    rcases set_get ej with ⟨_, rfl⟩ | ⟨_, ej⟩
    · cases to
    · exact .inl ⟨j, t, ej, to, bj⟩
  · have hj : j ≠ i := fun z => by subst z; rw [e] at ej; cases ej; rw [io] at tio; cases tio
    exact ⟨⟨t, by rw [List.getElem?_set_ne (Ne.symm hj)]; exact ej, tio⟩, rfl⟩
/-- a thing may be locked for good behind an expression -/
def tLk (t : TE) : TE := fun σV H Q => t σV H fun v H1 => Q v H1 ∨ ∃ d u, H1 d = some u ∧ Mut (some u) ∧ ∀ od, Q v (upd H1 d (.frz od u))
theorem pe_lk {e : Expr} {t : TE} (h : PE X e t) : PE X e (tLk t) := ⟨fun pins s σ H Q I q => thn (h.run pins s σ H _ I q) fun v s1 ⟨x, H1, I1, r, q1⟩ => by
  rcases q1 with q1 | ⟨d, u, hd, mu, q1⟩
  · exact ⟨x, H1, I1, r, q1⟩
  · obtain ⟨od, I2⟩ := I1.lock hd mu
    exact ⟨x, _, I2, r, q1 od⟩⟩
theorem DctO.mut {K} {t : Bool} {l : List (D × D)} {u : HO} (r : DctO K ct F t l u) : Mut (some u) := by
  rcases r with ⟨_, es, rfl, _⟩ | ⟨_, es, rfl, _⟩ <;> trivial
theorem se_const {e : Expr} {d : D} {v : V} (h : PE X e (tC v)) (r : ∀ F, DRep X.K ct F d v) : SE X ct e (mC d) := PEimp h fun σV H Q ⟨F, σ, w, d', σ', e, q⟩ => by
  cases e
  exact q v H F (Stp.refl w) (r F)
theorem se_int {i j pos} : SE X ct (.Constant (.int i) j pos) (mC (.int i)) := se_const pe_int fun _ => rfl
theorem se_bl {b j pos} : SE X ct (.Constant (.bool b) j pos) (mC (.bl b)) := se_const pe_bl fun _ => rfl
theorem se_non {j pos} : SE X ct (.Constant .none j pos) (mC .non) := se_const pe_non fun _ => rfl
theorem se_str {x j pos} : SE X ct (.Constant (.str x) j pos) (mC (.str x)) := se_const pe_str fun _ => rfl
theorem se_gint {x : Str} {i : Int} {pos : Pos} (hg : Gl X x) (hm : ∃ t, X.mg x = some (.int i t)) (hd : (x == ("__debug__" : Str)) = false := by decide) : SE X ct (.Name x pos) (mC (.int i)) := by
  obtain ⟨t, hm⟩ := hm
  exact se_const (v := .int i) (pe_glob hg hm ⟨t, rfl⟩ hd) fun _ => rfl
theorem se_var {i : Nat} {e : Expr} (h : PE X e (tVar i)) : SE X ct e (mV i) := PEimp (pe_lk h) fun σV H Q ⟨F, σ, w, d', σ', e, q⟩ => by
  unfold mV at e
  split at e
  · rename_i d h1
    cases e
    obtain ⟨v, e1, r⟩ := w.slot i _ h1
    exact ⟨v, e1, .inl (q v H F (Stp.refl w) r)⟩
  · rename_i l h1
    cases e
    obtain ⟨v, e1, a, vs, rfl, fa, ha, r⟩ := w.slot i _ h1
    have rr : DRep X.K ct (upd F a (.lst vs)) (.lst l) (.ref a) := ⟨a, vs, rfl, upd_same, DReps.mono (Le.laid fa) l vs r⟩
    have st := Stp.freeze w h1 rfl rfl e1 rr
    rw [upd_self ha] at st
    exact ⟨_, e1, .inl (q _ H _ st rr)⟩
  · rename_i t l h1
    cases e
    obtain ⟨v, e1, a, u, rfl, fa, ha, r⟩ := w.slot i _ h1
    refine ⟨_, e1, .inr ⟨a, u, ha, r.mut, fun od => ?_⟩⟩
    have rr : DRep X.K ct (upd F a (.frz od u)) (.dct t l) (.ref a) := ⟨a, od, u, rfl, upd_same, DctO.mono (Le.laid fa) r⟩
    exact q _ _ _ (Stp.freeze w h1 rfl rfl e1 rr) rr
  · cases e
theorem ae_v {e : Expr} {m : M D} (h : SE X ct e m) : AE X ct e (.val m) := h
theorem ae_p {e : Expr} {i : Nat} (h : PE X e (tVar i)) : AE X ct e (.pk i) := h
/-! ### fresh ones frozen -/
def mFz (m : M S) : M D := fun σ => match m σ with
  | some (s, σ') => some (s.toD, σ')
  | none => none
theorem Stp.freezeNew {K} {F2 H2 : Hp} (st : Stp K ct F H σV σ F2 H2 σV σ') {a : Addr} {u o0 : HO} (fa : F2 a = none) (ha : H2 a = some o0) (n1 : ¬ Own σV σ' a) (n2 : H a = none ∨ Own σV σ a) : Stp K ct F H σV σ (upd F2 a u) (upd H2 a u) σV σ' where
  w := ⟨fun b q z => by
      by_cases hb : b = a
      · subst hb; rw [upd_same] at z ⊢; exact z
      · rw [upd_ne hb] at z ⊢; exact st.w.le b q z, fun i s e => by
      obtain ⟨v, e1, r⟩ := st.w.slot i s e
      refine ⟨v, e1, r.keep (Le.laid fa) fun so b eb => ?_⟩
      subst eb
      have o : Own σV σ' b := ⟨i, s, e, so, e1⟩
      have nb : b ≠ a := fun z => n1 (z ▸ o)
      exact ⟨by rw [upd_ne nb]; exact (st.w.own o).1, by rw [upd_ne nb]⟩, st.w.dis, st.w.ln⟩
  le := st.le.trans (Le.laid fa)
  keep := fun b o h n => by
    rw [upd_ne fun z => by subst z; rcases n2 with n2 | n2; (rw [h] at n2; cases n2); exact n n2]
    exact st.keep b o h n
  there := fun b h => st.there b (upd_none h)
  froz := fun b z => by
    by_cases hb : b = a
    · subst hb
      rcases n2 with n2 | n2
      · exact .inr (.inl n2)
      · exact .inr (.inr (.inl n2))
    · rw [upd_ne hb] at z; exact st.froz b z
  own := st.own
  io := st.io
  len := st.len
theorem SF.toE {e : Expr} {m : M S} (h : SF X ct e m) : SE X ct e (mFz m) := PEimp (pe_lk h) fun σV H Q ⟨F, σ, w, d', σ', e, q⟩ => by
  unfold mFz at e
  split at e
  · rename_i s σ1 h1
    cases e
    refine ⟨F, σ, w, _, _, h1, fun v H' F' st r => ?_⟩
    cases s with
    | prv => exact Bool.noConfusion (show true = false from r.1)
    | imm d => exact .inl (q v H' F' st r)
    | ls b l =>
      obtain ⟨_, ⟨a, vs, e, fa, ha, r⟩, n⟩ := r
      obtain ⟨n1, n2⟩ := n a e
      have st' := Stp.freezeNew (u := .lst vs) st fa ha n1 n2
      rw [upd_self ha] at st'
      exact .inl (q v H' _ st' ⟨a, vs, e, upd_same, DReps.mono (Le.laid fa) l vs r⟩)
    | ds b t l =>
      obtain ⟨_, ⟨a, u, e, fa, ha, r⟩, n⟩ := r
      obtain ⟨n1, n2⟩ := n a e
      exact .inr ⟨a, u, ha, r.mut, fun od => q v _ _ (Stp.freezeNew st fa ha n1 n2) ⟨a, od, u, e, upd_same, DctO.mono (Le.laid fa) r⟩⟩
  · cases e
def mIm (m : M D) : M S := fun σ => match m σ with
  | some (d, σ') => some (.imm d, σ')
  | none => none
theorem SE.toF {e : Expr} {m : M D} (h : SE X ct e m) : SF X ct e (mIm m) := PEimp h fun σV H Q ⟨F, σ, w, d', σ', e, q⟩ => by
  unfold mIm at e
  split at e
  · rename_i s σ1 h1
    cases e
    exact ⟨F, σ, w, _, _, h1, fun v H' F' st r => q v H' F' st r⟩
  · cases e
/-- a name's own thing goes over -/
def mMv (i : Nat) : M S := fun σ => match σ[i]? with
  | some (some (.ls false l)) => some (.ls false l, σ.set i none)
  | some (some (.ds false t l)) => some (.ds false t l, σ.set i none)
  | some (some (.imm d)) => some (.imm d, σ)
  | _ => none
theorem set_getN {i : Nat} {j : Nat} {t : S} (e : (σ.set i none)[j]? = some (some t)) : j ≠ i ∧ σ[j]? = some (some t) := by
  rw [List.getElem?_set] at e
  by_cases h : i = j
  · subst h
    rw [if_pos rfl] at e
    split at e <;> cases e
  · rw [if_neg h] at e
    exact ⟨Ne.symm h, e⟩
/-- a slot is forgotten -/
theorem Stp.drop {K} (w : Wd K ct F H σV σ) (i : Nat) (io : ∀ s, σ[i]? = some (some s) → s.io = false) : Stp K ct F H σV σ F H σV (σ.set i none) where
  w := ⟨w.le, fun j t e => w.slot j t (set_getN e).2, fun j k t t' b ej ek => w.dis j k t t' b (set_getN ej).2 (set_getN ek).2, by simp; exact w.ln⟩
  le := Le.refl F
  keep := fun _ _ h _ => h
  there := fun _ h => h
  froz := fun _ h => .inl h
  own := fun b ⟨j, t, e, q⟩ => .inl ⟨j, t, (set_getN e).2, q⟩
  io := fun j t e tio => by
    have hj : j ≠ i := fun z => by subst z; rw [io t e] at tio; cases tio
    exact ⟨⟨t, by rw [List.getElem?_set_ne (Ne.symm hj)]; exact e, tio⟩, rfl⟩
  len := by simp
theorem own_drop {i : Nat} {a : Addr} (w : Wd X.K ct F H σV σ) (e1 : σV[i]? = some (some (.ref a))) {s : S} (e : σ[i]? = some (some s)) (so : s.own = true) : ¬ Own σV (σ.set i none) a := fun ⟨j, t, ej, to, bj⟩ => by
  obtain ⟨hj, ej⟩ := set_getN ej
  exact hj (w.dis j i t s a ej e to so bj e1)
theorem sf_mv {i : Nat} {e : Expr} (h : PE X e (tVar i)) : SF X ct e (mMv i) := PEimp h fun σV H Q ⟨F, σ, w, d', σ', e, q⟩ => by
  unfold mMv at e
  split at e
  · rename_i l h1
    cases e
    obtain ⟨v, e1, r⟩ := w.slot i _ h1
    refine ⟨v, e1, q v H F (Stp.drop w i fun s q => by rw [h1] at q; cases q; rfl) ⟨rfl, r, fun a ea => ?_⟩⟩
    subst ea
    exact ⟨own_drop w e1 h1 rfl, .inr ⟨i, _, h1, rfl, e1⟩⟩
  · rename_i t l h1
    cases e
    obtain ⟨v, e1, r⟩ := w.slot i _ h1
    refine ⟨v, e1, q v H F (Stp.drop w i fun s q => by rw [h1] at q; cases q; rfl) ⟨rfl, r, fun a ea => ?_⟩⟩
    subst ea
    exact ⟨own_drop w e1 h1 rfl, .inr ⟨i, _, h1, rfl, e1⟩⟩
  · rename_i d h1
    cases e
    obtain ⟨v, e1, r⟩ := w.slot i _ h1
    exact ⟨v, e1, q v H F (Stp.refl w) r⟩
  · cases e
end
end Ev
end

section
set_option Elab.async false
set_option linter.all false
/-! Ev2: operators, comparisons, calls of built-ins by one rule each. -/
namespace Ev
open PySem PySem.Spec L2
set_option autoImplicit false
structure Grw (F H F' H' : Hp) : Prop where
  le : Le F F'
  le' : Le F' H'
  keep : Le H H'
  froz : ∀ a, F' a ≠ none → F a ≠ none ∨ H a = none ∨ ∃ xs, H a = some (.tup xs)
theorem Grw.refl {F H : Hp} (le : Le F H) : Grw F H F H := ⟨Le.refl F, le, Le.refl H, fun _ h => .inl h⟩
theorem Grw.new {F H : Hp} (le : Le F H) {p : Addr} {o : HO} (h : H p = none) : Grw F H (upd F p o) (upd H p o) :=
  ⟨Le.laid (le.none h), fun a u e => by
    by_cases z : a = p
    · subst z; rw [upd_same] at e ⊢; exact e
    · rw [upd_ne z] at e ⊢; exact le a u e, Le.laid h, fun a q => by
    by_cases z : a = p
    · subst z; exact .inr (.inl h)
    · rw [upd_ne z] at q; exact .inl q⟩
theorem Grw.lay {F H : Hp} (le : Le F H) {p : Addr} {o : HO} (h : H p = none) : Grw F H F (upd H p o) := ⟨Le.refl F, le.trans (Le.laid h), Le.laid h, fun _ q => .inl q⟩
theorem Grw.stp {K ct} {F H F' H' : Hp} {σV : St} {σ : Fr} (g : Grw F H F' H') (w : Wd K ct F H σV σ) : Stp K ct F H σV σ F' H' σV σ := Stp.grow w g.le g.le' g.keep g.froz
theorem Grw.trans {F H F' H' F2 H2 : Hp} (g : Grw F H F' H') (k : Grw F' H' F2 H2) : Grw F H F2 H2 := ⟨g.le.trans k.le, k.le', g.keep.trans k.keep, fun a h => by
  rcases k.froz a h with h | h | ⟨xs, h⟩
  · exact g.froz a h
  · exact .inr (.inl (g.keep.none h))
  · cases q : H a with
    | none => exact .inr (.inl rfl)
    | some o =>
      have e := g.keep a o q
      rw [h] at e
      cases e
      exact .inr (.inr ⟨xs, rfl⟩)⟩
/-- a tuple that is there counts as frozen -/
theorem Grw.tup {F H : Hp} (le : Le F H) {q : Addr} {xs : List V} (h : H q = some (.tup xs)) (hf : ∀ o, F q = some o → o = .tup xs) : Grw F H (upd F q (.tup xs)) H :=
  ⟨fun a o e => by
    by_cases z : a = q
    · subst z; rw [upd_same, hf o e]
    · rw [upd_ne z]; exact e, fun a o e => by
    by_cases z : a = q
    · subst z; rw [upd_same] at e; cases e; exact h
    · rw [upd_ne z] at e; exact le a o e, Le.refl H, fun a e => by
    by_cases z : a = q
    · subst z; exact .inr (.inr ⟨xs, h⟩)
    · rw [upd_ne z] at e; exact .inl e⟩
def GRep (K : PySem.W.Frag) (ct : Ct) (H F' H' : Hp) : S → V → Prop
  | .imm d, v => DRep K ct F' d v
  | .ls b l, v => b = false ∧ ∃ a vs, v = .ref a ∧ H a = none ∧ F' a = none ∧ H' a = some (.lst vs) ∧ DReps K ct F' l vs
  | .ds b t l, v => b = false ∧ ∃ a u, v = .ref a ∧ H a = none ∧ F' a = none ∧ H' a = some u ∧ DctO K ct F' t l u
  | .prv, _ => False
theorem GRep.fresh {K ct} {F H F1 H1 F2 H2 : Hp} {σV : St} {σ σ' : Fr} (st : Stp K ct F H σV σ F1 H1 σV σ') (g : Grw F1 H1 F2 H2) : ∀ {s : S} {v : V}, GRep K ct H1 F2 H2 s v → FRep K ct H σV σ F2 H2 σ' s v
  | .imm d, _, r => r
  | .prv, _, r => r.elim
  | .ls b l, _, ⟨hb, a, vs, e, h1, h2, h3, r⟩ => ⟨hb, ⟨a, vs, e, h2, h3, r⟩, fun c ec => by
      rw [e] at ec; cases ec
      exact ⟨fun o => by obtain ⟨_, u, z, _⟩ := st.w.own o; rw [h1] at z; exact absurd z (by simp), .inl (st.there a h1)⟩⟩
  | .ds b _ l, _, ⟨hb, a, vs, e, h1, h2, h3, r⟩ => ⟨hb, ⟨a, vs, e, h2, h3, r⟩, fun c ec => by
      rw [e] at ec; cases ec
      exact ⟨fun o => by obtain ⟨_, u, z, _⟩ := st.w.own o; rw [h1] at z; exact absurd z (by simp), .inl (st.there a h1)⟩⟩
def m2 (f : D → D → Option S) (a b : A) : M S := fun σ => match a.two b σ with
  | some ((d, e), σ') => (match f d e with
    | some s => some (s, σ')
    | none => none)
  | none => none
def m1 (f : D → Option S) (a : A) : M S := fun σ => match a.one σ with
  | some (d, σ') => (match f d with
    | some s => some (s, σ')
    | none => none)
  | none => none
def mT (m : M S) : M Bool := fun σ => match m σ with
  | some (.imm (.bl b), σ') => some (b, σ')
  | _ => none
/-- what a rule by values must bear -/
def OpOk (X : Cx) (ct : Ct) (r : R2) (f : D → D → Option S) : Prop := ∀ (F H : Hp) (d e : D) (c : S) (x y : V) (Q : VK), Le F H → f d e = some c → VRep X.K ct F H d x → VRep X.K ct F H e y →
  (∀ v F' H', Grw F H F' H' → GRep X.K ct H F' H' c v → Q v H') → r x y H Q
def UnOk (X : Cx) (ct : Ct) (r : V → Hp → VK → Prop) (f : D → Option S) : Prop := ∀ (F H : Hp) (d : D) (c : S) (x : V) (Q : VK), Le F H → f d = some c → VRep X.K ct F H d x →
  (∀ v F' H', Grw F H F' H' → GRep X.K ct H F' H' c v → Q v H') → r x H Q
section
variable {X : Cx} {ct : Ct} {a b c : Expr} {pos : Pos} {r r' : R2} {f g : D → D → Option S} {a' b' c' : A}
theorem m2_ok {σV : St} {H : Hp} {F : Hp} {σ σ' : Fr} {s : S} {Q : VK} (k : OpOk X ct r f) (w : Wd X.K ct F H σV σ) (e : m2 f a' b' σ = some (s, σ'))
    (q : ∀ v H' F', Stp X.K ct F H σV σ F' H' σV σ' → FRep X.K ct H σV σ F' H' σ' s v → Q v H') : tOp r (a'.rd X ct) (b'.rd X ct) σV H Q := by
  unfold m2 at e
  split at e
  · rename_i d e' σ1 h1
    split at e
    · rename_i s' h2
      cases e
      exact A.two_ok w h1 fun x y H1 F1 st rx ry => k F1 H1 d e' s x y Q st.w.le h2 rx ry fun v F2 H2 gr rv => q v H2 F2 (st.trans (gr.stp st.w)) (GRep.fresh st gr rv)
    · cases e
  · cases e
theorem m1_ok {σV : St} {H : Hp} {F : Hp} {σ σ' : Fr} {s : S} {Q : VK} {r : V → Hp → VK → Prop} {f : D → Option S} (k : UnOk X ct r f) (w : Wd X.K ct F H σV σ) (e : m1 f a' σ = some (s, σ'))
    (q : ∀ v H' F', Stp X.K ct F H σV σ F' H' σV σ' → FRep X.K ct H σV σ F' H' σ' s v → Q v H') : a'.rd X ct σV H fun x H1 => r x H1 Q := by
  unfold m1 at e
  split at e
  · rename_i d σ1 h1
    split at e
    · rename_i s' h2
      cases e
      exact A.one_ok w h1 fun x H1 F1 st rx => k F1 H1 d s x Q st.w.le h2 rx fun v F2 H2 gr rv => q v H2 F2 (st.trans (gr.stp st.w)) (GRep.fresh st gr rv)
    · cases e
  · cases e
theorem sf_bin {op : Operator} (ho : OpR X (binaryOp op) r) (k : OpOk X ct r f) (ha : AE X ct a a') (hb : AE X ct b b') : SF X ct (.BinOp a op b pos) (m2 f a' b') :=
  PEimp (pe_op ho ha hb) fun σV H Q ⟨F, σ, w, s, σ', e, q⟩ => m2_ok k w e q
theorem sf_un {op : UnaryOp} {r : V → Hp → VK → Prop} {f : D → Option S} (ho : UnR X (unaryOp op) r) (k : UnOk X ct r f) (ha : AE X ct a a') : SF X ct (.UnaryOp op a pos) (m1 f a') :=
  PEimp (pe_un ho ha) fun σV H Q ⟨F, σ, w, s, σ', e, q⟩ => m1_ok k w e q
theorem sf_cmp {op : CmpOp} (ho : OpR X (compareOp op) r) (k : OpOk X ct r f) (ha : AE X ct a a') (hb : AE X ct b b') (hm : behindInMarks op b = false) : SF X ct (.Compare a [op] [b] pos) (m2 f a' b') :=
  PEimp (pe_cmpR ho ha hb hm) fun σV H Q ⟨F, σ, w, s, σ', e, q⟩ => m2_ok k w e q
theorem st_of {t : TE} {m : M S} {e : Expr} (h : PT X e (tTest t)) (i : ∀ σV H Q, rdF X ct m σV H Q → t σV H Q) : ST X ct e (mT m) := PTimp h fun σV H Q ⟨F, σ, w, s, σ', e, q⟩ => by
  refine i σV H _ ?_
  unfold mT at e
  split at e
  · rename_i b σ1 h1
    cases e
    exact ⟨F, σ, w, _, _, h1, fun v H' F' st rv => ⟨_, rv, q H' F' st⟩⟩
  · cases e
theorem st_cmp {op : CmpOp} (ho : OpR X (compareOp op) r) (k : OpOk X ct r f) (ha : AE X ct a a') (hb : AE X ct b b') (hm : behindInMarks op b = false) : ST X ct (.Compare a [op] [b] pos) (mT (m2 f a' b')) :=
  st_of (pt_cmpR ho ha hb hm) fun σV H Q ⟨F, σ, w, s, σ', e, q⟩ => m2_ok k w e q
/-- a value that is a flag, as a test -/
theorem st_val {e : Expr} {m : M S} (h : SF X ct e m) (he : ∀ whole, isTrue e X.env whole = (do let v ← whole; standAt e.pos; holding [v] (truthy v)) := by intro _; rfl) : ST X ct e (mT m) :=
  st_of (t := rdF X ct m) (pt_val h he) fun _ _ _ q => q
/-! ### chains -/
def mCh (f g : D → D → Option S) (a b c : A) : M S := fun σ => match a.two b σ with
  | some ((d, e), σ') => (match f d e with
    | some (.imm (.bl true)) => (match c.one σ' with
      | some (u, σ2) => (match g e u with
        | some s => some (s, σ2)
        | none => none)
      | none => none)
    | some (.imm (.bl false)) => some (.imm (.bl false), σ')
    | _ => none)
  | none => none
/-- the middle one is deep: it stays -/
def midOk : A → Prop
  | .val _ => True
  | .pk _ => False
/-- chains of ints -/
def fI2 (p : Int → Int → D) : D → D → Option S
  | .int i, .int j => some (.imm (p i j))
  | _, _ => none
theorem k_int0 {g : Int → Int → V} {p : Int → Int → D} (hp : ∀ (F : Hp) i j, DRep X.K ct F (p i j) (g i j)) : OpOk X ct (rI0 g) (fI2 p) := fun F H d e c x y Q le hf rx ry q => by
  unfold fI2 at hf
  split at hf
  · rename_i i j
    cases hf
    exact ⟨i, j, rx, ry, q _ F H (Grw.refl le) (hp F i j)⟩
  · cases hf
/-- ints under a bound that is decided -/
def fI2c (C : Int → Int → Bool) (p : Int → Int → D) : D → D → Option S
  | .int i, .int j => if C i j then some (.imm (p i j)) else none
  | _, _ => none
theorem k_intC {C : Int → Int → Prop} {C' : Int → Int → Bool} {g : Int → Int → V} {p : Int → Int → D} (hC : ∀ i j, C' i j = true → C i j) (hp : ∀ (F : Hp) i j, DRep X.K ct F (p i j) (g i j)) : OpOk X ct (rI C g) (fI2c C' p) := fun F H d e c x y Q le hf rx ry q => by
  unfold fI2c at hf
  split at hf
  · rename_i i j
    split at hf
    · rename_i hc
      cases hf
      exact ⟨i, j, rx, ry, hC i j hc, q _ F H (Grw.refl le) (hp F i j)⟩
    · cases hf
  · cases hf
theorem k_sub : OpOk X ct (rI0 fun i j => .int (i - j)) (fI2 fun i j => .int (i - j)) := k_int0 fun _ _ _ => rfl
theorem k_lt : OpOk X ct (rI0 fun i j => .bl (decide (i < j))) (fI2 fun i j => .bl (decide (i < j))) := k_int0 fun _ _ _ => rfl
theorem k_le : OpOk X ct (rI0 fun i j => .bl (decide (i ≤ j))) (fI2 fun i j => .bl (decide (i ≤ j))) := k_int0 fun _ _ _ => rfl
theorem k_gt : OpOk X ct (rI0 fun i j => .bl (decide (j < i))) (fI2 fun i j => .bl (decide (j < i))) := k_int0 fun _ _ _ => rfl
theorem k_ge : OpOk X ct (rI0 fun i j => .bl (decide (j ≤ i))) (fI2 fun i j => .bl (decide (j ≤ i))) := k_int0 fun _ _ _ => rfl
def sml (i : Int) : Bool := decide (-(2 ^ 64) < i) && decide (i < 2 ^ 64)
def cMul (i j : Int) : Bool := sml i || sml j
theorem cMul_ok (i j : Int) (h : cMul i j = true) : CMul i j := by
  unfold cMul sml at h
  simp only [Bool.or_eq_true, Bool.and_eq_true, decide_eq_true_eq] at h
  exact h
theorem k_mul : OpOk X ct (rI CMul fun i j => .int (i * j)) (fI2c cMul fun i j => .int (i * j)) := k_intC cMul_ok fun _ _ _ => rfl
def cPos (_ j : Int) : Bool := decide (0 < j)
theorem k_mod : OpOk X ct (rI (fun _ j => 0 < j) fun i j => .int (i % j)) (fI2c cPos fun i j => .int (i % j)) := k_intC (fun _ _ h => of_decide_eq_true h) fun _ _ _ => rfl
def cDv (_ j : Int) : Bool := decide (0 < j) && decide (j < 1073741824)
theorem k_fdiv : OpOk X ct (rI CDiv fun i j => .int (i / j)) (fI2c cDv fun i j => .int (i / j)) := k_intC (fun i j h => by unfold cDv at h; simp only [Bool.and_eq_true, decide_eq_true_eq] at h; exact h) fun _ _ _ => rfl
def cPw (i j : Int) : Bool := decide (0 ≤ j) && decide (j ≤ 1000000) && decide (i.natAbs < 2 ^ 64)
theorem k_pow : OpOk X ct (rI CPow fun i j => .int (i ^ j.toNat)) (fI2c cPw fun i j => .int (i ^ j.toNat)) := k_intC (fun i j h => by unfold cPw at h; simp only [Bool.and_eq_true, decide_eq_true_eq] at h; exact ⟨h.1.1, h.1.2, h.2⟩) fun _ _ _ => rfl
def fNeg : D → Option S
  | .int i => some (.imm (.int (-i)))
  | _ => none
theorem k_neg : UnOk X ct (rU fun i => .int (-i)) fNeg := fun F H d c x Q le hf rx q => by
  unfold fNeg at hf
  split at hf
  · rename_i i
    cases hf
    exact ⟨i, rx, q _ F H (Grw.refl le) rfl⟩
  · cases hf
/-! ### and, or, not, if -/
def bAnd (m n : M Bool) : M Bool := fun σ => match m σ with
  | some (true, σ') => n σ'
  | some (false, σ') => some (false, σ')
  | none => none
def bOr (m n : M Bool) : M Bool := fun σ => match m σ with
  | some (false, σ') => n σ'
  | some (true, σ') => some (true, σ')
  | none => none
def bNot (m : M Bool) : M Bool := fun σ => match m σ with
  | some (b, σ') => some (!b, σ')
  | none => none
variable {m n : M Bool} {rest : List Expr}
theorem sw_and1 (ha : ST X ct a m) : SW X ct (.BoolOp .And [a] pos) m := pw_and1 ha
theorem sw_or1 (ha : ST X ct a m) : SW X ct (.BoolOp .Or [a] pos) m := pw_or1 ha
theorem sw_and (ha : ST X ct a m) (hb : SW X ct (.BoolOp .And (b :: rest) pos) n) : SW X ct (.BoolOp .And (a :: b :: rest) pos) (bAnd m n) := PWimp (pw_and ha hb) fun σV H Q ⟨F, σ, w, s, σ', e, q⟩ => by
  unfold bAnd at e
  split at e
  · rename_i σ1 h1
    exact ⟨F, σ, w, _, _, h1, fun H1 F1 st => iteT (⟨F1, σ1, st.w, _, _, e, fun H2 F2 st2 => q H2 F2 (st.trans st2)⟩)⟩
  · rename_i σ1 h1
    cases e
    exact ⟨F, σ, w, _, _, h1, fun H1 F1 st => iteF (q H1 F1 st)⟩
  · cases e
theorem sw_or (ha : ST X ct a m) (hb : SW X ct (.BoolOp .Or (b :: rest) pos) n) : SW X ct (.BoolOp .Or (a :: b :: rest) pos) (bOr m n) := PWimp (pw_or ha hb) fun σV H Q ⟨F, σ, w, s, σ', e, q⟩ => by
  unfold bOr at e
  split at e
  · rename_i σ1 h1
    exact ⟨F, σ, w, _, _, h1, fun H1 F1 st => iteF (⟨F1, σ1, st.w, _, _, e, fun H2 F2 st2 => q H2 F2 (st.trans st2)⟩)⟩
  · rename_i σ1 h1
    cases e
    exact ⟨F, σ, w, _, _, h1, fun H1 F1 st => iteT (q H1 F1 st)⟩
  · cases e
theorem SW.t {e : Expr} (h : SW X ct e m) : ST X ct e m := PW.pt h
theorem st_not (ha : ST X ct a m) : ST X ct (.UnaryOp .Not a pos) (bNot m) := PTimp (pt_not ha) fun σV H Q ⟨F, σ, w, s, σ', e, q⟩ => by
  unfold bNot at e
  split at e
  · rename_i b σ1 h1
    cases e
    exact ⟨F, σ, w, _, _, h1, fun H1 F1 st => q H1 F1 st⟩
  · cases e
/-- flags as values: all but the last -/
def mAnd (m n : M S) : M S := fun σ => match m σ with
  | some (.imm (.bl true), σ') => n σ'
  | some (.imm (.bl false), σ') => some (.imm (.bl false), σ')
  | _ => none
def mOr (m n : M S) : M S := fun σ => match m σ with
  | some (.imm (.bl false), σ') => n σ'
  | some (.imm (.bl true), σ') => some (.imm (.bl true), σ')
  | _ => none
def mNot (m : M S) : M S := fun σ => match m σ with
  | some (.imm (.bl b), σ') => some (.imm (.bl (!b)), σ')
  | _ => none
theorem FRep.step {K} {F H F1 H1 F2 H2 : Hp} {σV : St} {σ σ1 σ2 : Fr} (st : Stp K ct F H σV σ F1 H1 σV σ1) : ∀ {s : S} {v : V}, FRep K ct H1 σV σ1 F2 H2 σ2 s v → FRep K ct H σV σ F2 H2 σ2 s v
  | .imm d, _, r => r
  | .ls b l, _, ⟨h1, h2, h3⟩ => ⟨h1, h2, fun a e => ⟨(h3 a e).1, (h3 a e).2.elim (fun z => .inl (st.there a z)) fun z => (st.own a z).symm⟩⟩
  | .ds b _ l, _, ⟨h1, h2, h3⟩ => ⟨h1, h2, fun a e => ⟨(h3 a e).1, (h3 a e).2.elim (fun z => .inl (st.there a z)) fun z => (st.own a z).symm⟩⟩
  | .prv, _, ⟨h1, h2, h3⟩ => ⟨h1, h2, fun a e => ⟨(h3 a e).1, (h3 a e).2.elim (fun z => .inl (st.there a z)) fun z => (st.own a z).symm⟩⟩
variable {p q' : M S}
theorem sf_one {op} (h : SF X ct a p) : SF X ct (.BoolOp op [a] pos) p := pe_one h
theorem sf_and (ha : SF X ct a p) (hb : SF X ct (.BoolOp .And (b :: rest) pos) q') : SF X ct (.BoolOp .And (a :: b :: rest) pos) (mAnd p q') := PEimp (pe_and ha hb) fun σV H Q ⟨F, σ, w, s, σ', e, q⟩ => by
  unfold mAnd at e
  split at e
  · rename_i σ1 h1
    refine ⟨F, σ, w, _, _, h1, fun v H1 F1 st rv => ⟨true, rv, ?_⟩⟩
    refine iteT ?_
    exact ⟨F1, σ1, st.w, _, _, e, fun v H2 F2 st2 r2 => q v H2 F2 (st.trans st2) (FRep.step st r2)⟩
  · rename_i σ1 h1
    cases e
    refine ⟨F, σ, w, _, _, h1, fun v H1 F1 st rv => ⟨false, rv, ?_⟩⟩
    refine iteF ?_
    exact q _ H1 F1 st rfl
  · cases e
theorem sf_or (ha : SF X ct a p) (hb : SF X ct (.BoolOp .Or (b :: rest) pos) q') : SF X ct (.BoolOp .Or (a :: b :: rest) pos) (mOr p q') := PEimp (pe_or ha hb) fun σV H Q ⟨F, σ, w, s, σ', e, q⟩ => by
  unfold mOr at e
  split at e
  · rename_i σ1 h1
    refine ⟨F, σ, w, _, _, h1, fun v H1 F1 st rv => ⟨false, rv, ?_⟩⟩
    refine iteF ?_
    exact ⟨F1, σ1, st.w, _, _, e, fun v H2 F2 st2 r2 => q v H2 F2 (st.trans st2) (FRep.step st r2)⟩
  · rename_i σ1 h1
    cases e
    refine ⟨F, σ, w, _, _, h1, fun v H1 F1 st rv => ⟨true, rv, ?_⟩⟩
    refine iteT ?_
    exact q _ H1 F1 st rfl
  · cases e
theorem sf_not (ha : SF X ct a p) : SF X ct (.UnaryOp .Not a pos) (mNot p) := PEimp (pe_not ha) fun σV H Q ⟨F, σ, w, s, σ', e, q⟩ => by
  unfold mNot at e
  split at e
  · rename_i b σ1 h1
    cases e
    exact ⟨F, σ, w, _, _, h1, fun v H1 F1 st rv => ⟨b, rv, q _ H1 F1 st rfl⟩⟩
  · cases e
def mIf {α : Type} (t : M Bool) (p q : M α) : M α := fun σ => match t σ with
  | some (true, σ') => p σ'
  | some (false, σ') => q σ'
  | none => none
theorem sf_if {t : M Bool} (hc : ST X ct c t) (ha : SF X ct a p) (hb : SF X ct b q') : SF X ct (.IfExp c a b pos) (mIf t p q') := PEimp (pe_ifExp hc ha hb) fun σV H Q ⟨F, σ, w, s, σ', e, q⟩ => by
  unfold mIf at e
  split at e
  · rename_i σ1 h1
    refine ⟨F, σ, w, _, _, h1, fun H1 F1 st => ?_⟩
    refine iteT ?_
    exact ⟨F1, σ1, st.w, _, _, e, fun v H2 F2 st2 r2 => q v H2 F2 (st.trans st2) (FRep.step st r2)⟩
  · rename_i σ1 h1
    refine ⟨F, σ, w, _, _, h1, fun H1 F1 st => ?_⟩
    refine iteF ?_
    exact ⟨F1, σ1, st.w, _, _, e, fun v H2 F2 st2 r2 => q v H2 F2 (st.trans st2) (FRep.step st r2)⟩
  · cases e
end
end Ev
end

section
set_option Elab.async false
set_option linter.all false
/-! Ev3: == and in over deep values; displays, subscripts, built-ins. -/
namespace Ev
open PySem PySem.Spec L2
set_option autoImplicit false
mutual
def D.toP : D → PyData
  | .non => .none
  | .bl b => .bool b
  | .int i => .int i
  | .str x => .str x
  | .tup _ l => .tuple (D.toPs l)
  | .lst l => .list (D.toPs l)
  | _ => .dict []
def D.toPs : List D → List PyData
  | [] => []
  | d :: l => d.toP :: D.toPs l
end
mutual
/-- none, flags, ints, texts, tuples, lists -/
def D.pl : D → Bool
  | .non => true
  | .bl _ => true
  | .int _ => true
  | .str x => PyData.strOk x
  | .tup _ l => D.pls l
  | .lst l => D.pls l
  | _ => false
def D.pls : List D → Bool
  | [] => true
  | d :: l => d.pl && D.pls l
end
mutual
def D.dp : D → Nat
  | .tup _ l => D.dps l + 1
  | .lst l => D.dps l + 1
  | _ => 0
def D.dps : List D → Nat
  | [] => 0
  | d :: l => max d.dp (D.dps l)
end
mutual
theorem pl_lay : ∀ d : D, d.pl = true → d.toP.canLay0 = true ∧ d.toP.depth = d.dp
  | .non, _ => ⟨rfl, rfl⟩
  | .bl _, _ => ⟨rfl, rfl⟩
  | .int _, _ => ⟨rfl, rfl⟩
  | .str _, h => ⟨h, rfl⟩
  | .tup _ l, h => by
    obtain ⟨h1, h2⟩ := pls_lay l h
    exact ⟨h1, by simp only [D.toP, PyData.depth, D.dp, h2]⟩
  | .lst l, h => by
    obtain ⟨h1, h2⟩ := pls_lay l h
    exact ⟨h1, by simp only [D.toP, PyData.depth, D.dp, h2]⟩
  | .dct _ _, h => by cases h
  | .ins _ _, h => by cases h
  | .scr _, h => by cases h
theorem pls_lay : ∀ l : List D, D.pls l = true → PyData.canLayAll0 (D.toPs l) = true ∧ PyData.depthAll (D.toPs l) = D.dps l
  | [], _ => ⟨rfl, rfl⟩
  | d :: l, h => by
    have h' : (d.pl && D.pls l) = true := h
    rw [Bool.and_eq_true] at h'
    obtain ⟨a1, a2⟩ := pl_lay d h'.1
    obtain ⟨b1, b2⟩ := pls_lay l h'.2
    exact ⟨by simp only [D.toPs, PyData.canLayAll0, a1, b1, Bool.and_self], by simp only [D.toPs, PyData.depthAll, D.dps, a2, b2]⟩
end
def D.sh (d : D) : Bool := d.pl && decide (d.dp ≤ 64)
theorem D.sh_ok {d : D} (h : d.sh = true) : SeqAt.shaped d.toP = true := by
  unfold D.sh at h
  rw [Bool.and_eq_true, decide_eq_true_eq] at h
  obtain ⟨h1, h2⟩ := pl_lay d h.1
  unfold SeqAt.shaped
  rw [h1, h2]
  simp [h.2]
mutual
theorem dp_of {K ct F} : ∀ (d : D) (v : V), d.pl = true → DRep K ct F d v → Dp K F v d.toP
  | .non, _, _, r => by rw [show _ = _ from r]; exact .non
  | .bl _, _, _, r => by rw [show _ = _ from r]; exact .bl _
  | .int _, _, _, r => by rw [show _ = _ from r]; exact .int _
  | .str _, _, _, r => by rw [show _ = _ from r]; exact .str _
  | .tup _ l, _, h, ⟨a, vs, e, s, r⟩ => by rw [e]; exact .tup s.sqt (dps_of l vs h r)
  | .lst l, _, h, ⟨a, vs, e, s, r⟩ => by rw [e]; exact .lst (SqL.of s) (dps_of l vs h r)
  | .dct _ _, _, h, _ => by cases h
  | .ins _ _, _, h, _ => by cases h
  | .scr _, _, h, _ => by cases h
theorem dps_of {K ct F} : ∀ (l : List D) (vs : List V), D.pls l = true → DReps K ct F l vs → DpAll K F vs (D.toPs l)
  | [], _, _, r => by rw [show _ = [] from r]; exact .nil
  | d :: l, _, h, ⟨v, t, e, r, q⟩ => by
    have h' : (d.pl && D.pls l) = true := h
    rw [Bool.and_eq_true] at h'
    rw [e]
    exact .cons (dp_of d v h'.1 r) (dps_of l t h'.2 q)
end
mutual
theorem dp_le {K} {F H : Hp} (le : Le F H) : ∀ (p : PyData) (v : V), Dp K F v p → Dp K H v p
  | .none, _, h => by cases h; exact .non
  | .bool _, _, h => by cases h; exact .bl _
  | .int _, _, h => by cases h; exact .int _
  | .str _, _, h => by cases h; exact .str _
  | .list ds, _, h => by cases h with | lst s r => exact .lst (le.sql s) (dps_le le ds _ r)
  | .tuple ds, _, h => by cases h with | tup s r => exact .tup (le.sqt s) (dps_le le ds _ r)
  | .dict _, _, h => by cases h
theorem dps_le {K} {F H : Hp} (le : Le F H) : ∀ (p : List PyData) (v : List V), DpAll K F v p → DpAll K H v p
  | [], _, h => by cases h; exact .nil
  | d :: ds, _, h => by cases h with | cons a b => exact .cons (dp_le le d _ a) (dps_le le ds _ b)
end
theorem vdp {K ct} {F H : Hp} (le : Le F H) : ∀ {d : D} {v : V}, d.pl = true → VRep K ct F H d v → Dp K H v d.toP
  | .lst l, _, h, ⟨a, vs, e, s, r⟩ => by rw [e]; exact .lst (SqL.of s) (dps_le le _ _ (dps_of l vs h r))
  | .non, _, h, r => dp_le le _ _ (dp_of (ct := ct) _ _ h r)
  | .bl _, _, h, r => dp_le le _ _ (dp_of (ct := ct) _ _ h r)
  | .int _, _, h, r => dp_le le _ _ (dp_of (ct := ct) _ _ h r)
  | .str _, _, h, r => dp_le le _ _ (dp_of (ct := ct) _ _ h r)
  | .tup _ _, _, h, r => dp_le le _ _ (dp_of (ct := ct) _ _ h r)
  | .dct _ _, _, h, _ => by cases h
  | .ins _ _, _, h, _ => by cases h
  | .scr _, _, h, _ => by cases h
mutual
/-- == of plain deep values -/
def D.eqv : D → D → Bool
  | .non, .non => true
  | .bl a, .bl b => a == b
  | .bl a, .int j => (if a then 1 else 0) == j
  | .int i, .bl b => i == (if b then 1 else 0)
  | .int i, .int j => i == j
  | .str x, .str y => x == y
  | .lst xs, .lst ys => D.eqvs xs ys
  | .tup _ xs, .tup _ ys => D.eqvs xs ys
  | _, _ => false
def D.eqvs : List D → List D → Bool
  | [], [] => true
  | x :: xs, y :: ys => D.eqv x y && D.eqvs xs ys
  | _, _ => false
end
mutual
theorem eqv_toP : ∀ d e : D, PyData.eqv d.toP e.toP = D.eqv d e
  | .non, e => by cases e <;> simp [D.toP, PyData.eqv, D.eqv]
  | .bl _, e => by cases e <;> simp [D.toP, PyData.eqv, D.eqv]
  | .int _, e => by cases e <;> simp [D.toP, PyData.eqv, D.eqv]
  | .str _, e => by cases e <;> simp [D.toP, PyData.eqv, D.eqv]
  | .tup _ l, e => by cases e with
    | tup _ m => simp only [D.toP, PyData.eqv, D.eqv]; exact eqvs_toP l m
    | _ => simp [D.toP, PyData.eqv, D.eqv]
  | .lst l, e => by cases e with
    | lst m => simp only [D.toP, PyData.eqv, D.eqv]; exact eqvs_toP l m
    | _ => simp [D.toP, PyData.eqv, D.eqv]
  | .dct _ _, e => by cases e <;> simp [D.toP, PyData.eqv, D.eqv]
  | .ins _ _, e => by cases e <;> simp [D.toP, PyData.eqv, D.eqv]
  | .scr _, e => by cases e <;> simp [D.toP, PyData.eqv, D.eqv]
  | .adr, e => by cases e <;> simp [D.toP, PyData.eqv, D.eqv]
theorem eqvs_toP : ∀ l m : List D, PyData.eqvAll (D.toPs l) (D.toPs m) = D.eqvs l m
  | [], [] => by simp [D.toPs, PyData.eqvAll, D.eqvs]
  | [], _ :: _ => by simp [D.toPs, PyData.eqvAll, D.eqvs]
  | _ :: _, [] => by simp [D.toPs, PyData.eqvAll, D.eqvs]
  | d :: l, e :: m => by
    simp only [D.toPs, PyData.eqvAll, D.eqvs]
    rw [eqv_toP d e, eqvs_toP l m]
end
def fEq (d e : D) : Option S := if (d.sh && e.sh) = true then some (.imm (.bl (D.eqv d e))) else none
def fNe (d e : D) : Option S := if (d.sh && e.sh) = true then some (.imm (.bl (!D.eqv d e))) else none
def fIn (d e : D) : Option S := match e with
  | .lst l => if (d.sh && e.sh) = true then some (.imm (.bl (l.any fun z => D.eqv z d))) else none
  | _ => none
def fNIn (d e : D) : Option S := match e with
  | .lst l => if (d.sh && e.sh) = true then some (.imm (.bl (!l.any fun z => D.eqv z d))) else none
  | _ => none
theorem any_toP (d : D) : ∀ l : List D, ((D.toPs l).any fun z => PyData.eqv z d.toP) = l.any fun z => D.eqv z d
  | [] => rfl
  | e :: l => by simp only [D.toPs, List.any_cons, eqv_toP, any_toP d l]
section
variable {X : Cx} {ct : Ct}
theorem sh_pl {d : D} (h : d.sh = true) : d.pl = true := by
  unfold D.sh at h
  rw [Bool.and_eq_true] at h
  exact h.1
theorem k_eq : OpOk X ct (rEqD X.K) fEq := fun F H d e c x y Q le hf rx ry q => by
  unfold fEq at hf
  split at hf
  · rename_i h
    rw [Bool.and_eq_true] at h
    cases hf
    refine ⟨d.toP, e.toP, vdp le (sh_pl h.1) rx, vdp le (sh_pl h.2) ry, D.sh_ok h.1, D.sh_ok h.2, ?_⟩
    rw [eqv_toP]
    exact q _ F H (Grw.refl le) rfl
  · cases hf
theorem k_ne : OpOk X ct (rNeD X.K) fNe := fun F H d e c x y Q le hf rx ry q => by
  unfold fNe at hf
  split at hf
  · rename_i h
    rw [Bool.and_eq_true] at h
    cases hf
    refine ⟨d.toP, e.toP, vdp le (sh_pl h.1) rx, vdp le (sh_pl h.2) ry, D.sh_ok h.1, D.sh_ok h.2, ?_⟩
    rw [eqv_toP]
    exact q _ F H (Grw.refl le) rfl
  · cases hf
theorem k_inL : OpOk X ct (rInD X.K) fIn := fun F H d e c x y Q le hf rx ry q => by
  unfold fIn at hf
  split at hf
  · rename_i l
    split at hf
    · rename_i h
      rw [Bool.and_eq_true] at h
      cases hf
      refine ⟨d.toP, D.toPs l, vdp le (sh_pl h.1) rx, vdp le (sh_pl h.2) ry, D.sh_ok h.1, D.sh_ok h.2, ?_⟩
      rw [any_toP]
      exact q _ F H (Grw.refl le) rfl
    · cases hf
  · cases hf
theorem k_ninL : OpOk X ct (rNotInD X.K) fNIn := fun F H d e c x y Q le hf rx ry q => by
  unfold fNIn at hf
  split at hf
  · rename_i l
    split at hf
    · rename_i h
      rw [Bool.and_eq_true] at h
      cases hf
      refine ⟨d.toP, D.toPs l, vdp le (sh_pl h.1) rx, vdp le (sh_pl h.2) ry, D.sh_ok h.1, D.sh_ok h.2, ?_⟩
      rw [any_toP]
      exact q _ F H (Grw.refl le) rfl
    · cases hf
  · cases hf
end
end Ev
end

section
set_option Elab.async false
set_option linter.all false
/-! Ev4: dicts looked at, subscripts, slices, sums of sequences, order of tuples. -/
namespace Ev
open PySem PySem.Spec L2
set_option autoImplicit false
def D.isK : D → Bool
  | .int _ => true
  | .str _ => true
  | _ => false
def keyOk : Bool → D → Bool
  | false, k => k.isK
  | true, .tup false l => l.all D.isK
  | _, _ => false
def dLook (l : List (D × D)) (k : D) : Option D := (l.find? fun p => D.eqv p.1 k).map (·.2)
def dHas (l : List (D × D)) (k : D) : Bool := l.any fun p => D.eqv p.1 k
def dPut (l : List (D × D)) (k v : D) : List (D × D) := if dHas l k = true then l.map (fun p => if D.eqv p.1 k = true then (p.1, v) else p) else l ++ [(k, v)]
def dDel (l : List (D × D)) (k : D) : List (D × D) := l.filter fun p => !D.eqv p.1 k
theorem isK_of {d : D} (h : d.isK = true) : ∃ k : Key, d = kD k := by
  cases d with
  | int i => exact ⟨.inl i, rfl⟩
  | str x => exact ⟨.inr x, rfl⟩
  | _ => cases h
theorem isKs_of : ∀ {l : List D}, l.all D.isK = true → ∃ ks : List Key, l = ks.map kD
  | [], _ => ⟨[], rfl⟩
  | d :: l, h => by
    rw [List.all_cons, Bool.and_eq_true] at h
    obtain ⟨k, rfl⟩ := isK_of h.1
    obtain ⟨ks, rfl⟩ := isKs_of h.2
    exact ⟨k :: ks, rfl⟩
theorem eqv_key (x y : Key) : D.eqv (kD x) (kD y) = decide (x = y) := by
  cases x with
  | inl i => cases y with
    | inl j => rw [key_ll]; simp [kD, D.eqv]
    | inr j => rw [key_lr]; simp [kD, D.eqv]
  | inr i => cases y with
    | inl j => rw [key_rl]; simp [kD, D.eqv]
    | inr j => rw [key_rr]; simp [kD, D.eqv]; rfl
theorem eqvs_key : ∀ xs ys : List Key, D.eqvs (xs.map kD) (ys.map kD) = decide (xs = ys)
  | [], [] => by simp [D.eqvs]
  | [], _ :: _ => by simp [D.eqvs]
  | _ :: _, [] => by simp [D.eqvs]
  | x :: xs, y :: ys => by
    simp only [List.map_cons, D.eqvs, eqv_key, eqvs_key xs ys]
    by_cases h : x = y <;> by_cases h' : xs = ys <;> simp [h, h']
theorem eqv_keys (xs ys : List Key) : D.eqv (.tup false (xs.map kD)) (.tup false (ys.map kD)) = decide (xs = ys) := by
  simp only [D.eqv]; exact eqvs_key xs ys
section
variable {K : PySem.W.Frag} {ct : Ct} {F : Hp}
theorem kD_rep (k : Key) {v : V} (r : DRep K ct F (kD k) v) : v = kV k := by
  cases k with
  | inl i => exact r
  | inr x => exact r
theorem rep_kD (k : Key) : DRep K ct F (kD k) (kV k) := by
  cases k with
  | inl i => exact rfl
  | inr x => exact rfl
theorem kDs_rep : ∀ {ks : List Key} {vs : List V}, DReps K ct F (ks.map kD) vs → vs = ks.map kV
  | [], _, r => r
  | k :: ks, _, ⟨v, t, e, r, q⟩ => by rw [e, kD_rep k r, kDs_rep q]; rfl
def GKv (K : PySem.W.Frag) (ct : Ct) (F : Hp) {κ : Type} (kf : κ → D) : List (D × D) → List (κ × V) → Prop
  | [], es => es = []
  | (k, d) :: l, es => ∃ x v r, es = (x, v) :: r ∧ k = kf x ∧ DRep K ct F d v ∧ GKv K ct F kf l r
theorem gkv_K : ∀ {l : List (D × D)} {es : List (Key × V)}, DKv K ct F l es ↔ GKv K ct F kD l es
  | [], _ => Iff.rfl
  | (k, d) :: l, _ => ⟨fun ⟨x, v, r, e, hk, h, q⟩ => ⟨x, v, r, e, hk, h, gkv_K.mp q⟩, fun ⟨x, v, r, e, hk, h, q⟩ => ⟨x, v, r, e, hk, h, gkv_K.mpr q⟩⟩
abbrev kT (x : List Key) : D := .tup false (x.map kD)
theorem gkv_T : ∀ {l : List (D × D)} {es : List (List Key × V)}, DTv K ct F l es ↔ GKv K ct F kT l es
  | [], _ => Iff.rfl
  | (k, d) :: l, _ => ⟨fun ⟨x, v, r, e, hk, h, q⟩ => ⟨x, v, r, e, hk, h, gkv_T.mp q⟩, fun ⟨x, v, r, e, hk, h, q⟩ => ⟨x, v, r, e, hk, h, gkv_T.mpr q⟩⟩
theorem has_look {l : List (D × D)} {k : D} : dHas l k = (dLook l k).isSome := by
  unfold dHas dLook
  rw [Option.isSome_map]
  induction l with
  | nil => rfl
  | cons p l ih =>
    rw [List.any_cons, List.find?_cons]
    cases h : D.eqv p.1 k with
    | true => rfl
    | false => simpa using ih
section
variable {κ : Type} [DecidableEq κ] {kf : κ → D} (hkf : ∀ x y, D.eqv (kf x) (kf y) = decide (x = y))
include hkf
theorem look_G : ∀ {l : List (D × D)} {es : List (κ × V)}, GKv K ct F kf l es → ∀ x : κ, (∀ v, valV es x = some v → ∃ d, dLook l (kf x) = some d ∧ DRep K ct F d v) ∧ (valV es x = none → dLook l (kf x) = none)
  | [], _, r, x => by rw [show _ = [] from r]; exact ⟨fun v h => (by cases h), fun _ => rfl⟩
  | (k, d) :: l, _, ⟨y, v, t, e, hk, r, q⟩, x => by
    subst e hk
    by_cases h : y = x
    · subst h
      rw [valV_pos rfl]
      exact ⟨fun v h => (by cases h; exact ⟨d, by simp [dLook, hkf], r⟩), fun h => (by cases h)⟩
    · rw [valV_neg h]
      have e2 : dLook ((kf y, d) :: l) (kf x) = dLook l (kf x) := by simp [dLook, List.find?_cons, hkf, h]
      rw [e2]
      exact look_G q x
theorem has_G {l : List (D × D)} {es : List (κ × V)} (r : GKv K ct F kf l es) (x : κ) : dHas l (kf x) = (valV es x).isSome := by
  obtain ⟨h1, h2⟩ := look_G hkf r x
  rw [has_look]
  cases h : valV es x with
  | none => rw [h2 h] <;> rfl
  | some v => obtain ⟨d, e, _⟩ := h1 v h; rw [e] <;> rfl
theorem repl_G {x : κ} {d : D} {v : V} (rv : DRep K ct F d v) : ∀ {l : List (D × D)} {es : List (κ × V)}, GKv K ct F kf l es →
    GKv K ct F kf (l.map fun p => if D.eqv p.1 (kf x) = true then (p.1, d) else p) (es.map fun kv => if kv.1 = x then (kv.1, v) else kv)
  | [], _, r => by rw [show _ = [] from r]; exact rfl
  | (k, d') :: l, _, ⟨y, v', t, e, hk, r, q⟩ => by
    subst e hk
    rw [List.map_cons, List.map_cons]
    by_cases h : y = x
    · subst h
      rw [if_pos (by rw [hkf]; exact decide_eq_true rfl), if_pos rfl]
      exact ⟨y, v, _, rfl, rfl, rv, repl_G rv q⟩
    · rw [if_neg (by rw [hkf]; simp [h]), if_neg h]
      exact ⟨y, v', _, rfl, rfl, r, repl_G rv q⟩
omit hkf in
theorem snoc_G {x : κ} {d : D} {v : V} (rv : DRep K ct F d v) : ∀ {l : List (D × D)} {es : List (κ × V)}, GKv K ct F kf l es → GKv K ct F kf (l ++ [(kf x, d)]) (es ++ [(x, v)])
  | [], _, r => by rw [show _ = [] from r]; exact ⟨x, v, [], rfl, rfl, rv, rfl⟩
  | (k, d') :: l, _, ⟨y, v', t, e, hk, r, q⟩ => by
    subst e hk
    exact ⟨y, v', _, rfl, rfl, r, snoc_G rv q⟩
theorem put_G {x : κ} {d : D} {v : V} (rv : DRep K ct F d v) {l : List (D × D)} {es : List (κ × V)} (r : GKv K ct F kf l es) : GKv K ct F kf (dPut l (kf x) d) (putK es x v) := by
  unfold dPut putK
  rw [has_G hkf r x, valV_any]
  split
  · exact repl_G hkf rv r
  · exact snoc_G rv r
theorem drop_G {x : κ} : ∀ {l : List (D × D)} {es : List (κ × V)}, GKv K ct F kf l es → GKv K ct F kf (dDel l (kf x)) (dropK es x)
  | [], _, r => by rw [show _ = [] from r]; exact rfl
  | (k, d') :: l, _, ⟨y, v', t, e, hk, r, q⟩ => by
    subst e hk
    by_cases h : y = x
    · subst h
      have e1 : dDel ((kf y, d') :: l) (kf y) = dDel l (kf y) := by simp [dDel, List.filter_cons, hkf]
      have e2 : dropK ((y, v') :: t) y = dropK t y := by simp [dropK, List.filter_cons]
      rw [e1, e2]
      exact drop_G q
    · have e1 : dDel ((kf y, d') :: l) (kf x) = (kf y, d') :: dDel l (kf x) := by simp [dDel, List.filter_cons, hkf, h]
      have e2 : dropK ((y, v') :: t) x = (y, v') :: dropK t x := by simp [dropK, List.filter_cons, h]
      rw [e1, e2]
      exact ⟨y, v', _, rfl, rfl, r, drop_G q⟩
omit [DecidableEq κ] hkf in
theorem len_G : ∀ {l : List (D × D)} {es : List (κ × V)}, GKv K ct F kf l es → l.length = es.length
  | [], _, r => by rw [show _ = [] from r] <;> rfl
  | (k, d') :: l, _, ⟨y, v', t, e, hk, r, q⟩ => by rw [e, List.length_cons, List.length_cons, len_G q]
end
/-- the dict's look-up, by the abstract heap -/
theorem look_of {H : Hp} (le : Le F H) {t : Bool} {l : List (D × D)} {k : D} {a : Addr} {u : HO} {y : V} (hk : keyOk t k = true) (hu : Rd H a u) (r : DctO K ct F t l u) (ry : DRep K ct F k y) :
    ∃ o, DGet H a y o ∧ (∀ v, o = some v → ∃ d, dLook l k = some d ∧ DRep K ct F d v) ∧ (o = none → dLook l k = none) := by
  rcases r with ⟨rfl, es, rfl, q⟩ | ⟨rfl, es, rfl, q⟩
  · obtain ⟨x, rfl⟩ := isK_of (show k.isK = true from hk)
    rw [kD_rep x ry]
    obtain ⟨h1, h2⟩ := look_G eqv_key (gkv_K.mp q) x
    exact ⟨valV es x, .inl ⟨es, x, hu, rfl, rfl⟩, h1, h2⟩
  · cases k with
    | tup kb m =>
      cases kb with
      | true => cases hk
      | false =>
      obtain ⟨x, rfl⟩ := isKs_of (show m.all D.isK = true from hk)
      obtain ⟨b, vs, rfl, hb, rv⟩ := ry
      have hb : F b = some (.tup vs) := hb
      rw [kDs_rep rv] at hb
      obtain ⟨h1, h2⟩ := look_G eqv_keys (gkv_T.mp q) x
      exact ⟨valV es x, .inr ⟨es, x, b, hu, rfl, le _ _ hb, rfl⟩, h1, h2⟩
    | _ => cases hk
theorem VRep.key {H : Hp} {t : Bool} {k : D} {y : V} (hk : keyOk t k = true) (r : VRep K ct F H k y) : DRep K ct F k y := by
  cases k with
  | lst l => cases t <;> cases hk
  | dct t' l => cases t <;> cases hk
  | _ => exact r
end
end Ev
end

section
set_option Elab.async false
set_option linter.all false
/-! Ev5: in of anything, subscripts, + of anything, order, displays, slices. -/
namespace Ev
open PySem PySem.Spec L2
set_option autoImplicit false
/-! ### in -/
def rInDc (neg : Bool) : R2 := fun y x H Q => ∃ a o, x = .ref a ∧ DGet H a y o ∧ Q (.bl (if neg then !o.isSome else o.isSome)) H
section
variable {X : Cx} {ct : Ct}
theorem op_inDc (hu : X.A.units + 1 < cLine) : OpR X (compareOp .In) (rInDc false) := by
  intro pins s σ H y x u v Q I ry rx h
  obtain ⟨a, o, rfl, g, q⟩ := h
  obtain rfl : v = Value.ref a := rx
  exact d_in hu I g ry fun s' I' => ⟨.bl o.isSome, H, I', rfl, q⟩
theorem op_notInDc (hu : X.A.units + 1 < cLine) : OpR X (compareOp .NotIn) (rInDc true) := by
  intro pins s σ H y x u v Q I ry rx h
  obtain ⟨a, o, rfl, g, q⟩ := h
  obtain rfl : v = Value.ref a := rx
  exact d_notIn hu I g ry fun s' I' => ⟨.bl (!o.isSome), H, I', rfl, q⟩
abbrev rInAny (K : PySem.W.Frag) : R2 := fun x y H Q => rInD K x y H Q ∨ rInDc false x y H Q ∨ rIn K false x y H Q
abbrev rNInAny (K : PySem.W.Frag) : R2 := fun x y H Q => rNotInD K x y H Q ∨ rInDc true x y H Q ∨ rIn K true x y H Q
theorem op_inAny (hu : X.A.units + 65 < cLine) : OpR X (compareOp .In) (rInAny X.K) := (op_inD hu).or ((op_inDc (by omega)).or op_in_seq)
theorem op_ninAny (hu : X.A.units + 65 < cLine) : OpR X (compareOp .NotIn) (rNInAny X.K) := (op_notInD hu).or ((op_notInDc (by omega)).or op_notIn_seq)
def D.flat : D → Bool
  | .non => true
  | .bl _ => true
  | .int _ => true
  | .str _ => true
  | _ => false
def D.toV : D → V
  | .bl b => .bl b
  | .int i => .int i
  | .str x => .str x
  | _ => .non
theorem flat_rep {K F} {d : D} {v : V} (h : d.flat = true) (r : DRep K ct F d v) : v = d.toV ∧ flatV v = true := by
  cases d with
  | non => cases r; exact ⟨rfl, rfl⟩
  | bl b => cases r; exact ⟨rfl, rfl⟩
  | int i => cases r; exact ⟨rfl, rfl⟩
  | str x => cases r; exact ⟨rfl, rfl⟩
  | _ => cases h
theorem flats_rep {K F} : ∀ {l : List D} {vs : List V}, l.all D.flat = true → DReps K ct F l vs → vs = l.map D.toV ∧ vs.all flatV = true
  | [], _, _, r => by rw [show _ = [] from r]; exact ⟨rfl, rfl⟩
  | d :: l, _, h, ⟨v, t, e, r, q⟩ => by
    rw [List.all_cons, Bool.and_eq_true] at h
    obtain ⟨h1, h2⟩ := flat_rep h.1 r
    obtain ⟨h3, h4⟩ := flats_rep h.2 q
    rw [e]
    exact ⟨by rw [h1, h3]; rfl, by rw [List.all_cons, h2, h4] <;> rfl⟩
theorem flat_eq : ∀ {d e : D}, d.flat = true → e.flat = true → eqV d.toV e.toV = D.eqv d e := fun {d e} h k => by
  cases d <;> cases e <;> first | (cases h; done) | (cases k; done) | simp [D.toV, eqV, D.eqv]
theorem flat_any {d : D} (h : d.flat = true) : ∀ {l : List D}, l.all D.flat = true → inV d.toV (l.map D.toV) = l.any fun z => D.eqv z d
  | [], _ => rfl
  | e :: l, k => by
    rw [List.all_cons, Bool.and_eq_true] at k
    have ih := flat_any h k.2
    unfold inV at ih ⊢
    rw [List.map_cons, List.any_cons, List.any_cons, flat_eq k.1 h, ih]
def fInA (neg : Bool) (d e : D) : Option S := match e with
  | .lst l => if (d.sh && e.sh) = true then some (.imm (.bl (neg ^^ l.any fun z => D.eqv z d))) else none
  | .dct t l => if keyOk t d = true then some (.imm (.bl (neg ^^ dHas l d))) else none
  | .tup _ l => if (d.flat && l.all D.flat) = true then some (.imm (.bl (neg ^^ l.any fun z => D.eqv z d))) else none
  | _ => none
theorem k_in : OpOk X ct (rInAny X.K) (fInA false) := fun F H d e c x y Q le hf rx ry q => by
  unfold fInA at hf
  split at hf
  · rename_i l
    split at hf
    · rename_i h
      rw [Bool.and_eq_true] at h
      cases hf
      refine .inl ⟨d.toP, D.toPs l, vdp le (sh_pl h.1) rx, vdp le (sh_pl h.2) ry, D.sh_ok h.1, D.sh_ok h.2, ?_⟩
      rw [any_toP]
      exact q _ F H (Grw.refl le) (by simp [GRep, DRep])
    · cases hf
  · rename_i t l
    split at hf
    · rename_i h
      cases hf
      obtain ⟨a, u, rfl, hu, r⟩ := ry
      obtain ⟨o, g, g1, g2⟩ := look_of le h hu r (VRep.key h rx)
      refine .inr (.inl ⟨a, o, rfl, g, ?_⟩)
      refine q _ F H (Grw.refl le) ?_
      show V.bl _ = V.bl _
      rw [has_look]
      cases o with
      | none => rw [g2 rfl]; rfl
      | some v => obtain ⟨d', e', _⟩ := g1 v rfl; rw [e']; rfl
    · cases hf
  · rename_i l
    split at hf
    · rename_i h
      rw [Bool.and_eq_true] at h
      cases hf
      obtain ⟨a, vs, rfl, ha, r⟩ := ry
      have rx' : DRep X.K ct F d x := by
        cases d <;> first | exact rx | (cases h.1)
      obtain ⟨h1, h2⟩ := flat_rep h.1 rx'
      obtain ⟨h3, h4⟩ := flats_rep h.2 r
      refine .inr (.inr ⟨a, vs, rfl, .inr (le.sqt ha.sqt), h2, h4, ?_⟩)
      refine q _ F H (Grw.refl le) ?_
      show V.bl (if false = true then _ else _) = V.bl _
      rw [h1, h3, if_neg (by decide), flat_any h.1 h.2]
      simp
    · cases hf
  · cases hf
theorem k_nin : OpOk X ct (rNInAny X.K) (fInA true) := fun F H d e c x y Q le hf rx ry q => by
  unfold fInA at hf
  split at hf
  · rename_i l
    split at hf
    · rename_i h
      rw [Bool.and_eq_true] at h
      cases hf
      refine .inl ⟨d.toP, D.toPs l, vdp le (sh_pl h.1) rx, vdp le (sh_pl h.2) ry, D.sh_ok h.1, D.sh_ok h.2, ?_⟩
      rw [any_toP]
      exact q _ F H (Grw.refl le) (by simp [GRep, DRep])
    · cases hf
  · rename_i t l
    split at hf
    · rename_i h
      cases hf
      obtain ⟨a, u, rfl, hu, r⟩ := ry
      obtain ⟨o, g, g1, g2⟩ := look_of le h hu r (VRep.key h rx)
      refine .inr (.inl ⟨a, o, rfl, g, ?_⟩)
      refine q _ F H (Grw.refl le) ?_
      show V.bl _ = V.bl _
      rw [has_look]
      cases o with
      | none => rw [g2 rfl]; rfl
      | some v => obtain ⟨d', e', _⟩ := g1 v rfl; rw [e']; rfl
    · cases hf
  · rename_i l
    split at hf
    · rename_i h
      rw [Bool.and_eq_true] at h
      cases hf
      obtain ⟨a, vs, rfl, ha, r⟩ := ry
      have rx' : DRep X.K ct F d x := by
        cases d <;> first | exact rx | (cases h.1)
      obtain ⟨h1, h2⟩ := flat_rep h.1 rx'
      obtain ⟨h3, h4⟩ := flats_rep h.2 r
      refine .inr (.inr ⟨a, vs, rfl, .inr (le.sqt ha.sqt), h2, h4, ?_⟩)
      refine q _ F H (Grw.refl le) ?_
      show V.bl (if true = true then _ else _) = V.bl _
      rw [h1, h3, if_pos rfl, flat_any h.1 h.2]
      simp
    · cases hf
  · cases hf
/-! ### is None, is True -/
def fIsN (neg : Bool) (d e : D) : Option S := match e with
  | .non => some (.imm (.bl (neg ^^ (match d with | .non => true | _ => false))))
  | _ => none
theorem non_dec {K F H} : ∀ {d : D} {x : V}, VRep K ct F H d x → decide (x = .non) = (match d with | .non => true | _ => false)
  | .non, _, r => by rw [show _ = _ from r] <;> rfl
  | .bl _, _, r => by rw [show _ = _ from r] <;> rfl
  | .int _, _, r => by rw [show _ = _ from r] <;> rfl
  | .str _, _, r => by rw [show _ = _ from r] <;> rfl
  | .tup _ _, _, ⟨a, _, e, _⟩ => by rw [e] <;> rfl
  | .lst _, _, ⟨a, _, e, _⟩ => by rw [e] <;> rfl
  | .dct _ _, _, ⟨a, _, e, _⟩ => by rw [e] <;> rfl
  | .ins _ _, _, ⟨a, _, _, e, _⟩ => by rw [e] <;> rfl
  | .scr _, _, ⟨a, e, _⟩ => by rw [e] <;> rfl
  | .adr, _, ⟨a, e⟩ => by rw [e] <;> rfl
theorem k_isN : OpOk X ct (fun x y H Q => y = .non ∧ Q (.bl (decide (x = .non))) H) (fIsN false) := fun F H d e c x y Q le hf rx ry q => by
  unfold fIsN at hf
  split at hf
  · cases hf
    refine ⟨ry, q _ F H (Grw.refl le) ?_⟩
    show V.bl _ = V.bl _
    rw [non_dec rx]
    simp
  · cases hf
theorem k_notN : OpOk X ct (fun x y H Q => y = .non ∧ Q (.bl (!decide (x = .non))) H) (fIsN true) := fun F H d e c x y Q le hf rx ry q => by
  unfold fIsN at hf
  split at hf
  · cases hf
    refine ⟨ry, q _ F H (Grw.refl le) ?_⟩
    show V.bl _ = V.bl _
    rw [non_dec rx]
    simp
  · cases hf
/-! ### subscripts -/
def rIxDc : R2 := fun x y H Q => ∃ a v, x = .ref a ∧ DGet H a y (some v) ∧ Q v H
theorem ix_dct (hu : X.A.units + 1 < cLine) : IxR X rIxDc := by
  intro value slice pins s σ H x y v u Q I rx ry h hs
  obtain ⟨a, z, rfl, g, q⟩ := h
  obtain rfl : v = Value.ref a := rx
  exact PyProof.Rows.tail_any (dict_typeIs I g) PySem.F.slot_dict_getitem.lookup (d_getItem hu I g ry fun w' s' I' rw' => ⟨z, H, I', rw', q⟩) hs
abbrev rIxAny (K : PySem.W.Frag) : R2 := fun x y H Q => rIxL K x y H Q ∨ rIxT K x y H Q ∨ rIxDc x y H Q
theorem ix_any (hu : X.A.units + 1 < cLine) : IxR X (rIxAny X.K) := ix_list.or (ix_tup.or (ix_dct hu))
def fIx : D → D → Option S
  | .lst l, .int i => (atI l i).map .imm
  | .tup _ l, .int i => (atI l i).map .imm
  | .dct t l, k => if keyOk t k = true then (dLook l k).map .imm else none
  | _, _ => none
theorem atI_rep {K F} {l : List D} {vs : List V} {i : Int} {d : D} (r : DReps K ct F l vs) (h : atI l i = some d) : ∃ v, atI vs i = some v ∧ DRep K ct F d v := by
  unfold atI at h ⊢
  rw [← r.length]
  cases e : ixN l.length i with
  | none => rw [e] at h; cases h
  | some j =>
    rw [e] at h
    exact r.get h
theorem k_ix : OpOk X ct (rIxAny X.K) fIx := fun F H d e c x y Q le hf rx ry q => by
  unfold fIx at hf
  split at hf
  · rename_i l i
    cases h : atI l i with
    | none => rw [h] at hf; cases hf
    | some z =>
      rw [h] at hf
      cases hf
      obtain ⟨a, vs, rfl, ha, r⟩ := rx
      obtain ⟨v, hv, rv⟩ := atI_rep r h
      exact .inl ⟨a, vs, i, v, rfl, ry, SqL.of ha, hv, q v F H (Grw.refl le) rv⟩
  · rename_i l i
    cases h : atI l i with
    | none => rw [h] at hf; cases hf
    | some z =>
      rw [h] at hf
      cases hf
      obtain ⟨a, vs, rfl, ha, r⟩ := rx
      obtain ⟨v, hv, rv⟩ := atI_rep r h
      exact .inr (.inl ⟨a, vs, i, v, rfl, ry, le.sqt ha.sqt, hv, q v F H (Grw.refl le) rv⟩)
  · rename_i t l
    split at hf
    · rename_i h
      cases h1 : dLook l e with
      | none => rw [h1] at hf; cases hf
      | some z =>
        rw [h1] at hf
        cases hf
        obtain ⟨a, u, rfl, hu, r⟩ := rx
        obtain ⟨o, g, g1, g2⟩ := look_of le h hu r (VRep.key h ry)
        cases o with
        | none => rw [g2 rfl] at h1; cases h1
        | some v =>
          obtain ⟨d', e', rv⟩ := g1 v rfl
          rw [h1] at e'
          cases e'
          exact .inr (.inr ⟨a, v, rfl, g, q v F H (Grw.refl le) rv⟩)
    · cases hf
  · cases hf
theorem sf_ix {r : R2} {f : D → D → Option S} {a b : Expr} {a' b' : A} {pos : Pos} (ho : IxR X r) (k : OpOk X ct r f) (ha : AE X ct a a') (hb : AE X ct b b') (hs : PlainIx b) : SF X ct (.Subscript a b pos) (m2 f a' b') :=
  PEimp (pe_ix ho ha hb hs) fun σV H Q ⟨F, σ, w, s, σ', e, q⟩ => m2_ok k w e q
/-! ### + -/
abbrev rAddAny (K : PySem.W.Frag) : R2 := fun x y H Q => rI0 (fun i j => .int (i + j)) x y H Q ∨ (∃ i j, x = .str i ∧ y = .str j ∧ i.length + j.length ≤ sizeLine ∧ Q (.str (i ++ j)) H) ∨ rCatA K x y H Q ∨ rCat x y H Q
theorem op_addAny : OpR X (binaryOp .Add) (rAddAny X.K) := op_add.or (op_add_str.or (op_catA.or op_cat))
def LIM : Nat := 16777216
theorem LIM_eq : LIM = sizeLine := sizeLine_eq.symm
def fAdd : D → D → Option S
  | .int i, .int j => some (.imm (.int (i + j)))
  | .str i, .str j => if i.length + j.length ≤ LIM then some (.imm (.str (i ++ j))) else none
  | .tup k l, .tup k2 m => if l.length + m.length ≤ LIM then some (.imm (if l = [] then .tup k2 m else if m = [] then .tup k l else .tup false (l ++ m))) else none
  | .lst l, .lst m => if l.length + m.length ≤ LIM then some (.ls false (l ++ m)) else none
  | _, _ => none
theorem reps_nil {K F} {l : List D} {vs : List V} (r : DReps K ct F l vs) : vs = [] ↔ l = [] := by
  have e := r.length
  constructor
  · intro h; rw [h] at e; exact List.eq_nil_of_length_eq_zero e
  · intro h; rw [h] at e; exact List.eq_nil_of_length_eq_zero e.symm
theorem k_add : OpOk X ct (rAddAny X.K) fAdd := fun F H d e c x y Q le hf rx ry q => by
  unfold fAdd at hf
  split at hf
  · rename_i i j
    cases hf
    exact .inl ⟨i, j, rx, ry, q _ F H (Grw.refl le) rfl⟩
  · rename_i i j
    split at hf
    · rename_i h
      cases hf
      exact .inr (.inl ⟨i, j, rx, ry, by rw [← LIM_eq]; exact h, q _ F H (Grw.refl le) rfl⟩)
    · cases hf
  · rename_i k l k2 m
    split at hf
    · rename_i h
      cases hf
      obtain ⟨a, vs, rfl, ha, r⟩ := rx
      obtain ⟨b, us, rfl, hb, t⟩ := ry
      refine .inr (.inr (.inl ⟨a, b, vs, us, rfl, rfl, le.sqt ha.sqt, le.sqt hb.sqt, by rw [← LIM_eq, ← r.length, ← t.length]; exact h, fun z => ?_, fun z0 z => ?_, fun z0 z1 p hp => ?_⟩))
      · have z' := (reps_nil r).mp z
        refine q _ F H (Grw.refl le) ?_
        show DRep _ _ _ (if l = [] then _ else _) _
        rw [if_pos z']
        exact ⟨b, us, rfl, hb, t⟩
      · have z' := (reps_nil t).mp z
        have zl : ¬ l = [] := fun e => z0 ((reps_nil r).mpr e)
        refine q _ F H (Grw.refl le) ?_
        show DRep _ _ _ (if l = [] then _ else _) _
        rw [if_neg zl, if_pos z']
        exact ⟨a, vs, rfl, ha, r⟩
      · have le2 : Le F (upd F p (.tup (vs ++ us))) := Le.laid (le.none hp)
        have zl : ¬ l = [] := fun e => z0 ((reps_nil r).mpr e)
        have zm : ¬ m = [] := fun e => z1 ((reps_nil t).mpr e)
        refine q _ _ _ (Grw.new le hp) ?_
        show DRep _ _ _ (if l = [] then _ else _) _
        rw [if_neg zl, if_neg zm]
        exact ⟨p, _, rfl, upd_same, DReps.append (DReps.mono le2 _ _ r) (DReps.mono le2 _ _ t)⟩
    · cases hf
  · rename_i l m
    split at hf
    · rename_i h
      cases hf
      obtain ⟨a, vs, rfl, ha, r⟩ := rx
      obtain ⟨b, us, rfl, hb, t⟩ := ry
      exact .inr (.inr (.inr ⟨a, b, vs, us, rfl, rfl, ha, hb, by rw [← LIM_eq, ← r.length, ← t.length]; exact h, fun p hp => q _ F _ (Grw.lay le hp) ⟨rfl, p, _, rfl, hp, le.none hp, upd_same, DReps.append r t⟩⟩))
    · cases hf
  · cases hf
/-! ### order -/
def D.ints : List D → Option (List Int)
  | [] => some []
  | .int i :: l => (D.ints l).map (i :: ·)
  | _ :: _ => none
theorem ints_rep {K F} : ∀ {l : List D} {ns : List Int} {vs : List V}, D.ints l = some ns → DReps K ct F l vs → vs = ns.map V.int
  | [], _, _, h, r => by cases h; exact r
  | d :: l, ns, _, h, ⟨v, t, e, r, q⟩ => by
    cases d with
    | int i =>
      cases h1 : D.ints l with
      | none => simp [D.ints, h1] at h
      | some ms =>
        simp [D.ints, h1] at h
        subst h
        rw [e, show v = .int i from r, ints_rep h1 q] <;> rfl
    | _ => simp [D.ints] at h
theorem ints_map {K F} (ns : List Int) : DReps K ct F (ns.map D.int) (ns.map V.int) := by
  induction ns with
  | nil => exact rfl
  | cons n ns ih => exact ⟨_, _, rfl, rfl, ih⟩
theorem ints_eq : ∀ {l : List D} {ns : List Int}, D.ints l = some ns → l = ns.map D.int
  | [], _, h => by cases h; rfl
  | d :: l, ns, h => by
    cases d with
    | int i =>
      cases h1 : D.ints l with
      | none => simp [D.ints, h1] at h
      | some ms =>
        simp [D.ints, h1] at h
        subst h
        rw [ints_eq h1] <;> rfl
    | _ => simp [D.ints] at h
abbrev rLtAny (K : PySem.W.Frag) : R2 := fun x y H Q => rI0 (fun i j => .bl (decide (i < j))) x y H Q ∨ rLtT K x y H Q
theorem op_ltAny (hu : X.A.units < cLine) : OpR X (compareOp .Lt) (rLtAny X.K) := op_lt.or (op_ltT hu)
def fLt : D → D → Option S
  | .int i, .int j => some (.imm (.bl (decide (i < j))))
  | .tup _ l, .tup _ m => (match D.ints l, D.ints m with
    | some ns, some ms => some (.imm (.bl (HT.lexLt ns ms)))
    | _, _ => none)
  | _, _ => none
theorem k_ltA : OpOk X ct (rLtAny X.K) fLt := fun F H d e c x y Q le hf rx ry q => by
  unfold fLt at hf
  split at hf
  · rename_i i j
    cases hf
    exact .inl ⟨i, j, rx, ry, q _ F H (Grw.refl le) rfl⟩
  · rename_i l m
    split at hf
    · rename_i ns ms h1 h2
      cases hf
      obtain ⟨a, vs, rfl, ha, r⟩ := rx
      obtain ⟨b, us, rfl, hb, t⟩ := ry
      rw [ints_rep h1 r] at ha
      rw [ints_rep h2 t] at hb
      exact .inr ⟨a, b, ns, ms, rfl, rfl, le.sqt ha.sqt, le.sqt hb.sqt, q _ F H (Grw.refl le) rfl⟩
    · cases hf
  · cases hf
/-! ### displays -/
def mL : List (M D) → Fr → Option (List D × Fr)
  | [], σ => some ([], σ)
  | m :: ms, σ => match m σ with
    | some (d, σ1) => (match mL ms σ1 with
      | some (ds, σ2) => some (d :: ds, σ2)
      | none => none)
    | none => none
def tL (X : Cx) (ct : Ct) : List (M D) → TA
  | [] => tNil
  | m :: ms => tCons (rdE X ct m) (tL X ct ms)
abbrev SEs (X : Cx) (ct : Ct) (es : List Expr) (ms : List (M D)) : Prop := PA X es (tL X ct ms)
theorem tL_ok {F H : Hp} {σV : St} {σ' : Fr} : ∀ {ms : List (M D)} {F H : Hp} {σ : Fr} {ds : List D} {R : List V → Hp → Prop}, Wd X.K ct F H σV σ → mL ms σ = some (ds, σ') →
    (∀ vs H' F', Stp X.K ct F H σV σ F' H' σV σ' → DReps X.K ct F' ds vs → R vs H') → tL X ct ms σV H R
  | [], F, H, σ, ds, R, w, e, h => by
    cases e
    exact h [] H F (Stp.refl w) rfl
  | m :: ms, F, H, σ, ds, R, w, e, h => by
    unfold mL at e
    split at e
    · rename_i d σ1 h1
      split at e
      · rename_i ds' σ2 h2
        cases e
        exact ⟨F, σ, w, d, σ1, h1, fun v H1 F1 st r => tL_ok (F := F1) (H := H1) st.w h2 fun vs H2 F2 st2 rs => h (v :: vs) H2 F2 (st.trans st2) ⟨v, vs, rfl, DRep.mono st2.le d v r, rs⟩⟩
      · cases e
    · cases e
def mTup (ms : List (M D)) : M S := fun σ => match mL ms σ with
  | some (ds, σ') => if ds.length ≤ LIM then some (.imm (.tup false ds), σ') else none
  | none => none
def mLst (ms : List (M D)) : M S := fun σ => match mL ms σ with
  | some (ds, σ') => if ds.length ≤ LIM then some (.ls false ds, σ') else none
  | none => none
variable {es : List Expr} {e : Expr} {pos : Pos} {ms : List (M D)} {m : M D}
theorem ses_nil : SEs X ct [] [] := pa_nil
theorem ses_cons (h : SE X ct e m) (hs : SEs X ct es ms) (hst : starEach (e :: es) X.env = (false, eval e X.env) :: starEach es X.env := by rfl) : SEs X ct (e :: es) (m :: ms) := pa_cons h hs hst
theorem sf_tup {x1} (h : SEs X ct es ms) : SF X ct (.Tuple es x1 pos) (mTup ms) := PEimp (pe_tup h) fun σV H Q ⟨F, σ, w, s, σ', e, q⟩ => by
  unfold mTup at e
  split at e
  · rename_i ds σ1 h1
    split at e
    · rename_i hl
      cases e
      refine tL_ok (F := F) (H := H) w h1 fun vs H1 F1 st rs => ⟨by rw [← rs.length, ← LIM_eq]; exact hl, fun p hp => ?_⟩
      have g := Grw.new (o := .tup vs) st.w.le hp
      exact q _ _ _ (st.trans (g.stp st.w)) ⟨p, vs, rfl, upd_same, DReps.mono g.le _ _ rs⟩
    · cases e
  · cases e
theorem sf_lst (h : SEs X ct es ms) : SF X ct (.List es pos) (mLst ms) := PEimp (pe_lst h) fun σV H Q ⟨F, σ, w, s, σ', e, q⟩ => by
  unfold mLst at e
  split at e
  · rename_i ds σ1 h1
    split at e
    · rename_i hl
      cases e
      refine tL_ok (F := F) (H := H) w h1 fun vs H1 F1 st rs => ⟨by rw [← rs.length, ← LIM_eq]; exact hl, fun p hp => ?_⟩
      have g := Grw.lay (o := .lst vs) st.w.le hp
      exact q _ _ _ (st.trans (g.stp st.w)) (GRep.fresh st g (s := .ls false ds) ⟨rfl, p, vs, rfl, hp, st.w.le.none hp, upd_same, rs⟩)
    · cases e
  · cases e
/-! ### slices -/
inductive Pt where
  | no | at_ (m : M D)
def Pt.go : Pt → Fr → Option (Option Int × Fr)
  | .no, σ => some (none, σ)
  | .at_ m, σ => match m σ with
    | some (.int i, σ') => some (some i, σ')
    | _ => none
def Pt.rd (X : Cx) (ct : Ct) : Pt → TO
  | .no => tNoPart
  | .at_ m => tPart (rdE X ct m)
abbrev SO (X : Cx) (ct : Ct) (e : Option Expr) (p : Pt) : Prop := PO X e (p.rd X ct)
theorem so_no : SO X ct none .no := po_none
theorem so_at (h : SE X ct e m) : SO X ct (some e) (.at_ m) := po_some h
theorem Pt.ok {F H : Hp} {σV : St} {σ σ' : Fr} {o : Option Int} (w : Wd X.K ct F H σV σ) : ∀ {p : Pt}, p.go σ = some (o, σ') → ∀ {R : Option Int → Hp → Prop}, (∀ H' F', Stp X.K ct F H σV σ F' H' σV σ' → R o H') → p.rd X ct σV H R
  | .no, e, R, h => by cases e; exact h H F (Stp.refl w)
  | .at_ m, e, R, h => by
    have e : (match m σ with | some (.int i, σ') => some (some i, σ') | _ => none) = some (o, σ') := e
    split at e
    · rename_i i σ1 h1
      cases e
      exact ⟨F, σ, w, _, _, h1, fun v H1 F1 st r => ⟨i, r, h H1 F1 st⟩⟩
    · cases e
def dCut {α : Type} (xs : List α) (lo hi : Option Int) : List α := (xs.drop (HT.sIx xs.length 0 lo)).take (HT.sIx xs.length xs.length hi - HT.sIx xs.length 0 lo)
def fSl (d : D) (lo hi : Option Int) : Option S := match d with
  | .lst l => some (.ls false (dCut l lo hi))
  | .tup k l => some (.imm (.tup (k && decide (HT.sIx l.length 0 lo = 0 ∧ HT.sIx l.length l.length hi = l.length)) (dCut l lo hi)))
  | .scr l => some (.ls false ((dCut l lo hi).map D.int))
  | _ => none
def mSl (a : A) (lo hi : Pt) : M S := fun σ => match a.go σ with
  | some (x, σ1) => (match lo.go σ1 with
    | some (l, σ2) => (match hi.go σ2 with
      | some (u, σ3) => (match a.fin x σ3 with
        | some d => (match fSl d l u with
          | some s => some (s, σ3)
          | none => none)
        | none => none)
      | none => none)
    | none => none)
  | none => none
abbrev rSlAny (K : PySem.W.Frag) : V → Option Int → Option Int → Hp → VK → Prop := fun x lo hi H Q => rSlL K x lo hi H Q ∨ rSlA K x lo hi H Q
theorem cut_rep {K F} {l : List D} {vs : List V} (r : DReps K ct F l vs) (lo hi : Option Int) : DReps K ct F (dCut l lo hi) (cutV vs lo hi) := by
  unfold dCut cutV
  rw [r.length]
  exact (r.drop _).take _
theorem cut_all {α : Type} {l : List α} {lo hi : Option Int} (h : HT.sIx l.length 0 lo = 0 ∧ HT.sIx l.length l.length hi = l.length) : dCut l lo hi = l := by
  unfold dCut
  rw [h.1, h.2]
  simp
theorem sf_sl {a : Expr} {a' : A} {lo hi : Option Expr} {lo' hi' : Pt} {p2 : Pos} (ha : AE X ct a a') (hl : SO X ct lo lo') (hu : SO X ct hi hi') : SF X ct (.Subscript a (.Slice lo hi none p2) pos) (mSl a' lo' hi') :=
  PEimp (pe_slice (sl_list.or sl_tupA) ha hl hu) fun σV H Q ⟨F, σ, w, s, σ', e, q⟩ => by
  unfold mSl at e
  split at e
  · rename_i x σ1 h1
    split at e
    · rename_i l σ2 h2
      split at e
      · rename_i u σ3 h3
        split at e
        · rename_i d h4
          split at e
          · rename_i s' h5
            cases e
            refine A.ok w h1 fun v H1 F1 st1 r1 => Pt.ok st1.w h2 fun H2 F2 st2 => Pt.ok st2.w h3 fun H3 F3 st3 => ?_
            have st := (st1.trans st2).trans st3
            have rv := A.view st3.w (A.res_mono (st2.trans st3).le r1) h4
            unfold fSl at h5
            split at h5
            · rename_i m
              cases h5
              obtain ⟨b, vs, rfl, hb, r⟩ := rv
              refine .inl ⟨b, vs, rfl, SqL.of hb, fun p hp => ?_⟩
              have g := Grw.lay (o := .lst (cutV vs l u)) st.w.le hp
              exact q _ _ _ (st.trans (g.stp st.w)) (GRep.fresh st g (s := .ls false _) ⟨rfl, p, _, rfl, hp, st.w.le.none hp, upd_same, cut_rep r l u⟩)
            · rename_i k m
              cases h5
              obtain ⟨b, vs, rfl, hb, r⟩ := rv
              refine .inr ⟨b, vs, rfl, st.w.le.sqt hb.sqt, fun z => ?_, fun z p hp => ?_⟩
              · rw [← r.length] at z
                refine q _ _ _ st ?_
                show DRep _ _ _ (.tup (k && decide _) _) _
                rw [decide_eq_true z, Bool.and_true, cut_all z]
                exact ⟨b, vs, rfl, hb, r⟩
              · have g := Grw.new (o := .tup (cutV vs l u)) st.w.le hp
                rw [← r.length] at z
                refine q _ _ _ (st.trans (g.stp st.w)) ?_
                show DRep _ _ _ (.tup (k && decide _) _) _
                rw [decide_eq_false z, Bool.and_false]
                exact ⟨p, _, rfl, upd_same, DReps.mono g.le _ _ (cut_rep r l u)⟩
            · rename_i m
              cases h5
              obtain ⟨b, rfl, hb⟩ := rv
              refine .inl ⟨b, _, rfl, st.w.le.sql hb, fun p hp => ?_⟩
              have g := Grw.lay (o := .lst (cutV (m.map V.int) l u)) st.w.le hp
              have er : DReps X.K ct F3 ((dCut m l u).map D.int) (cutV (m.map V.int) l u) := by
                have e0 : cutV (m.map V.int) l u = (dCut m l u).map V.int := by
                  unfold cutV dCut
                  simp only [List.length_map, List.map_take, List.map_drop]
                rw [e0]
                exact ints_map _
              exact q _ _ _ (st.trans (g.stp st.w)) (GRep.fresh st g (s := .ls false _) ⟨rfl, p, _, rfl, hp, st.w.le.none hp, upd_same, er⟩)
            · cases h5
          · cases e
        · cases e
      · cases e
    · cases e
  · cases e
end
end Ev
end

section
set_option Elab.async false
set_option linter.all false
/-! Ev6: statements: their readings, blocks, names set, tests, returns. -/
namespace Ev
open PySem PySem.Spec L2
set_option autoImplicit false
inductive Fl where
  | nx | br | ct | rt (s : S)
/-- what a returned value is -/
def RRep (K : PySem.W.Frag) (ct : Ct) (H : Hp) (σV : St) (σ : Fr) (F' H' : Hp) (σV' : St) (σ' : Fr) : S → V → Prop
  | .imm d, v => DRep K ct F' d v
  | s, v => s.io = false ∧ SRep K ct F' H' s v ∧ ∀ a, v = .ref a → ¬ Own σV' σ' a ∧ (H a = none ∨ Own σV σ a)
def FlR (K : PySem.W.Frag) (ct : Ct) (H : Hp) (σV : St) (σ : Fr) (F' H' : Hp) (σV' : St) (σ' : Fr) : Fl → V → Prop
  | .rt s, v => RRep K ct H σV σ F' H' σV' σ' s v
  | _, v => v = .non
def _root_.L2.Ends.to (D : Ends) : Fl → V → St → Hp → Prop
  | .nx, _, σ, H => D.nx σ H
  | .br, _, σ, H => D.bk σ H
  | .ct, _, σ, H => D.ct σ H
  | .rt _, v, _, H => D.rt v H
def rdS (X : Cx) (ct : Ct) (m : M Fl) : TS := fun D σV H => ∃ F σ, Wd X.K ct F H σV σ ∧ ∃ f σ', m σ = some (f, σ') ∧
  ∀ v σV' H' F', Stp X.K ct F H σV σ F' H' σV' σ' → FlR X.K ct H σV σ F' H' σV' σ' f v → D.to f v σV' H'
abbrev SS (X : Cx) (ct : Ct) (st : Stmt) (m : M Fl) : Prop := PS X st (rdS X ct m)
abbrev SSs (X : Cx) (ct : Ct) (st : List Stmt) (m : M Fl) : Prop := PSs X st (rdS X ct m)
section
variable {K : PySem.W.Frag} {ct : Ct} {F H F1 H1 F2 H2 : Hp} {σV σV1 σV2 : St} {σ σ1 σ2 : Fr}
theorem FRep.ret : ∀ {s : S} {v : V}, FRep K ct H σV σ F1 H1 σ1 s v → RRep K ct H σV σ F1 H1 σV σ1 s v
  | .imm _, _, r => r
  | .ls _ _, _, r => r
  | .ds _ _ _, _, r => r
  | .prv, _, r => r
theorem RRep.step (st : Stp K ct F H σV σ F1 H1 σV1 σ1) : ∀ {s : S} {v : V}, RRep K ct H1 σV1 σ1 F2 H2 σV2 σ2 s v → RRep K ct H σV σ F2 H2 σV2 σ2 s v
  | .imm _, _, r => r
  | .ls _ _, _, ⟨h1, h2, h3⟩ => ⟨h1, h2, fun a e => ⟨(h3 a e).1, (h3 a e).2.elim (fun z => .inl (st.there a z)) fun z => (st.own a z).symm⟩⟩
  | .ds _ _ _, _, ⟨h1, h2, h3⟩ => ⟨h1, h2, fun a e => ⟨(h3 a e).1, (h3 a e).2.elim (fun z => .inl (st.there a z)) fun z => (st.own a z).symm⟩⟩
  | .prv, _, ⟨h1, h2, h3⟩ => ⟨h1, h2, fun a e => ⟨(h3 a e).1, (h3 a e).2.elim (fun z => .inl (st.there a z)) fun z => (st.own a z).symm⟩⟩
theorem FlR.step (st : Stp K ct F H σV σ F1 H1 σV1 σ1) : ∀ {f : Fl} {v : V}, FlR K ct H1 σV1 σ1 F2 H2 σV2 σ2 f v → FlR K ct H σV σ F2 H2 σV2 σ2 f v
  | .rt _, _, r => RRep.step st r
  | .nx, _, r => r
  | .br, _, r => r
  | .ct, _, r => r
end
/-- may this slot be set -/
def okSet (σ : Fr) (i : Nat) : Bool := decide (i < σ.length) && (match σ[i]? with
  | some (some s) => !s.io
  | _ => true)
section
variable {K : PySem.W.Frag} {ct : Ct} {F H F' H' : Hp} {σV : St} {σ σ' : Fr}
theorem okSet_io {i : Nat} (h : okSet σ i = true) : ∀ s, σ[i]? = some (some s) → s.io = false := fun s e => by
  unfold okSet at h
  rw [Bool.and_eq_true, e] at h
  simpa using h.2
theorem okSet_lt {i : Nat} (h : okSet σ i = true) : i < σ.length := by
  unfold okSet at h
  rw [Bool.and_eq_true] at h
  exact of_decide_eq_true h.1
theorem FRep.addr : ∀ {s : S} {v : V}, FRep K ct H σV σ F' H' σ' s v → s.own = true → ∀ a, v = .ref a → ¬ Own σV σ' a ∧ (H a = none ∨ Own σV σ a)
  | .imm _, _, _, o => by cases o
  | .ls _ _, _, r, _ => r.2.2
  | .ds _ _ _, _, r, _ => r.2.2
theorem FRep.io : ∀ {s : S} {v : V}, FRep K ct H σV σ F' H' σ' s v → s.io = false
  | .imm _, _, _ => rfl
  | .ls _ _, _, r => r.1
  | .ds _ _ _, _, r => r.1
theorem FRep.srep : ∀ {s : S} {v : V}, FRep K ct H σV σ F' H' σ' s v → SRep K ct F' H' s v
  | .imm _, _, r => r
  | .ls _ _, _, r => r.2.1
  | .ds _ _ _, _, r => r.2.1
/-- a slot is set to a fresh or deep thing -/
theorem Stp.set (st : Stp K ct F H σV σ F' H' σV σ') {i : Nat} {s : S} {v : V} (r : FRep K ct H σV σ F' H' σ' s v) (h : okSet σ' i = true) : Stp K ct F H σV σ F' H' (σV.set i (some v)) (σ'.set i (some s)) where
  w := by
    have hi := okSet_lt h
    have hv : i < σV.length := Nat.lt_of_lt_of_le hi st.w.ln
    have sv : (σV.set i (some v))[i]? = some (some v) := by rw [List.getElem?_set_self hv]
    have nv : ∀ j, j ≠ i → (σV.set i (some v))[j]? = σV[j]? := fun j hj => by rw [List.getElem?_set_ne (Ne.symm hj)]
    refine ⟨st.w.le, fun j t e => ?_, fun j k t t' a ej ek to to' aj ak => ?_, by simp; exact st.w.ln⟩
    · rcases set_get e with ⟨rfl, rfl⟩ | ⟨hj, e⟩
      · exact ⟨v, sv, r.srep⟩
      · obtain ⟨u, e1, q⟩ := st.w.slot j t e
        exact ⟨u, by rw [nv j hj]; exact e1, q⟩
    · rcases set_get ej with ⟨rfl, rfl⟩ | ⟨hj, fj⟩
      · rcases set_get ek with ⟨rfl, rfl⟩ | ⟨hk, fk⟩
        · rfl
        · rw [sv] at aj; cases aj
          rw [nv k hk] at ak
          exact absurd ⟨k, t', fk, to', ak⟩ (r.addr to a rfl).1
      · rcases set_get ek with ⟨rfl, rfl⟩ | ⟨hk, fk⟩
        · rw [sv] at ak; cases ak
          rw [nv j hj] at aj
          exact absurd ⟨j, t, fj, to, aj⟩ (r.addr to' a rfl).1
        · rw [nv j hj] at aj
          rw [nv k hk] at ak
          exact st.w.dis j k t t' a fj fk to to' aj ak
  le := st.le
  keep := st.keep
  there := st.there
  froz := st.froz
  own := fun a ⟨j, t, ej, to, aj⟩ => by
    rcases set_get ej with ⟨rfl, rfl⟩ | ⟨hj, ej⟩
    · rw [List.getElem?_set_self (Nat.lt_of_lt_of_le (okSet_lt h) st.w.ln)] at aj; cases aj
      exact (r.addr to a rfl).2.symm
    · rw [List.getElem?_set_ne (Ne.symm hj)] at aj
      exact st.own a ⟨j, t, ej, to, aj⟩
  io := fun j t ej tio => by
    obtain ⟨⟨t', e', o'⟩, ev⟩ := st.io j t ej tio
    have hj : j ≠ i := fun z => by subst z; rw [okSet_io h t' e'] at o'; cases o'
    exact ⟨⟨t', by rw [List.getElem?_set_ne (Ne.symm hj)]; exact e', o'⟩, by rw [List.getElem?_set_ne (Ne.symm hj)]⟩
  len := by simp; exact st.len
end
section
variable {X : Cx} {ct : Ct} {pos : Pos} {e c : Expr} {st : Stmt} {rest body orelse : List Stmt}
def mNx : M Fl := fun σ => some (.nx, σ)
def mBr : M Fl := fun σ => some (.br, σ)
def mCt : M Fl := fun σ => some (.ct, σ)
def mNo : M Fl := fun _ => none
def mSeq (m n : M Fl) : M Fl := fun σ => match m σ with
  | some (.nx, σ') => n σ'
  | some (.br, σ') => some (.br, σ')
  | some (.ct, σ') => some (.ct, σ')
  | some (.rt s, σ') => some (.rt s, σ')
  | none => none
variable {m n : M Fl}
theorem sss_nil : SSs X ct [] mNx := PSsimp pss_nil fun D σV H ⟨F, σ, w, f, σ', e, q⟩ => by
  cases e
  exact q .non σV H F (Stp.refl w) rfl
theorem ss_pass : SS X ct (.Pass pos) mNx := PSimp ps_pass fun D σV H ⟨F, σ, w, f, σ', e, q⟩ => by
  cases e
  exact q .non σV H F (Stp.refl w) rfl
theorem ss_break : SS X ct (.Break pos) mBr := PSimp ps_break fun D σV H ⟨F, σ, w, f, σ', e, q⟩ => by
  cases e
  exact q .non σV H F (Stp.refl w) rfl
theorem ss_continue : SS X ct (.Continue pos) mCt := PSimp ps_continue fun D σV H ⟨F, σ, w, f, σ', e, q⟩ => by
  cases e
  exact q .non σV H F (Stp.refl w) rfl
theorem ss_no : SS X ct st mNo := PSimp ps_never fun D σV H ⟨F, σ, w, f, σ', e, q⟩ => by cases e
theorem sss_no : SSs X ct rest mNo := PSsimp pss_never fun D σV H ⟨F, σ, w, f, σ', e, q⟩ => by cases e
theorem sss_cons (h : SS X ct st m) (hs : SSs X ct rest n) : SSs X ct (st :: rest) (mSeq m n) := PSsimp (pss_cons h hs) fun D σV H ⟨F, σ, w, f, σ', e, q⟩ => by
  unfold mSeq at e
  split at e
  · rename_i σ1 h1
    exact ⟨F, σ, w, _, _, h1, fun v σV1 H1 F1 st1 _ => ⟨F1, σ1, st1.w, _, _, e, fun v2 σV2 H2 F2 st2 r => q v2 σV2 H2 F2 (st1.trans st2) (r.step st1)⟩⟩
  all_goals first
    | (rename_i h1; cases e; exact ⟨F, σ, w, _, _, h1, fun v σV1 H1 F1 st1 r => q v σV1 H1 F1 st1 r⟩)
    | cases e
theorem sss_one (h : SS X ct st m) : SSs X ct [st] m := pss_one h
def mDrop (m : M S) : M Fl := fun σ => match m σ with
  | some (_, σ') => some (.nx, σ')
  | none => none
theorem ss_expr {m : M S} (h : SF X ct e m) (hs : swapsWith e none pos.line X.env = pure false := by rfl) : SS X ct (.Expr e pos) (mDrop m) := PSimp (ps_expr h hs) fun D σV H ⟨F, σ, w, f, σ', e, q⟩ => by
  unfold mDrop at e
  split at e
  · rename_i s σ1 h1
    cases e
    exact ⟨F, σ, w, _, _, h1, fun v H1 F1 st1 r => q .non σV H1 F1 st1 rfl⟩
  · cases e
theorem ss_doc {x j pos'} : SS X ct (.Expr (.Constant (.str x) j pos) pos') mNx := PSimp ps_doc fun D σV H ⟨F, σ, w, f, σ', e, q⟩ => by
  cases e
  exact q .non σV H F (Stp.refl w) rfl
def mRet (m : M S) : M Fl := fun σ => match m σ with
  | some (s, σ') => some (.rt s, σ')
  | none => none
theorem ss_ret {m : M S} (h : SF X ct e m) : SS X ct (.Return (some e) pos) (mRet m) := PSimp (ps_ret h) fun D σV H ⟨F, σ, w, f, σ', e, q⟩ => by
  unfold mRet at e
  split at e
  · rename_i s σ1 h1
    cases e
    exact ⟨F, σ, w, _, _, h1, fun v H1 F1 st1 r => q v σV H1 F1 st1 r.ret⟩
  · cases e
def mRetN : M Fl := fun σ => some (.rt (.imm .non), σ)
theorem ss_retN : SS X ct (.Return none pos) mRetN := PSimp ps_retN fun D σV H ⟨F, σ, w, f, σ', e, q⟩ => by
  cases e
  exact q .non σV H F (Stp.refl w) rfl
theorem ss_if {t : M Bool} (hc : ST X ct c t) (ha : SSs X ct body m) (hb : SSs X ct orelse n) : SS X ct (.If c body orelse pos) (mIf t m n) := PSimp (ps_if hc ha hb) fun D σV H ⟨F, σ, w, f, σ', e, q⟩ => by
  unfold mIf at e
  split at e
  · rename_i σ1 h1
    refine ⟨F, σ, w, _, _, h1, fun H1 F1 st1 => ?_⟩
    refine iteT ?_
    exact ⟨F1, σ1, st1.w, _, _, e, fun v σV2 H2 F2 st2 r => q v σV2 H2 F2 (st1.trans st2) (r.step st1)⟩
  · rename_i σ1 h1
    refine ⟨F, σ, w, _, _, h1, fun H1 F1 st1 => ?_⟩
    refine iteF ?_
    exact ⟨F1, σ1, st1.w, _, _, e, fun v σV2 H2 F2 st2 r => q v σV2 H2 F2 (st1.trans st2) (r.step st1)⟩
  · cases e
/-- name = value -/
def mSet (i : Nat) (m : M S) : M Fl := fun σ => match m σ with
  | some (s, σ') => if okSet σ' i = true then some (.nx, σ'.set i (some s)) else none
  | none => none
theorem ss_set {i : Nat} {x : Str} {m : M S} {pos' : Pos} (hN : X.N.Nodup) (hi : X.N[i]? = some x) (hx : Loc X.env.scope x) (h : SF X ct e m) (hs : swapsWith e (some (.Name x pos')) pos.line X.env = pure false := by rfl)
    (hf : X.fn x = true ∨ X.env.scope.names.lookup x = some .local := by first | exact .inl rfl | exact .inr rfl | assumption) : SS X ct (.Assign [.Name x pos'] e pos) (mSet i m) := PSimp (ps_set hN hi hx h hs hf) fun D σV H ⟨F, σ, w, f, σ', e, q⟩ => by
  unfold mSet at e
  split at e
  · rename_i s σ1 h1
    split at e
    · rename_i ho
      cases e
      exact ⟨F, σ, w, _, _, h1, fun v H1 F1 st1 r => q .non _ H1 F1 (st1.set r ho) rfl⟩
    · cases e
  · cases e
/-- name op= value, ints -/
def mAug (i : Nat) (p : Int → Int → Int) (m : M D) : M Fl := fun σ => match σ[i]? with
  | some (some (.imm (.int x))) => (match m σ with
    | some (.int y, σ') => if okSet σ' i = true then some (.nx, σ'.set i (some (.imm (.int (p x y))))) else none
    | _ => none)
  | _ => none
theorem ss_aug {i : Nat} {x : Str} {m : M D} {op : Operator} {p : Int → Int → Int} {pos' : Pos} (hN : X.N.Nodup) (hi : X.N[i]? = some x) (hx : Loc X.env.scope x) (h : SE X ct e m) (ho : PIp X op (ipI p))
    (hf : X.fn x = true ∨ X.env.scope.names.lookup x = some .local := by first | exact .inl rfl | exact .inr rfl | assumption) : SS X ct (.AugAssign (.Name x pos') op e pos) (mAug i p m) := PSimp (ps_aug hN hi hx h ho hf) fun D σV H ⟨F, σ, w, f, σ', e, q⟩ => by
  unfold mAug at e
  split at e
  · rename_i y h1
    split at e
    · rename_i z σ1 h2
      split at e
      · rename_i hk
        cases e
        obtain ⟨v, e1, r1⟩ := w.slot i _ h1
        refine ⟨v, e1, F, σ, w, _, _, h2, fun u H1 F1 st1 r2 => ?_⟩
        refine ⟨y, z, r1, r2, ?_⟩
        exact q .non _ H1 F1 (st1.set (s := .imm (.int (p y z))) (v := .int (p y z)) rfl hk) rfl
      · cases e
    · cases e
  · cases e
end
/-! ### targets -/
inductive Tg where
  | nm (i : Nat) | tp (l : List Tg)
mutual
def Tg.put : Tg → D → Fr → Option Fr
  | .nm i, d, σ => if okSet σ i = true then some (σ.set i (some (.imm d))) else none
  | .tp ts, .tup _ ds, σ => Tg.puts ts ds σ
  | .tp ts, .lst ds, σ => Tg.puts ts ds σ
  | .tp _, _, _ => none
def Tg.puts : List Tg → List D → Fr → Option Fr
  | [], [], σ => some σ
  | t :: ts, d :: ds, σ => (match Tg.put t d σ with
    | some σ' => Tg.puts ts ds σ'
    | none => none)
  | _, _, _ => none
end
mutual
def Tg.vs : Tg → List Nat
  | .nm i => [i]
  | .tp ts => Tg.vss ts
def Tg.vss : List Tg → List Nat
  | [] => []
  | t :: ts => t.vs ++ Tg.vss ts
end
/-- but for some slots the same -/
def Chg (vs : List Nat) (σV σV' : St) : Prop := σV'.length = σV.length ∧ ∀ i, i ∉ vs → σV'[i]? = σV[i]?
theorem Chg.refl {vs : List Nat} {σV : St} : Chg vs σV σV := ⟨rfl, fun _ _ => rfl⟩
theorem Chg.trans {vs us : List Nat} {σV σV1 σV2 : St} (h : Chg vs σV σV1) (k : Chg us σV1 σV2) : Chg (vs ++ us) σV σV2 :=
  ⟨k.1.trans h.1, fun i n => (k.2 i fun z => n (List.mem_append_right _ z)).trans (h.2 i fun z => n (List.mem_append_left _ z))⟩
theorem Chg.set {i : Nat} {σV : St} {v : Option V} : Chg [i] σV (σV.set i v) := ⟨by simp, fun j n => by rw [List.getElem?_set_ne (fun z => n (by simp [z]))]⟩
def gRd (K : PySem.W.Frag) (ct : Ct) (T : Tg) : TG := fun v σV H Q => ∃ F σ d σ', Wd K ct F H σV σ ∧ DRep K ct F d v ∧ T.put d σ = some σ' ∧ ∀ σV', Stp K ct F H σV σ F H σV' σ' → Chg T.vs σV σV' → Q σV' H
def gRds (K : PySem.W.Frag) (ct : Ct) (T : List Tg) : TGs := fun vs σV H Q => ∃ F σ ds σ', Wd K ct F H σV σ ∧ DReps K ct F ds vs ∧ Tg.puts T ds σ = some σ' ∧ ∀ σV', Stp K ct F H σV σ F H σV' σ' → Chg (Tg.vss T) σV σV' → Q σV' H
abbrev SG (X : Cx) (ct : Ct) (e : Expr) (T : Tg) : Prop := PG X e (gRd X.K ct T)
abbrev SGs (X : Cx) (ct : Ct) (e : List Expr) (T : List Tg) : Prop := PGs X e (gRds X.K ct T)
theorem PGimp {X : Cx} {e : Expr} {t t' : TG} (h : PG X e t) (i : ∀ v σ H Q, t' v σ H Q → t v σ H Q) : PG X e t' := ⟨fun pins s σ H v u Q I r q => h.run pins s σ H v u Q I r (i v σ H Q q)⟩
theorem PGsimp {X : Cx} {e : List Expr} {t t' : TGs} (h : PGs X e t) (i : ∀ v σ H Q, t' v σ H Q → t v σ H Q) : PGs X e t' := ⟨fun pins s σ H v u Q I r q => h.run pins s σ H v u Q I r (i v σ H Q q)⟩
section
variable {X : Cx} {ct : Ct} {pos : Pos}
theorem sg_nm {i : Nat} {x : Str} (hN : X.N.Nodup) (hi : X.N[i]? = some x) (hx : Loc X.env.scope x) (hf : X.fn x = true ∨ X.env.scope.names.lookup x = some .local := by first | exact .inl rfl | exact .inr rfl | assumption) : SG X ct (.Name x pos) (.nm i) :=
  PGimp (pg_name hN hi hx hf) fun v σV H Q ⟨F, σ, d, σ', w, r, e, q⟩ => by
  simp only [Tg.put] at e
  split at e
  · rename_i ho
    cases e
    exact q _ ((Stp.refl w).set (s := .imm d) (v := v) r ho) Chg.set
  · cases e
theorem sgs_nil : SGs X ct [] [] := PGsimp pgs_nil fun vs σV H Q ⟨F, σ, ds, σ', w, r, e, q⟩ => by
  cases ds with
  | nil => simp only [Tg.puts] at e; cases e; exact ⟨r, q _ (Stp.refl w) Chg.refl⟩
  | cons d ds => simp [Tg.puts] at e
theorem sgs_cons {e : Expr} {es : List Expr} {T : Tg} {Ts : List Tg} (h : SG X ct e T) (hs : SGs X ct es Ts) (h1 : (assignEach (e :: es) X.env).map (·.2) = assign e X.env :: (assignEach es X.env).map (·.2) := by rfl) : SGs X ct (e :: es) (T :: Ts) :=
  PGsimp (pgs_cons h hs h1) fun vs σV H Q ⟨F, σ, ds, σ', w, r, e, q⟩ => by
  cases ds with
  | nil => simp [Tg.puts] at e
  | cons d ds =>
    obtain ⟨v, t, rfl, r1, r2⟩ := r
    simp only [Tg.puts] at e
    split at e
    · rename_i σ1 h1
      exact ⟨v, t, rfl, F, σ, d, σ1, w, r1, h1, fun σV1 st1 c1 => ⟨F, σ1, ds, σ', st1.w, r2, e, fun σV2 st2 c2 => q σV2 (st1.trans st2) (by simp only [Tg.vss]; exact c1.trans c2)⟩⟩
    · cases e
theorem puts_len : ∀ {ts : List Tg} {ds : List D} {σ σ' : Fr}, Tg.puts ts ds σ = some σ' → ts.length = ds.length
  | [], [], _, _, _ => rfl
  | [], _ :: _, _, _, h => by simp [Tg.puts] at h
  | _ :: _, [], _, _, h => by simp [Tg.puts] at h
  | t :: ts, d :: ds, σ, σ', h => by
    simp only [Tg.puts] at h
    split at h
    · rw [List.length_cons, List.length_cons, puts_len h]
    · cases h
theorem PGor {X : Cx} {e : Expr} {t t' : TG} (h : PG X e t) (h' : PG X e t') : PG X e fun v σ H Q => t v σ H Q ∨ t' v σ H Q := ⟨fun pins s σ H v u Q I r q => q.elim (h.run pins s σ H v u Q I r) (h'.run pins s σ H v u Q I r)⟩
theorem sg_tp {es : List Expr} {k : Nat} {Ts : List Tg} (hc : X.calm = true) (h : SGs X ct es Ts) (hn : (assignEach es X.env).length = Ts.length := by rfl) (hst : (assignEach es X.env).findIdx? (·.1) = none := by rfl) : SG X ct (.Tuple es k pos) (.tp Ts) :=
  PGimp (PGor (pg_tup hc h hn hst) (pg_lst hc h hn hst)) fun v σV H Q ⟨F, σ, d, σ', w, r, e, q⟩ => by
  cases d with
  | tup kb ds =>
    simp only [Tg.put] at e
    obtain ⟨a, vs, rfl, ha, rs⟩ := r
    exact .inl ⟨a, vs, rfl, w.le.sqt ha.sqt, by rw [← rs.length, puts_len e], F, σ, ds, σ', w, rs, e, by simpa only [Tg.vs] using q⟩
  | lst ds =>
    simp only [Tg.put] at e
    obtain ⟨a, vs, rfl, ha, rs⟩ := r
    exact .inr ⟨a, vs, rfl, SqL.of (w.le _ _ ha), by rw [← rs.length, puts_len e], F, σ, ds, σ', w, rs, e, by simpa only [Tg.vs] using q⟩
  | _ => simp [Tg.put] at e
/-- target = a deep value -/
def mAsg (T : Tg) (m : M D) : M Fl := fun σ => match m σ with
  | some (d, σ') => (match T.put d σ' with
    | some σ2 => some (.nx, σ2)
    | none => none)
  | none => none
theorem ss_asg {tg e : Expr} {T : Tg} {m : M D} (he : SE X ct e m) (hg : SG X ct tg T) (hs : swapsWithSole [tg] e pos.line X.env = pure false := by rfl) (hw : swappedStores [tg] e X.env = pure none := by rfl)
    (h1 : (assignEach [tg] X.env).map (·.2) = [assign tg X.env] := by rfl) : SS X ct (.Assign [tg] e pos) (mAsg T m) := PSimp (ps_asg he hg hs hw h1) fun D σV H ⟨F, σ, w, f, σ', e, q⟩ => by
  unfold mAsg at e
  split at e
  · rename_i d σ1 h1
    split at e
    · rename_i σ2 h2
      cases e
      exact ⟨F, σ, w, _, _, h1, fun v H1 F1 st1 r => ⟨F1, σ1, d, _, st1.w, r, h2, fun σV2 st2 _ => q .non σV2 H1 F1 (st1.trans st2) rfl⟩⟩
    · cases e
  · cases e
/-- a, b = x, y -/
def mPar (i j : Nat) (ms : List (M D)) : M Fl := fun σ => match mL ms σ with
  | some ([d, e], σ') => (match Tg.put (.nm i) d σ' with
    | some σ2 => (match Tg.put (.nm j) e σ2 with
      | some σ3 => some (.nx, σ3)
      | none => none)
    | none => none)
  | _ => none
theorem ss_par {i j : Nat} {x y : Str} {a b : Expr} {ms : List (M D)} {px py pt : Pos} {kt k2 pt2} (hc : X.calm = true) (hN : X.N.Nodup) (hi : X.N[i]? = some x) (hj : X.N[j]? = some y) (hij : i ≠ j)
    (hx : X.env.scope.names.lookup x = some .local) (hy : X.env.scope.names.lookup y = some .local) (ha : SEs X ct [a, b] ms)
    (hw : swappedStores [.Tuple [.Name x px, .Name y py] kt pt] (.Tuple [a, b] k2 pt2) X.env = pure (some [x, y]))
    (hs : swapsWithSole [.Tuple [.Name x px, .Name y py] kt pt] (.Tuple [a, b] k2 pt2) pos.line X.env = pure false := by rfl) :
    SS X ct (.Assign [.Tuple [.Name x px, .Name y py] kt pt] (.Tuple [a, b] k2 pt2) pos) (mPar i j ms) := PSimp (ps_par hc hN hi hj hij hx hy ha hw hs) fun D σV H ⟨F, σ, w, f, σ', e, q⟩ => by
  unfold mPar at e
  split at e
  · rename_i d e' σ1 h1
    split at e
    · rename_i σ2 h2
      split at e
      · rename_i σ3 h3
        cases e
        refine tL_ok (F := F) (H := H) w h1 fun vs H1 F1 st1 r => ?_
        obtain ⟨v, t, rfl, r1, u, t2, rfl, r2, rfl⟩ := r
        refine ⟨v, u, rfl, ?_⟩
        simp only [Tg.put] at h2 h3
        split at h2
        · rename_i ho
          cases h2
          split at h3
          · rename_i ho2
            cases h3
            have s1 := st1.set (s := .imm d) (v := v) r1 ho
            have s2 := (Stp.refl s1.w).set (s := .imm e') (v := u) r2 ho2
            exact q .non _ H1 F1 (s1.trans s2) rfl
          · cases h3
        · cases h2
      · cases e
    · cases e
  · cases e
end
end Ev
end

section
set_option Elab.async false
set_option linter.all false
/-! Ev7: loops: for, while, comprehensions. -/
namespace Ev
open PySem PySem.Spec L2
set_option autoImplicit false
/-- an iterator over deep things -/
def WalkD (K : PySem.W.Frag) (ct : Ct) (F : Hp) (J : It) (ds : List D) : Prop := ∃ (G : Hp → Prop) (Y : Nat → Hp → V → Hp → Prop), Walk J ds.length G Y ∧ (∀ H, Le F H → G H) ∧
  ∀ F2 i H x H', Le F F2 → Le F2 H → i < ds.length → Y i H x H' → ∃ F3 d, Grw F2 H F3 H' ∧ ds[i]? = some d ∧ DRep K ct F3 d x
abbrev MI := Fr → Option (List D × Fr)
def iRd (X : Cx) (ct : Ct) (it : MI) : TI := fun σV H R => ∃ F σ, Wd X.K ct F H σV σ ∧ ∃ ds σ', it σ = some (ds, σ') ∧ ∀ J H' F', Stp X.K ct F H σV σ F' H' σV σ' → WalkD X.K ct F' J ds → R J H'
abbrev SI (X : Cx) (ct : Ct) (tg iter : Expr) (it : MI) : Prop := PI X tg iter (iRd X ct it)
theorem PIimp {X : Cx} {tg e : Expr} {t t' : TI} (h : PI X tg e t) (i : ∀ σ H R, t' σ H R → t σ H R) : PI X tg e t' := ⟨fun pins s σ H R I q => h.run pins s σ H R I (i σ H R q)⟩
theorem PIor {X : Cx} {tg e : Expr} {t t' : TI} (h : PI X tg e t) (h' : PI X tg e t') : PI X tg e fun σ H R => t σ H R ∨ t' σ H R := ⟨fun pins s σ H R I q => q.elim (h.run pins s σ H R I) (h'.run pins s σ H R I)⟩
def lpF (T : Tg) (b : M Fl) : List D → M Fl
  | [], σ => some (.nx, σ)
  | d :: ds, σ => match T.put d σ with
    | some σ1 => (match b σ1 with
      | some (.nx, σ2) => lpF T b ds σ2
      | some (.ct, σ2) => lpF T b ds σ2
      | some (.br, σ2) => some (.nx, σ2)
      | some (.rt s, σ2) => some (.rt s, σ2)
      | none => none)
    | none => none
def mFor (it : MI) (T : Tg) (b : M Fl) : M Fl := fun σ => match it σ with
  | some (ds, σ1) => lpF T b ds σ1
  | none => none
section
variable {X : Cx} {ct : Ct} {pos : Pos} {tg iter c : Expr} {body : List Stmt}
theorem drop_at {α : Type} {l : List α} {i : Nat} {d : α} (h : l[i]? = some d) : l.drop i = d :: l.drop (i + 1) := by
  obtain ⟨hi, e⟩ := List.getElem?_eq_some_iff.mp h
  rw [List.drop_eq_getElem_cons hi, e]
theorem ss_for {it : MI} {T : Tg} {b : M Fl} (hp : PassesOwn (model X.prog X.w) X.A X.env X.xe) (hc : X.calm = true) (hi : SI X ct tg iter it) (hg : SG X ct tg T) (hb : SSs X ct body b)
    (hs : ∀ x, foldedSetIterable iter X.env x = pure x := by intro _; rfl) : SS X ct (.For tg iter body [] pos) (mFor it T b) := PSimp (ps_for hp hc hi hg hb hs) fun D σV H ⟨F, σ, w, f, σ', e, q⟩ => by
  unfold mFor at e
  split at e
  · rename_i ds σ1 h1
    refine ⟨F, σ, w, ds, σ1, h1, fun J H1 F1 st1 ⟨G, Y, wk, hG, hY⟩ => ?_⟩
    refine for_it wk (fun i σVi Hi => ∃ Fi σi, Stp X.K ct F H σV σ Fi Hi σVi σi ∧ Le F1 Fi ∧ lpF T b (ds.drop i) σi = some (f, σ')) ⟨F1, σ1, st1, Le.refl F1, e⟩ (fun i σVi Hi _ ⟨Fi, σi, sti, lei, _⟩ => hG Hi (lei.trans sti.w.le)) ?_ ?_
    · rintro i x σVi Hi H' hlt ⟨Fi, σi, sti, lei, hl⟩ y
      obtain ⟨F3, d, gr, hd, rd⟩ := hY Fi i Hi x H' lei sti.w.le hlt y
      rw [drop_at hd] at hl
      have st3 := sti.trans (gr.stp sti.w)
      simp only [lpF] at hl
      split at hl
      · rename_i σ2 h2
        refine ⟨F3, σi, d, σ2, st3.w, rd, h2, fun σV2 st2 _ => ?_⟩
        have st4 := st3.trans st2
        have le4 := lei.trans gr.le
        split at hl
        · rename_i σ3 h3
          exact ⟨F3, σ2, st2.w, _, _, h3, fun v σV3 H3 F3' st5 r => ⟨F3', _, st4.trans st5, le4.trans st5.le, hl⟩⟩
        · rename_i σ3 h3
          exact ⟨F3, σ2, st2.w, _, _, h3, fun v σV3 H3 F3' st5 r => ⟨F3', _, st4.trans st5, le4.trans st5.le, hl⟩⟩
        · rename_i σ3 h3
          cases hl
          exact ⟨F3, σ2, st2.w, _, _, h3, fun v σV3 H3 F3' st5 r => q .non σV3 H3 F3' (st4.trans st5) rfl⟩
        · rename_i s σ3 h3
          cases hl
          exact ⟨F3, σ2, st2.w, _, _, h3, fun v σV3 H3 F3' st5 r => q v σV3 H3 F3' (st4.trans st5) (RRep.step st4 r)⟩
        · cases hl
      · cases hl
    · rintro σVi Hi ⟨Fi, σi, sti, lei, hl⟩
      rw [List.drop_length] at hl
      simp only [lpF] at hl
      cases hl
      exact q .non σVi Hi Fi sti rfl
  · cases e
/-! ### while -/
def lpW (t : M Bool) (b : M Fl) : Nat → M Fl
  | 0, _ => none
  | n + 1, σ => match t σ with
    | some (true, σ1) => (match b σ1 with
      | some (.nx, σ2) => lpW t b n σ2
      | some (.ct, σ2) => lpW t b n σ2
      | some (.br, σ2) => some (.nx, σ2)
      | some (.rt s, σ2) => some (.rt s, σ2)
      | none => none)
    | some (false, σ1) => some (.nx, σ1)
    | none => none
theorem ss_while {t : M Bool} {b : M Fl} {n : Nat} (hp : PassesOwn (model X.prog X.w) X.A X.env X.xe) (hc : ST X ct c t) (hb : SSs X ct body b) : SS X ct (.While c body [] pos) (lpW t b n) := PSimp (ps_while hp hc hb) fun D σV H ⟨F, σ, w, f, σ', e, q⟩ => by
  refine ⟨fun m σVi Hi => ∃ Fi σi, Stp X.K ct F H σV σ Fi Hi σVi σi ∧ lpW t b m σi = some (f, σ'), ⟨n, F, σ, Stp.refl w, e⟩, ?_⟩
  rintro m σVi Hi ⟨Fi, σi, sti, hl⟩
  cases m with
  | zero => cases hl
  | succ m =>
    simp only [lpW] at hl
    split at hl
    · rename_i σ1 h1
      refine ⟨Fi, σi, sti.w, _, _, h1, fun H1 F1 st1 => iteT ?_⟩
      refine ⟨fun σV2 H2 => ∃ F2 σ2, Stp X.K ct F H σV σ F2 H2 σV2 σ2 ∧ lpW t b m σ2 = some (f, σ'), fun σV2 H2 z => ⟨m, Nat.lt_succ_self m, z⟩, ?_⟩
      have st2 := sti.trans st1
      split at hl
      · rename_i σ3 h3
        exact ⟨F1, σ1, st1.w, _, _, h3, fun v σV3 H3 F3 st3 r => ⟨F3, _, st2.trans st3, hl⟩⟩
      · rename_i σ3 h3
        exact ⟨F1, σ1, st1.w, _, _, h3, fun v σV3 H3 F3 st3 r => ⟨F3, _, st2.trans st3, hl⟩⟩
      · rename_i σ3 h3
        cases hl
        exact ⟨F1, σ1, st1.w, _, _, h3, fun v σV3 H3 F3 st3 r => q .non σV3 H3 F3 (st2.trans st3) rfl⟩
      · rename_i s σ3 h3
        cases hl
        exact ⟨F1, σ1, st1.w, _, _, h3, fun v σV3 H3 F3 st3 r => q v σV3 H3 F3 (st2.trans st3) (RRep.step st2 r)⟩
      · cases hl
    · rename_i σ1 h1
      cases hl
      exact ⟨Fi, σi, sti.w, _, _, h1, fun H1 F1 st1 => iteF (q .non σVi H1 F1 (sti.trans st1) rfl)⟩
    · cases hl
end
/-! ### the slots of a block hidden -/
def hide (σ : Fr) : List Nat → Fr
  | [] => σ
  | v :: vs => (hide σ vs).set v none
/-- shown again -/
def shown (σ' σ : Fr) (vs : List Nat) : Fr := σ'.mapIdx fun i s => if vs.contains i then σ.getD i none else s
theorem hide_len {σ : Fr} : ∀ {vs : List Nat}, (hide σ vs).length = σ.length
  | [] => rfl
  | v :: vs => by unfold hide; rw [List.length_set, hide_len]
theorem hide_some {σ : Fr} {i : Nat} {s : S} : ∀ {vs : List Nat}, (hide σ vs)[i]? = some (some s) → i ∉ vs ∧ σ[i]? = some (some s)
  | [], h => ⟨by simp, h⟩
  | v :: vs, h => by
    unfold hide at h
    obtain ⟨h1, h2⟩ := set_getN h
    obtain ⟨h3, h4⟩ := hide_some h2
    exact ⟨by simp only [List.mem_cons, not_or]; exact ⟨h1, h3⟩, h4⟩
theorem hide_out {σ : Fr} {i : Nat} : ∀ {vs : List Nat}, i ∉ vs → (hide σ vs)[i]? = σ[i]?
  | [], _ => rfl
  | v :: vs, h => by
    simp only [List.mem_cons, not_or] at h
    unfold hide
    rw [List.getElem?_set_ne (Ne.symm h.1), hide_out h.2]
theorem shown_get {σ' σ : Fr} {vs : List Nat} (hl : σ'.length = σ.length) (i : Nat) : (shown σ' σ vs)[i]? = if vs.contains i = true then σ[i]? else σ'[i]? := by
  unfold shown
  rw [List.getElem?_mapIdx]
  by_cases h : vs.contains i = true
  · simp only [h, if_true]
    by_cases hi : i < σ.length
    · rw [List.getElem?_eq_getElem (by omega : i < σ'.length), List.getElem?_eq_getElem hi]
      simp [List.getD, hi]
    · rw [List.getElem?_eq_none (by omega), List.getElem?_eq_none (by omega)]
      rfl
  · simp only [h]
    cases h2 : σ'[i]? <;> simp
theorem wipe_in {σ : St} {i : Nat} : ∀ {vs : List Nat}, i ∈ vs → (wipe σ vs)[i]? = if i < σ.length then some none else none
  | v :: vs, h => by
    unfold wipe
    by_cases hi : v = i
    · subst hi
      by_cases hv : v < σ.length
      · rw [List.getElem?_set_self (by rw [wipe_length]; exact hv), if_pos hv]
      · rw [List.getElem?_eq_none (by simp [wipe_length]; omega), if_neg hv]
    · rw [List.getElem?_set_ne hi]
      exact wipe_in ((List.mem_cons.mp h).resolve_left (Ne.symm hi))
theorem wipe_chg {us vs : List Nat} {σV σV' : St} (h : Chg us σV σV') (s : ∀ i ∈ us, i ∈ vs) : wipe σV' vs = wipe σV vs := by
  apply List.ext_getElem?
  intro i
  by_cases hi : i ∈ vs
  · rw [wipe_in hi, wipe_in hi, h.1]
  · rw [wipe_out hi, wipe_out hi, h.2 i fun z => hi (s i z)]
theorem hide_hide {σ : Fr} {vs : List Nat} : ∀ {i : Nat}, i ∈ vs → ∀ s, (hide σ vs)[i]? ≠ some (some s) := fun {i} hi s e => (hide_some e).1 hi
section
variable {K : PySem.W.Frag} {ct : Ct} {F H F' H' : Hp} {σV σV' : St} {σ σ' : Fr} {vs : List Nat}
theorem Own.of_hide {a : Addr} (h : Own (wipe σV vs) (hide σ vs) a) : Own σV σ a := by
  obtain ⟨i, s, e, so, ev⟩ := h
  obtain ⟨hi, e⟩ := hide_some e
  rw [wipe_out hi] at ev
  exact ⟨i, s, e, so, ev⟩
theorem Wd.hide (w : Wd K ct F H σV σ) : Wd K ct F H (wipe σV vs) (hide σ vs) where
  le := w.le
  slot := fun i s e => by
    obtain ⟨hi, e⟩ := hide_some e
    obtain ⟨v, e1, r⟩ := w.slot i s e
    exact ⟨v, by rw [wipe_out hi]; exact e1, r⟩
  dis := fun i j s t a ei ej si sj ai aj => by
    obtain ⟨hi, ei⟩ := hide_some ei
    obtain ⟨hj, ej⟩ := hide_some ej
    rw [wipe_out hi] at ai
    rw [wipe_out hj] at aj
    exact w.dis i j s t a ei ej si sj ai aj
  ln := by rw [wipe_length, hide_len]; exact w.ln
/-- a turn's end: the block's slots are forgotten -/
theorem Stp.forget (st : Stp K ct F H (wipe σV vs) (hide σ vs) F' H' σV' σ') (hw : wipe σV' vs = wipe σV vs) : Stp K ct F H (wipe σV vs) (Ev.hide σ vs) F' H' (wipe σV vs) (Ev.hide σ' vs) where
  w := hw ▸ st.w.hide
  le := st.le
  keep := st.keep
  there := st.there
  froz := st.froz
  own := fun a h => st.own a (Own.of_hide (vs := vs) (hw ▸ h))
  io := fun i s e o => by
    obtain ⟨⟨s', e', o'⟩, ev⟩ := st.io i s e o
    have hi := (hide_some e).1
    exact ⟨⟨s', by rw [hide_out hi]; exact e', o'⟩, rfl⟩
  len := by rw [hide_len]; exact st.len
/-- behind the block -/
theorem Stp.show (w : Wd K ct F H σV σ) (st : Stp K ct F H (wipe σV vs) (hide σ vs) F' H' (wipe σV vs) σ') : Stp K ct F H σV σ F' H' σV (shown σ' σ vs) := by
  have hl : σ'.length = σ.length := by rw [st.len, hide_len]
  have gi : ∀ i, i ∈ vs → (shown σ' σ vs)[i]? = σ[i]? := fun i hi => by rw [shown_get hl, if_pos (by simpa using hi)]
  have go : ∀ i, i ∉ vs → (shown σ' σ vs)[i]? = σ'[i]? := fun i hi => by rw [shown_get hl, if_neg (by simpa using hi)]
  have own2 : ∀ a, Own σV (shown σ' σ vs) a → Own σV σ a ∨ H a = none := fun a ⟨i, s, e, so, ev⟩ => by
    by_cases hi : i ∈ vs
    · rw [gi i hi] at e
      exact .inl ⟨i, s, e, so, ev⟩
    · rw [go i hi] at e
      exact (st.own a ⟨i, s, e, so, by rw [wipe_out hi]; exact ev⟩).imp Own.of_hide id
  have apart : ∀ i s a, i ∈ vs → σ[i]? = some (some s) → s.own = true → σV[i]? = some (some (.ref a)) → ¬ Own (wipe σV vs) (hide σ vs) a := fun i s a hi e so ev ⟨j, t, ej, to, aj⟩ => by
    obtain ⟨hj, ej⟩ := hide_some ej
    rw [wipe_out hj] at aj
    exact hj (w.dis i j s t a e ej so to ev aj ▸ hi)
  refine ⟨⟨st.w.le, fun i s e => ?_, fun i j s t a ei ej si sj ai aj => ?_, by rw [show (shown σ' σ vs).length = σ.length by unfold shown; simp [hl]]; exact w.ln⟩, st.le, fun a o h n => st.keep a o h fun z => n (Own.of_hide z), st.there, fun a h => ?_, own2, fun i s e o => ?_, by unfold shown; simp [hl]⟩
  · by_cases hi : i ∈ vs
    · rw [gi i hi] at e
      obtain ⟨v, e1, r⟩ := w.slot i s e
      refine ⟨v, e1, r.keep st.le fun so a ea => ?_⟩
      subst ea
      have ap := apart i s a hi e so e1
      obtain ⟨fa, u, ha, nt⟩ := w.own ⟨i, s, e, so, e1⟩
      refine ⟨?_, (st.keep a u ha ap).trans ha.symm⟩
      cases q : F' a with
      | none => rfl
      | some o =>
        rcases st.froz a (by rw [q]; simp) with z | z | z | ⟨xs, z⟩
        · exact absurd fa z
        · rw [ha] at z; cases z
        · exact absurd z ap
        · rw [ha] at z; cases z; exact absurd rfl (nt xs)
    · rw [go i hi] at e
      obtain ⟨v, e1, r⟩ := st.w.slot i s e
      rw [wipe_out hi] at e1
      exact ⟨v, e1, r⟩
  · by_cases hi : i ∈ vs
    · rw [gi i hi] at ei
      by_cases hj : j ∈ vs
      · rw [gi j hj] at ej
        exact w.dis i j s t a ei ej si sj ai aj
      · rw [go j hj] at ej
        rcases st.own a ⟨j, t, ej, sj, by rw [wipe_out hj]; exact aj⟩ with z | z
        · exact absurd z (apart i s a hi ei si ai)
        · obtain ⟨_, u, ha, _⟩ := w.own ⟨i, s, ei, si, ai⟩
          rw [ha] at z; cases z
    · rw [go i hi] at ei
      by_cases hj : j ∈ vs
      · rw [gi j hj] at ej
        rcases st.own a ⟨i, s, ei, si, by rw [wipe_out hi]; exact ai⟩ with z | z
        · exact absurd z (apart j t a hj ej sj aj)
        · obtain ⟨_, u, ha, _⟩ := w.own ⟨j, t, ej, sj, aj⟩
          rw [ha] at z; cases z
      · rw [go j hj] at ej
        exact st.w.dis i j s t a ei ej si sj (by rw [wipe_out hi]; exact ai) (by rw [wipe_out hj]; exact aj)
  · rcases st.froz a h with z | z | z | z
    · exact .inl z
    · exact .inr (.inl z)
    · exact .inr (.inr (.inl (Own.of_hide z)))
    · exact .inr (.inr (.inr z))
  · by_cases hi : i ∈ vs
    · exact ⟨⟨s, by rw [gi i hi]; exact e, o⟩, rfl⟩
    · obtain ⟨⟨s', e', o'⟩, _⟩ := st.io i s (by rw [hide_out hi]; exact e) o
      exact ⟨⟨s', by rw [go i hi]; exact e', o'⟩, rfl⟩
end
end Ev
end

section
set_option Elab.async false
set_option linter.all false
/-! Ev8: comprehensions. -/
namespace Ev
open PySem PySem.Spec L2
set_option autoImplicit false
section
variable {K : PySem.W.Frag} {ct : Ct} {F H F' H' : Hp} {σV σV' : St} {σ σ' : Fr} {vs : List Nat}
/-- a new thing that no slot has is changed -/
theorem Stp.poke (st : Stp K ct F H σV σ F' H' σV' σ') {p : Addr} {o : HO} (h0 : H p = none) (fp : F' p = none) (np : ¬ Own σV' σ' p) : Stp K ct F H σV σ F' (upd H' p o) σV' σ' where
  w := ⟨fun a u e => by
      rw [upd_ne fun z => by subst z; rw [fp] at e; cases e]; exact st.w.le a u e, fun i s e => by
      obtain ⟨v, e1, r⟩ := st.w.slot i s e
      refine ⟨v, e1, r.keep (Le.refl F') fun so a ea => ?_⟩
      subst ea
      have o : Own σV' σ' a := ⟨i, s, e, so, e1⟩
      exact ⟨(st.w.own o).1, by rw [upd_ne fun z => np (by subst z; exact o)]⟩, st.w.dis, st.w.ln⟩
  le := st.le
  keep := fun a u h n => by
    rw [upd_ne fun z => by subst z; rw [h0] at h; cases h]; exact st.keep a u h n
  there := fun a h => st.there a (upd_none h)
  froz := st.froz
  own := st.own
  io := st.io
  len := st.len
/-- what no slot has stays so -/
theorem Stp.apart (st : Stp K ct F H σV σ F' H' σV' σ') {p : Addr} {o : HO} (h : H p = some o) (fp : F p = none) (np : ¬ Own σV σ p) (nt : ∀ xs, o ≠ .tup xs := by intro _ z; cases z) : H' p = some o ∧ F' p = none ∧ ¬ Own σV' σ' p := by
  refine ⟨st.keep p o h np, ?_, fun z => (st.own p z).elim np fun q => by rw [h] at q; cases q⟩
  cases q : F' p with
  | none => rfl
  | some u =>
    rcases st.froz p (by rw [q]; simp) with z | z | z | ⟨xs, z⟩
    · exact absurd fp z
    · rw [h] at z; cases z
    · exact absurd z np
    · rw [h] at z; cases z; exact absurd rfl (nt xs)
theorem wipe_wipe {σV : St} {vs : List Nat} : wipe (wipe σV vs) vs = wipe σV vs := by
  apply List.ext_getElem?
  intro i
  by_cases hi : i ∈ vs
  · rw [wipe_in hi, wipe_in hi, wipe_length]
  · rw [wipe_out hi, wipe_out hi]
end
def mYes : M Bool := fun σ => some (true, σ)
abbrev STs (X : Cx) (ct : Ct) (ifs : List Expr) (t : M Bool) : Prop := PTs X ifs (rdT X ct t)
theorem sts_nil {X : Cx} {ct : Ct} : STs X ct [] mYes := ⟨fun pins s σV H Q I ⟨F, σ, w, b, σ', e, q⟩ => by
  cases e
  exact pts_nil.run pins s σV H Q I (q H F (Stp.refl w))⟩
theorem sts_one {X : Cx} {ct : Ct} {c : Expr} {t : M Bool} (h : ST X ct c t) : STs X ct [c] t := pts_one h
def lpC (T : Tg) (tt : M Bool) (te : M D) (vs : List Nat) : List D → Fr → Option (List D × Fr)
  | [], σ => some ([], σ)
  | d :: ds, σ => match T.put d σ with
    | some σ1 => (match tt σ1 with
      | some (true, σ2) => (match te σ2 with
        | some (x, σ3) => (match lpC T tt te vs ds (hide σ3 vs) with
          | some (xs, σ4) => some (x :: xs, σ4)
          | none => none)
        | none => none)
      | some (false, σ2) => lpC T tt te vs ds (hide σ2 vs)
      | none => none)
    | none => none
def mLc (it : MI) (T : Tg) (tt : M Bool) (te : M D) (vs : List Nat) : M S := fun σ => match it σ with
  | some (ds, σ1) => if ds.length ≤ LIM then (match lpC T tt te vs ds (hide σ1 vs) with
    | some (xs, σ2) => some (.ls false xs, shown σ2 σ1 vs)
    | none => none) else none
  | none => none
section
variable {X : Cx} {ct : Ct} {pos spos : Pos} {elt tg iter : Expr} {ifs : List Expr} {scope : Scope} {own : List (Str × Nat)}
theorem lc_imp {σV : St} {H : Hp} {Q : VK} {it : MI} {T : Tg} {tt : M Bool} {te : M D} {vs : List Nat} (hT : ∀ i ∈ T.vs, i ∈ vs) (h : rdF X ct (mLc it T tt te vs) σV H Q) :
    tLc (iRd X ct it) (gRd X.K ct T) (rdT X ct tt) (rdE X ct te) vs σV H Q := by
  obtain ⟨F, σ, w, s, σ', e, q⟩ := h
  unfold mLc at e
  split at e
  · rename_i ds σ1 h1
    split at e
    · rename_i hl
      split at e
      · rename_i all σe h2
        cases e
        refine ⟨F, σ, w, ds, σ1, h1, fun J H1 F1 st1 ⟨G, Y, wk, hG, hY⟩ D hD => ?_⟩
        have w1 := st1.w
        have wh : Wd X.K ct F1 H1 (wipe σV vs) (hide σ1 vs) := w1.hide
        have fD := w1.le.none hD
        have nD : ¬ Own (wipe σV vs) (hide σ1 vs) D := fun o => by obtain ⟨_, u, z, _⟩ := wh.own o; rw [hD] at z; cases z
        refine lc_it wk (fun i Hi => ∃ Fi σi accD accV xs, Stp X.K ct F1 H1 (wipe σV vs) (hide σ1 vs) Fi Hi (wipe σV vs) σi ∧ Le F1 Fi ∧ Hi D = some (.lst accV) ∧ Fi D = none ∧ ¬ Own (wipe σV vs) σi D ∧
          DReps X.K ct Fi accD accV ∧ accD.length ≤ i ∧ lpC T tt te vs (ds.drop i) σi = some (xs, σe) ∧ accD ++ xs = all) ?_ (fun i Hi _ ⟨Fi, σi, _, _, _, sti, lei, _⟩ => hG Hi (lei.trans sti.w.le)) ?_ ?_
        · exact ⟨F1, hide σ1 vs, [], [], all, Stp.lay wh hD, Le.refl F1, upd_same, fD, nD, rfl, Nat.le_refl 0, h2, rfl⟩
        · rintro i x Hi H' hlt ⟨Fi, σi, accD, accV, xs, sti, lei, hDi, fDi, nDi, ra, la, hp, ha⟩ y
          obtain ⟨F3, d, gr, hd, rd⟩ := hY Fi i Hi x H' lei sti.w.le hlt y
          rw [drop_at hd] at hp
          have g3 := gr.stp sti.w
          simp only [lpC] at hp
          split at hp
          · rename_i σ2 hp2
            refine ⟨F3, σi, d, σ2, g3.w, rd, hp2, fun σV2 st2 c2 => ?_⟩
            have ew : wipe σV2 vs = wipe σV vs := by rw [wipe_chg c2 hT, wipe_wipe]
            refine ⟨ew, ?_⟩
            split at hp
            · rename_i σ3 h3
              refine ⟨F3, σ2, st2.w, _, _, h3, fun H4 F4 st4 => iteT ?_⟩
              split at hp
              · rename_i z σ4 h4
                split at hp
                · rename_i xs' σ5 h5
                  cases hp
                  refine ⟨F4, σ3, st4.w, z, σ4, h4, fun v H5 F5 st5 rv => ?_⟩
                  have turn := (g3.trans (st2.trans st4)).trans st5
                  obtain ⟨hD5, fD5, nD5⟩ := turn.apart hDi fDi nDi
                  have tot := (sti.trans turn).forget ew
                  have nD6 : ¬ Own (wipe σV vs) (hide σ4 vs) D := fun o => nD5 (Own.of_hide (vs := vs) (ew ▸ o))
                  refine ⟨accV, hD5, ?_, F5, hide σ4 vs, accD ++ [z], accV ++ [v], xs', tot.poke hD fD5 nD6, lei.trans turn.le, upd_same, fD5, nD6, DReps.append (DReps.mono turn.le _ _ ra) (DReps.one rv), by simp; exact la, h5, by rw [← ha]; simp⟩
                  rw [← ra.length]
                  have : ds.length ≤ sizeLine := by rw [← LIM_eq]; exact hl
                  omega
                · cases hp
              · cases hp
            · rename_i σ3 h3
              refine ⟨F3, σ2, st2.w, _, _, h3, fun H4 F4 st4 => iteF ?_⟩
              have turn := g3.trans (st2.trans st4)
              obtain ⟨hD5, fD5, nD5⟩ := turn.apart hDi fDi nDi
              have tot := (sti.trans turn).forget ew
              have nD6 : ¬ Own (wipe σV vs) (hide σ3 vs) D := fun o => nD5 (Own.of_hide (vs := vs) (ew ▸ o))
              exact ⟨F4, hide σ3 vs, accD, accV, xs, tot, lei.trans turn.le, hD5, fD5, nD6, DReps.mono turn.le _ _ ra, Nat.le_succ_of_le la, hp, ha⟩
            · cases hp
          · cases hp
        · rintro Hi ⟨Fi, σi, accD, accV, xs, sti, lei, hDi, fDi, nDi, ra, la, hp, ha⟩
          rw [List.drop_length] at hp
          simp only [lpC] at hp
          cases hp
          rw [List.append_nil] at ha
          subst ha
          have tot := Stp.show w1 sti
          refine q _ Hi Fi (st1.trans tot) ⟨rfl, ⟨D, accV, rfl, fDi, hDi, ra⟩, fun a ea => ?_⟩
          cases ea
          refine ⟨fun o => ?_, .inl (st1.there D hD)⟩
          rcases tot.own D o with z | z
          · obtain ⟨_, u, z, _⟩ := w1.own z; rw [hD] at z; cases z
          · obtain ⟨j, t, ej, to, aj⟩ := o
            by_cases hj : j ∈ vs
            · rw [shown_get (by rw [sti.len, hide_len]), if_pos (by simpa using hj)] at ej
              obtain ⟨_, u, z2, _⟩ := w1.own ⟨j, t, ej, to, aj⟩; rw [hD] at z2; cases z2
            · rw [shown_get (by rw [sti.len, hide_len]), if_neg (by simpa using hj)] at ej
              exact nDi ⟨j, t, ej, to, by rw [wipe_out hj]; exact aj⟩
      · cases e
    · cases e
  · cases e
theorem sf_lc {it : MI} {T : Tg} {tt : M Bool} {te : M D} (hc : X.calm = true) (hN : X.N.Nodup) (hi : SI X ct tg iter it) (ok : BlkOk X.N X.env.scope scope own)
    (hg : ∀ (s : Shared) (H : Hp) (C : Addr) (cl : List (Str × Addr)) (fp : List Addr), SG (X.blk s H scope (compEnvC scope cl C X.env) fp) ct tg T) (ht : ∀ (s : Shared) (H : Hp) (C : Addr) (cl : List (Str × Addr)) (fp : List Addr), STs (X.blk s H scope (compEnvC scope cl C X.env) fp) ct ifs tt)
    (he : ∀ (s : Shared) (H : Hp) (C : Addr) (cl : List (Str × Addr)) (fp : List Addr), SE (X.blk s H scope (compEnvC scope cl C X.env) fp) ct elt te) (hT : ∀ i ∈ T.vs, i ∈ own.map (·.2) := by decide) (hs : ∀ x, foldedSetIterable iter X.env x = pure x := by intro _; rfl) :
    SF X ct (.ListComp elt [⟨tg, iter, ifs, 0⟩] scope pos) (mLc it T tt te (own.map (·.2))) := PEimp (pe_lc hc hN hi ok hg ht he hs) fun σV H Q h => lc_imp hT h
theorem ss_setLc {i : Nat} {y : Str} {py : Pos} {it : MI} {T : Tg} {tt : M Bool} {te : M D} (hc : X.calm = true) (hN : X.N.Nodup) (hy : X.N[i]? = some y) (hyl : X.env.scope.names.lookup y = some .local)
    (hsw : swapsWith (.ListComp elt [⟨tg, iter, ifs, 0⟩] scope pos) (some (.Name y py)) spos.line X.env = pure true) (hi : SI X ct tg iter it) (ok : BlkOk X.N X.env.scope scope own)
    (hg : ∀ (s : Shared) (H : Hp) (C : Addr) (cl : List (Str × Addr)) (fp : List Addr), SG (X.blk s H scope (compEnvC scope cl C X.env) fp) ct tg T) (ht : ∀ (s : Shared) (H : Hp) (C : Addr) (cl : List (Str × Addr)) (fp : List Addr), STs (X.blk s H scope (compEnvC scope cl C X.env) fp) ct ifs tt)
    (he : ∀ (s : Shared) (H : Hp) (C : Addr) (cl : List (Str × Addr)) (fp : List Addr), SE (X.blk s H scope (compEnvC scope cl C X.env) fp) ct elt te) (hT : ∀ i ∈ T.vs, i ∈ own.map (·.2) := by decide) (hs : ∀ x, foldedSetIterable iter X.env x = pure x := by intro _; rfl) :
    SS X ct (.Assign [.Name y py] (.ListComp elt [⟨tg, iter, ifs, 0⟩] scope pos) spos) (mSet i (mLc it T tt te (own.map (·.2)))) := PSimp (ps_setLc hc hN hy hyl hsw hi ok hg ht he hs) fun D σV H ⟨F, σ, w, f, σ', e, q⟩ => by
  refine lc_imp (X := X) (ct := ct) (it := it) (T := T) (tt := tt) (te := te) hT ?_
  unfold mSet at e
  split at e
  · rename_i s σ1 h1
    split at e
    · rename_i ho
      cases e
      exact ⟨F, σ, w, _, _, h1, fun v H1 F1 st1 r => q .non _ H1 F1 (st1.set r ho) rfl⟩
    · cases e
  · cases e
/-! ### dicts of ints, texts -/
def lpDc (T : Tg) (tt : M Bool) (tk tv : M D) (vs : List Nat) : List D → List (D × D) → Fr → Option (List (D × D) × Fr)
  | [], acc, σ => some (acc, σ)
  | d :: ds, acc, σ => match T.put d σ with
    | some σ1 => (match tt σ1 with
      | some (true, σ2) => (match tk σ2 with
        | some (k, σ3) => if k.isK = true then (match tv σ3 with
          | some (x, σ4) => lpDc T tt tk tv vs ds (dPut acc k x) (hide σ4 vs)
          | none => none) else none
        | none => none)
      | some (false, σ2) => lpDc T tt tk tv vs ds acc (hide σ2 vs)
      | none => none)
    | none => none
def mDc (it : MI) (T : Tg) (tt : M Bool) (tk tv : M D) (vs : List Nat) : M S := fun σ => match it σ with
  | some (ds, σ1) => if ds.length ≤ LIM then (match lpDc T tt tk tv vs ds [] (hide σ1 vs) with
    | some (xs, σ2) => some (.ds false false xs, shown σ2 σ1 vs)
    | none => none) else none
  | none => none
theorem dPut_len (l : List (D × D)) (k v : D) : (dPut l k v).length ≤ l.length + 1 := by
  unfold dPut
  split
  · simp
  · simp
theorem dc_imp {σV : St} {H : Hp} {Q : VK} {it : MI} {T : Tg} {tt : M Bool} {tk tv : M D} {vs : List Nat} (hT : ∀ i ∈ T.vs, i ∈ vs) (h : rdF X ct (mDc it T tt tk tv vs) σV H Q) :
    tDc (iRd X ct it) (gRd X.K ct T) (rdT X ct tt) (rdE X ct tk) (rdE X ct tv) vs σV H Q := by
  obtain ⟨F, σ, w, s, σ', e, q⟩ := h
  unfold mDc at e
  split at e
  · rename_i ds σ1 h1
    split at e
    · rename_i hl
      split at e
      · rename_i all σe h2
        cases e
        refine ⟨F, σ, w, ds, σ1, h1, fun J H1 F1 st1 ⟨G, Y, wk, hG, hY⟩ D hD => ?_⟩
        have w1 := st1.w
        have wh : Wd X.K ct F1 H1 (wipe σV vs) (hide σ1 vs) := w1.hide
        have fD := w1.le.none hD
        have nD : ¬ Own (wipe σV vs) (hide σ1 vs) D := fun o => by obtain ⟨_, u, z, _⟩ := wh.own o; rw [hD] at z; cases z
        let Pv : Nat → Hp → Prop := fun i Hi => ∃ Fi σi accD accV, Stp X.K ct F1 H1 (wipe σV vs) (hide σ1 vs) Fi Hi (wipe σV vs) σi ∧ Le F1 Fi ∧ Hi D = some (.dK accV) ∧ Fi D = none ∧ ¬ Own (wipe σV vs) σi D ∧
          GKv X.K ct Fi kD accD accV ∧ accD.length ≤ i ∧ lpDc T tt tk tv vs (ds.drop i) accD σi = some (all, σe)
        refine ⟨fun i m Hi => m = ds.length - i ∧ i ≤ ds.length ∧ Pv i Hi, ⟨ds.length, by simp, Nat.zero_le _, F1, hide σ1 vs, [], [], Stp.lay wh hD, Le.refl F1, upd_same, fD, nD, rfl, Nat.le_refl 0, h2⟩, ?_⟩
        rintro i m Hi ⟨rfl, hi', Fi, σi, accD, accV, sti, lei, hDi, fDi, nDi, ra, la, hp⟩
        by_cases hlt : i < ds.length
        · refine .inr ⟨wk.goes i Hi hlt (hG Hi (lei.trans sti.w.le)), Pv (i + 1), fun H' p' => ⟨ds.length - (i + 1), by omega, rfl, hlt, p'⟩, fun x H' y => ?_⟩
          obtain ⟨F3, d, gr, hd, rd⟩ := hY Fi i Hi x H' lei sti.w.le hlt (wk.yields i Hi x H' hlt (hG Hi (lei.trans sti.w.le)) y)
          rw [drop_at hd] at hp
          have g3 := gr.stp sti.w
          simp only [lpDc] at hp
          split at hp
          · rename_i σ2 hp2
            refine ⟨F3, σi, d, σ2, g3.w, rd, hp2, fun σV2 st2 c2 => ?_⟩
            have ew : wipe σV2 vs = wipe σV vs := by rw [wipe_chg c2 hT, wipe_wipe]
            refine ⟨ew, ?_⟩
            split at hp
            · rename_i σ3 h3
              refine ⟨F3, σ2, st2.w, _, _, h3, fun H4 F4 st4 => iteT ?_⟩
              split at hp
              · rename_i k σ4 h4
                split at hp
                · rename_i hk'
                  split at hp
                  · rename_i z σ5 h5
                    refine ⟨F4, σ3, st4.w, k, σ4, h4, fun u H5 F5 st5 ru => ⟨F5, σ4, st5.w, z, σ5, h5, fun v H6 F6 st6 rv => ?_⟩⟩
                    obtain ⟨kk, rfl⟩ := isK_of hk'
                    have turn := ((g3.trans (st2.trans st4)).trans st5).trans st6
                    obtain ⟨hD5, fD5, nD5⟩ := turn.apart hDi fDi nDi
                    have tot := (sti.trans turn).forget ew
                    have nD6 : ¬ Own (wipe σV vs) (hide σ5 vs) D := fun o => nD5 (Own.of_hide (vs := vs) (ew ▸ o))
                    have ra' := gkv_K.mp (DKv.mono turn.le _ _ (gkv_K.mpr ra))
                    refine ⟨accV, kk, kD_rep kk ru, hD5, ?_, F6, hide σ5 vs, dPut accD (kD kk) z, putK accV kk v, tot.poke hD fD5 nD6, lei.trans turn.le, upd_same, fD5, nD6, put_G eqv_key rv ra', ?_, hp⟩
                    · rw [← len_G ra]
                      have : ds.length ≤ sizeLine := by rw [← LIM_eq]; exact hl
                      omega
                    · have := dPut_len accD (kD kk) z; omega
                  · cases hp
                · cases hp
              · cases hp
            · rename_i σ3 h3
              refine ⟨F3, σ2, st2.w, _, _, h3, fun H4 F4 st4 => iteF ?_⟩
              have turn := g3.trans (st2.trans st4)
              obtain ⟨hD5, fD5, nD5⟩ := turn.apart hDi fDi nDi
              have tot := (sti.trans turn).forget ew
              have nD6 : ¬ Own (wipe σV vs) (hide σ3 vs) D := fun o => nD5 (Own.of_hide (vs := vs) (ew ▸ o))
              exact ⟨F4, hide σ3 vs, accD, accV, tot, lei.trans turn.le, hD5, fD5, nD6, gkv_K.mp (DKv.mono turn.le _ _ (gkv_K.mpr ra)), Nat.le_succ_of_le la, hp⟩
            · cases hp
          · cases hp
        · have ei : i = ds.length := by omega
          subst ei
          refine .inl ⟨wk.stops Hi (hG Hi (lei.trans sti.w.le)), ?_⟩
          rw [List.drop_length] at hp
          simp only [lpDc] at hp
          cases hp
          have tot := Stp.show w1 sti
          refine q _ Hi Fi (st1.trans tot) ⟨rfl, ⟨D, _, rfl, fDi, hDi, .inl ⟨rfl, _, rfl, gkv_K.mpr ra⟩⟩, fun a ea => ?_⟩
          cases ea
          refine ⟨fun o => ?_, .inl (st1.there D hD)⟩
          obtain ⟨j, t, ej, to, aj⟩ := o
          by_cases hj : j ∈ vs
          · rw [shown_get (by rw [sti.len, hide_len]), if_pos (by simpa using hj)] at ej
            obtain ⟨_, u, z2, _⟩ := w1.own ⟨j, t, ej, to, aj⟩; rw [hD] at z2; cases z2
          · rw [shown_get (by rw [sti.len, hide_len]), if_neg (by simpa using hj)] at ej
            exact nDi ⟨j, t, ej, to, by rw [wipe_out hj]; exact aj⟩
      · cases e
    · cases e
  · cases e
theorem sf_dc {kx vx : Expr} {it : MI} {T : Tg} {tt : M Bool} {tk tv : M D} (hc : X.calm = true) (hN : X.N.Nodup) (hi : SI X ct tg iter it) (ok : BlkOk X.N X.env.scope scope own)
    (hg : ∀ (s : Shared) (H : Hp) (C : Addr) (cl : List (Str × Addr)) (fp : List Addr), SG (X.blk s H scope (compEnvC scope cl C X.env) fp) ct tg T) (ht : ∀ (s : Shared) (H : Hp) (C : Addr) (cl : List (Str × Addr)) (fp : List Addr), STs (X.blk s H scope (compEnvC scope cl C X.env) fp) ct ifs tt)
    (hk : ∀ (s : Shared) (H : Hp) (C : Addr) (cl : List (Str × Addr)) (fp : List Addr), SE (X.blk s H scope (compEnvC scope cl C X.env) fp) ct kx tk)
    (hv : ∀ (s : Shared) (H : Hp) (C : Addr) (cl : List (Str × Addr)) (fp : List Addr), SE (X.blk s H scope (compEnvC scope cl C X.env) fp) ct vx tv) (hT : ∀ i ∈ T.vs, i ∈ own.map (·.2) := by decide) (hs : ∀ x, foldedSetIterable iter X.env x = pure x := by intro _; rfl) :
    SF X ct (.DictComp kx vx [⟨tg, iter, ifs, 0⟩] scope pos) (mDc it T tt tk tv (own.map (·.2))) := PEimp (pe_dc hc hN hi ok hg ht hk hv hs) fun σV H Q h => dc_imp hT h
end
end Ev
end

section
set_option Elab.async false
set_option linter.all false
/-! EvI: iterators: any GoesN as a Turn; enumerate of anything, zip of anything, items and values of any dict. -/
namespace Ev
open PySem PySem.Spec L2
set_option autoImplicit false
section
variable {X : Cx} {pins : List (Addr × Obj)} {σ : St} {H : Hp} {s : Shared} {h' : Heap}
theorem inv_ch {t' : Nat} {ch : List Addr} (I : Inv X pins σ H s) (k : ∀ b o, b ∉ ch → s.heap.get? b = some o → h'.get? b = some o) (hf : ∀ b ∈ ch, FpOk X pins H b) : Inv X pins σ H { s with heap := h', toks := t' } := by
  have nit : ∀ b u, H b = some u → b ∉ ch := fun b u e z => by rw [(hf b z).1] at e; cases e
  refine I.step (g' := s.gens) (d' := s.drawn) (ch := ch) (fun b z => ⟨(hf b z).2.2.2.1, (hf b z).2.1, (hf b z).2.2.2.2.1, (hf b z).2.2.2.2.2⟩) (fun b o _ _ n e _ => k b o n e) (fun b o _ _ n e _ => ⟨o.slots, k b o n e⟩) (fun _ _ _ _ n => n)
    (fun b o n e => ⟨o, k b o n e⟩) (fun _ _ e => e) (fun _ _ _ e => e) (fun b ps e => ⟨#[], by rw [e]; simp⟩) (fun m hm => ?_) (fun b u e => ?_) I.bare
  · obtain ⟨o, es, ep, ho, r⟩ := hm
    exact ⟨o, es, ep, k _ o (fun z => (hf _ z).2.1 rfl) ho, r⟩
  · refine (I.hok b u e).stay (fun c v hc q => k c v ?_ q) (fun _ q => q) fun _ _ q => q
    rcases hc with z | z
    · rw [z]; exact nit b u e
    · exact nit c _ z
/-- what an iterator hands out: a thing that is there, or a new pair -/
def Hand (X : Cx) (J : It) (i : Nat) (H : Hp) (s : Shared) (v : Value) (h' : Heap) : Prop :=
  (∃ x, RelV x v ∧ J.yld i H x H) ∨ ∃ (T : Addr) (x y : V) (us : Array Value), v = .ref T ∧ s.heap.objs.size ≤ T ∧ Vals [x, y] us.toList ∧ h'.IsTuple T us ∧ (H T = none → J.yld i H (.ref T) (upd H T (.tup [x, y])))
theorem turn_goes {P : Program} {w : World} {K : PySem.W.Frag} {tg : Expr} {I : Addr} {wr : List Addr} {J : It} {tn : Nat → Heap → Prop} (hI : I ∈ wr) (obj : ∀ i h, tn i h → ∀ b ∈ wr, ∃ o, h.get? b = some o ∧ ∀ v, o.data ≠ .cell v)
    (keep : ∀ i h h', tn i h → (∀ b ∈ wr, ∀ o, h.get? b = some o → h'.get? b = some o) → tn i h')
    (go : ∀ (X : Cx) (i : Nat) (pins : List (Addr × Obj)) (s : Shared) (σ : St) (H : Hp), X.prog = P → X.w = w → X.K = K → X.calm = true → Inv X pins σ H s → tn i s.heap → J.go i H → ∃ n fp Y St, GoesN P w X.A tg I fp wr n Y St ∧ i < n ∧ St i s.heap ∧
      ∀ v h', Y i s.heap v h' → St (i + 1) h' → (∀ b o, b ∉ wr → s.heap.get? b = some o → h'.get? b = some o) → tn (i + 1) h' ∧ Hand X J i H s v h')
    (stop : ∀ (X : Cx) (i : Nat) (pins : List (Addr × Obj)) (s : Shared) (σ : St) (H : Hp), X.prog = P → X.w = w → X.K = K → X.calm = true → Inv X pins σ H s → tn i s.heap → J.stop i H → ∃ fp Y St, GoesN P w X.A tg I fp wr i Y St ∧ St i s.heap)
    (self : ∀ (A : Around) (i : Nat) (s : Shared) (Q : Value → Shared → Prop) (E : Value → Shared → Prop), tn i s.heap → Q (.ref I) s → wpAny (model P w) A (pyIter (.ref I)) Q E s) : Turn P w K tg J wr I tn where
  mem := hI
  obj := obj
  keep := keep
  item := fun X hP hw hK hc i pins s σ H E V hf st hg => by
    obtain ⟨n, fp, Y, St, G, hi, h0, hY⟩ := go X i pins s σ H hP hw hK hc V st hg
    subst hP hw hK
    refine wpAny_mono (G.goes i s (fun v s2 => ∃ x H', Inv X pins σ H' s2 ∧ RelV x v ∧ J.yld i H x H' ∧ tn (i + 1) s2.heap ∧ ∀ b ∈ wr, H' b = none) E hi h0 fun v h' tk y st' hk _ => ?_) (fun r s1 ⟨v, e, q⟩ => ⟨v, e, q⟩) fun _ _ z => z
    obtain ⟨t1, hd⟩ := hY v h' y st' hk
    rcases hd with ⟨x, rx, jy⟩ | ⟨T, x, y', us, rfl, hT, rv, ht, jy⟩
    · exact ⟨x, H, inv_ch V hk hf, rx, jy, t1, fun b hb => (hf b hb).1⟩
    · have nT : H T = none := V.hok.fresh hT
      have new : ObjOk X.prog X.w (upd H T (.tup [x, y'])) h' T (.tup [x, y']) := ⟨by show 2 ≤ sizeLine; decide, us.toList, rv, by rw [Array.toArray_toList]; exact ht⟩
      refine ⟨.ref T, _, V.turnedNew (ch := wr) hk hf hT new, rfl, jy nT, t1, fun b hb => ?_⟩
      obtain ⟨o, e, _⟩ := obj i _ st b hb
      rw [upd_ne (Nat.ne_of_lt (Nat.lt_of_lt_of_le (Heap.lt_size e) hT))]
      exact (hf b hb).1
  done := fun X hP hw hK hc i pins s σ H E V hf st hg => by
    obtain ⟨fp, Y, St, G, h0⟩ := stop X i pins s σ H hP hw hK hc V st hg
    subst hP hw hK
    exact wpAny_mono (G.stops s (fun s1 => Inv X pins σ H s1) E h0 fun h' tk hk _ => inv_ch V hk hf) (fun r s1 q => q) fun _ _ z => z
  self := self
end
/-! ### enumerate of a tuple -/
/-- pairs of a number and an item of a tuple -/
def Iet (K : PySem.W.Frag) (a : Addr) : It :=
  ⟨fun i H => ∃ (xs : List V) (x : V), SqT K H a xs ∧ xs[i]? = some x, fun i H v H' => ∃ T x, v = .ref T ∧ H T = none ∧ H' = upd H T (.tup [.int (i : Nat), x]) ∧ ∀ xs, SqT K H a xs → xs[i]? = some x, fun i H => ∃ xs : List V, SqT K H a xs ∧ xs.length = i⟩
section
set_option maxHeartbeats 1000000
theorem meets_enum1 {v : Value} {o : Obj} {G : Heap → Prop} (B : Begins v o G) :
    Meets (Builtin.«enumerate.__new__» ⟨[.type "enumerate", v], []⟩) (fun _ R s => G s.heap ∧ R (.ok (.ret (.ref (s.heap.push o).objs.size))) { s with heap := (s.heap.push o).push { cls := .type "enumerate", data := .fields #[.none, .bool false, .ref s.heap.objs.size, rawInt 0, .none, .none] } }) :=
  .of_wp fun prog w A R s h => by
    obtain ⟨hp, g, d, tk, os⟩ := s; obtain ⟨h1, h⟩ := h
    have hsub := sub_enumerate
    have qb : ∀ {A' : Around} {E : Value → Shared → Prop} {Q : Value → Shared → Prop}, Q (.ref hp.objs.size) ⟨hp.push o, g, d, tk, os⟩ → wpAny (model prog w) A' (pyIter v) Q E ⟨hp, g, d, tk, os⟩ := fun q => B.iter prog w _ _ ⟨hp, g, d, tk, os⟩ _ h1 q
    wp_walk using qb
    refine wpAny_stack_any fun st => wpAny_pure ?_
    split
    · rename_i c _ _ _ _ _
      cases (c == Value.type "enumerate") <;> (wp_walk using qb; exact ⟨_, rfl, h⟩)
    · wp_walk using qb; exact ⟨_, rfl, h⟩
theorem call_enum1 {prog : Program} {w : World} {A : Around} {E : Value → Shared → Prop} {s : Shared} {v : Value} {o : Obj} {G : Heap → Prop} {Q : Value → Shared → Prop} (B : Begins v o G) (h1 : G s.heap)
    (h : ∀ h', IsEnum h' (s.heap.objs.size + 1) s.heap.objs.size 0 .none → h'.get? s.heap.objs.size = some o → (∀ b o, s.heap.get? b = some o → h'.get? b = some o) → Q (.ref (s.heap.objs.size + 1)) { s with heap := h' }) : wpAny (model prog w) A (call (.type "enumerate") [v]) Q E s := by
  refine callType_new F.called_enumerate (by decide) (F.typeCall_enumerate_1 _) (F.newCall_enumerate_1 _) (fun obj => F.args_object_init_2 obj _) F.entry_enumerate_new (meets_enum1 B) ⟨h1, ?_⟩
  have hz : (s.heap.push o).objs.size = s.heap.objs.size + 1 := by rw [Heap.size_push]
  show _ ∧ _
  rw [hz]
  have he : IsEnum ((s.heap.push o).push { cls := .type "enumerate", data := .fields #[.none, .bool false, .ref s.heap.objs.size, rawInt 0, .none, .none] }) (s.heap.objs.size + 1) s.heap.objs.size 0 .none := by
    have q := Heap.get?_push_size (s.heap.push o) (o := { cls := .type "enumerate", data := .fields #[.none, .bool false, .ref s.heap.objs.size, rawInt 0, .none, .none] }) rfl
    rw [hz] at q; exact q
  exact ⟨⟨_, he, rfl⟩, h _ he (Heap.get?_push_of_some _ (Heap.get?_push_size _ B.free)) fun b o x => Heap.get?_push_of_some _ (Heap.get?_push_of_some _ x)⟩
end
section
variable {P : Program} {w : World} {K : PySem.W.Frag} {elts : List Expr} {kk : Nat} {tpos : Pos}
theorem turn_enumT (a e it : Addr) (hei : e ≠ it) : Turn P w K (.Tuple elts kk tpos) (Iet K a) [e, it] e (fun i h => (∃ old, IsEnum h e it ((i : Nat) : Int) old) ∧ h.IsTupleIter it a i) := by
  have apart : ∀ {i : Nat} {h : Heap} {items : Array Value}, h.IsTupleIter it a i → h.IsTuple a items → a ≠ it := fun {i h items} h1 h2 z => by
    obtain ⟨o, ho, hc, _⟩ := h1
    obtain ⟨o', ho', hc', _⟩ := h2
    subst z
    rw [ho] at ho'; cases ho'
    rw [hc] at hc'; exact absurd (Value.type.inj hc') (by decide)
  have apart2 : ∀ {i : Int} {h : Heap} {items : Array Value} {old : Value}, IsEnum h e it i old → h.IsTuple a items → a ≠ e := fun {i h items old} h1 h2 z => by
    obtain ⟨o', ho', hc', _⟩ := h2
    subst z
    rw [show h.get? a = _ from h1] at ho'; cases ho'
    exact absurd (Value.type.inj hc') (by decide)
  refine turn_goes (by simp) (fun i h st b hb => ?_) (fun i h h' st k => ?_) (fun X i pins s σ H hP hw hK hc V st hg => ?_) (fun X i pins s σ H hP hw hK hc V st hg => ?_) fun A i s Q E st h => let ⟨⟨_, he⟩, _⟩ := st; wpAny_pyIter_enum he h
  · obtain ⟨⟨old, he⟩, o, ho, hc, hd⟩ := st
    rcases (by simpa using hb : b = e ∨ b = it) with z | z
    · rw [z]; exact ⟨_, he, fun v q => nomatch q⟩
    · rw [z]; exact ⟨o, ho, fun v q => by rw [hd] at q; cases q⟩
  · obtain ⟨⟨old, he⟩, hi⟩ := st
    exact ⟨⟨old, k e (by simp) _ he⟩, hi.at fun o q => k it (by simp) o q⟩
  · subst hP hw hK
    obtain ⟨⟨old, he⟩, hit⟩ := st
    obtain ⟨xs, x, hq, hx⟩ := hg
    obtain ⟨its, rv, p, hz⟩ := V.tuple hq
    have p' : s.heap.IsTuple a its.toArray := p
    have h1 := apart hit p'
    have h2 := apart2 he p'
    have hil : i < its.length := by rw [← rv.length]; exact (List.getElem?_eq_some_iff.mp hx).1
    have g := GoesN.enumFrom (prog := X.prog) (w := X.w) (A := X.A) (elts := elts) (x1 := kk) (pos := tpos) 0 (Draws.tuple (A := X.A.in1) (V.ok.hd hc) it a h1 its.toArray) e hei (by simp; exact ⟨hei, Ne.symm h2⟩) (by simp)
    refine ⟨_, _, _, _, g, by simpa using hil, ⟨⟨old, by simpa using he⟩, hit, p'⟩, fun v h' y st' hk => ?_⟩
    obtain ⟨⟨old', he'⟩, hit', _⟩ := st'
    refine ⟨⟨⟨old', by simpa using he'⟩, hit'⟩, .inr ?_⟩
    obtain ⟨T, t, u, rfl, hT, hu, ht⟩ := y
    obtain ⟨u', hu', ru⟩ := rv.get hx
    have eu : u = u' := by
      have z : its[i]? = some u := by simpa using hu
      rw [hu'] at z; cases z; rfl
    subst eu
    exact ⟨T, .int ((i : Nat) : Int), x, _, rfl, hT, .cons ⟨t, by simp⟩ (.cons ru .nil), ht, fun nT => ⟨T, x, rfl, nT, rfl, fun ys hy => by rw [V.tuple_inj hy hq]; exact hx⟩⟩
  · subst hP hw hK
    obtain ⟨⟨old, he⟩, hit⟩ := st
    obtain ⟨xs, hq, hx⟩ := hg
    obtain ⟨its, rv, p, hz⟩ := V.tuple hq
    have p' : s.heap.IsTuple a its.toArray := p
    have h1 := apart hit p'
    have h2 := apart2 he p'
    have el : its.toArray.size = i := by rw [← hx, rv.length]; simp
    have g := GoesN.enumFrom (prog := X.prog) (w := X.w) (A := X.A) (elts := elts) (x1 := kk) (pos := tpos) 0 (Draws.tuple (A := X.A.in1) (V.ok.hd hc) it a h1 its.toArray) e hei (by simp; exact ⟨hei, Ne.symm h2⟩) (by simp)
    rw [el] at g
    exact ⟨_, _, _, g, ⟨old, by simpa using he⟩, hit, p'⟩
def iEnT (K : PySem.W.Frag) (ta : TA) : TI := fun σ H R => ta σ H fun vs H1 => ∃ a xs, vs = [.ref a] ∧ SqT K H1 a xs ∧ R (Iet K a) H1
theorem pi_enumT {X : Cx} {e : Expr} {ta : TA} {p pos : Pos} (hg : Gl X "enumerate") (hm : X.mg "enumerate" = none) (ha : PA X [e] ta) (hs : starEach [e] X.env = [(false, eval e X.env)] := by rfl) :
    PI X (.Tuple elts kk tpos) (.Call (.Name "enumerate" p) [e] [] pos) (iEnT X.K ta) := ⟨fun pins s σ H R I h => by
  refine PyProof.Rows.Call_ (ld_blt I hg hm PyProof.Rows.boot_enumerate (PyProof.Rows.callWith_type1 (thn (ha.run pos pins s σ H _ I h) fun us s1 ⟨vs, H1, I1, r1, a, xs, ex, hq, q⟩ => ?_) hs rfl))
  subst ex
  cases r1 with
  | cons r rr =>
    cases rr
    cases r
    obtain ⟨its, rv, p', hz⟩ := I1.tuple hq
    refine call_enum1 (begins_tuple a its.toArray) p' fun h' he hit hk => wpAny_pyIter_enum he ?_
    have I2 : Inv X pins σ H1 { s1 with heap := h' } := I1.kept (t' := s1.toks) hk
    refine ⟨s1.heap.objs.size + 1, [s1.heap.objs.size + 1, s1.heap.objs.size], _, _, H1, rfl, I2, turn_enumT a _ _ (Nat.succ_ne_self _), ⟨⟨.none, he⟩, ⟨_, hit, rfl, rfl⟩⟩, fun b hb => ?_, q⟩
    have hle : s1.heap.objs.size ≤ b := by
      rcases (by simpa using hb : b = s1.heap.objs.size + 1 ∨ b = s1.heap.objs.size) with z | z
      · rw [z]; exact Nat.le_add_right _ _
      · rw [z]; exact Nat.le_refl _
    exact I1.fpOk hle (I1.hok.fresh hle)⟩
end
/-! ### items, values of any dict -/
def uLen : HO → Nat
  | .dK es => es.length
  | .dT es => es.length
  | _ => 0
/-- the i-th entry of a dict -/
def KeyAt (H : Hp) : HO → Nat → V → V → Prop
  | .dK es, i, x, y => ∃ k, es[i]? = some (k, y) ∧ x = kV k
  | .dT es, i, x, y => ∃ k q, es[i]? = some (k, y) ∧ x = .ref q ∧ H q = some (.tup (k.map kV))
  | _, _, _, _ => False
def IsD : HO → Prop
  | .dK _ => True
  | .dT _ => True
  | _ => False
theorem rawAt {X : Cx} {pins : List (Addr × Obj)} {σ : St} {H : Hp} {s : Shared} {d : Addr} {o : Obj} {u : HO} (I : Inv X pins σ H s) (h : H d = some (.frz o u)) (hu : IsD u) :
    ∃ es ep, s.heap.DictRaw d es ep ∧ (d == sysModules) = false ∧ es.size = uLen u ∧ ∀ i (hi : i < es.size), ∃ x y, KeyAt H u i x y ∧ RelV x es[i].key ∧ RelV y es[i].val := by
  obtain ⟨_, ok⟩ := I.hok d _ h
  cases u with
  | dK kvs =>
    obtain ⟨_, hs, vs, kv, dd⟩ := ok
    obtain ⟨es, ep, raw, hz, hk⟩ := Heap.DictOf.raw dd
    have hl : kvs.length = vs.length := Paired.length kv
    refine ⟨es, ep, raw, hs, by rw [hz]; exact hl.symm, fun i hi => ?_⟩
    have hi2 : i < kvs.length := by omega
    obtain ⟨v, hv, rv⟩ := kv_get kv (show kvs[i]? = some ((kvs[i]).1, (kvs[i]).2) from List.getElem?_eq_getElem hi2)
    obtain ⟨e1, e2⟩ := hk i hi _ _ hv
    exact ⟨kV (kvs[i]).1, (kvs[i]).2, ⟨(kvs[i]).1, List.getElem?_eq_getElem hi2, rfl⟩, relV_key e1, by rw [e2]; exact rv⟩
  | dT kvs =>
    obtain ⟨_, hs, xs, kt, dd⟩ := dt_rd I.hok (.inr ⟨o, h⟩)
    obtain ⟨es, ep, raw, hz, hk⟩ := Heap.DictOfH.raw dd
    have hl : kvs.length = xs.length := Paired.length kt
    refine ⟨es, ep, raw, hs, by rw [hz]; exact hl.symm, fun i hi => ?_⟩
    have hi2 : i < kvs.length := by omega
    obtain ⟨b, hb, _, e2, e3⟩ := L2.paired_get kt (show kvs[i]? = some ((kvs[i]).1, (kvs[i]).2) from List.getElem?_eq_getElem hi2)
    obtain ⟨y, hy, k1, k2, _⟩ := hk i hi
    rw [hb] at hy; cases hy
    exact ⟨.ref b.2.1, (kvs[i]).2, ⟨(kvs[i]).1, b.2.1, List.getElem?_eq_getElem hi2, rfl, e2⟩, by rw [k1] <;> rfl, by rw [k2]; exact e3⟩
  | _ => exact hu.elim
def Jit (d : Addr) (o : Obj) (u : HO) : It := ⟨fun i H => H d = some (.frz o u) ∧ i < uLen u, fun i H v H' => ∃ T x y, v = .ref T ∧ H T = none ∧ H' = upd H T (.tup [x, y]) ∧ KeyAt H u i x y, fun i H => H d = some (.frz o u) ∧ i = uLen u⟩
def Jva (d : Addr) (o : Obj) (u : HO) : It := ⟨fun i H => H d = some (.frz o u) ∧ i < uLen u, fun i H v H' => H' = H ∧ ∃ x, KeyAt H u i x v, fun i H => H d = some (.frz o u) ∧ i = uLen u⟩
section
variable {P : Program} {w : World} {K : PySem.W.Frag} {elts : List Expr} {kk : Nat} {tpos : Pos} {tg : Expr} {d : Addr} {o : Obj} {u : HO} {es : Array DictEntry} {ep : Nat}
theorem dict_ne {h : Heap} {it : Addr} {ob : Obj} (raw : h.DictRaw d es ep) (e : h.get? it = some ob) (hc : ob.cls ≠ .type "dict") : d ≠ it := fun z => by
  obtain ⟨o', ho', hx, _⟩ := raw
  subst z
  rw [e] at ho'; cases ho'
  exact hc hx.1
theorem turn_jit (it : Addr) (hu : IsD u) (hes : o.data = .dict es ep) : Turn P w K (.Tuple elts kk tpos) (Jit d o u) [it] it (fun i h => ∃ ok ov, IsItemIter h it d i (uLen u) ep ok ov) := by
  have same : ∀ {X : Cx} {pins : List (Addr × Obj)} {s : Shared} {σ : St} {H : Hp}, Inv X pins σ H s → H d = some (.frz o u) → ∃ es2, s.heap.DictRaw d es2 ep ∧ es2.size = uLen u ∧ ∀ i (hi : i < es2.size), ∃ x y, KeyAt H u i x y ∧ RelV x es2[i].key ∧ RelV y es2[i].val := fun {X pins s σ H} V h => by
    obtain ⟨es2, ep2, raw, _, hz, hk⟩ := rawAt V h hu
    obtain ⟨o2, h2, _, h3⟩ := id raw
    obtain ⟨hd, _⟩ := V.hok d _ h
    rw [hd] at h2; cases h2
    rw [hes] at h3; cases h3
    exact ⟨es, raw, hz, hk⟩
  refine turn_goes (by simp) (fun i h st b hb => ?_) (fun i h h' st k => ?_) (fun X i pins s σ H hP hw hK hc V st hg => ?_) (fun X i pins s σ H hP hw hK hc V st hg => ?_) fun A i s Q E st h => let ⟨_, _, e⟩ := st; PySem.W.kcp_self e h
  · obtain ⟨ok, ov, e⟩ := st
    rw [show b = it by simpa using hb]
    exact ⟨_, e, fun v z => nomatch z⟩
  · obtain ⟨ok, ov, e⟩ := st
    exact ⟨ok, ov, k it (by simp) _ e⟩
  · subst hP hw hK
    obtain ⟨hd, hi⟩ := hg
    obtain ⟨es2, raw, hz, hk⟩ := same V hd
    obtain ⟨ok, ov, he⟩ := st
    have ne := dict_ne raw he (fun z => absurd (Value.type.inj z) (by decide))
    have g := GoesN.rawItems (prog := X.prog) (w := X.w) (A := X.A) (elts := elts) (x1 := kk) (pos := tpos) (V.ok.hd hc) it d ne es2 ep
    rw [← hz] at he
    refine ⟨_, _, _, _, g, by rw [hz]; exact hi, ⟨⟨ok, ov, he⟩, raw⟩, fun v h' y st' hk' => ?_⟩
    obtain ⟨⟨ok', ov', he'⟩, _⟩ := st'
    rw [hz] at he'
    refine ⟨⟨ok', ov', he'⟩, .inr ?_⟩
    obtain ⟨T, hi2, rfl, hT, ht⟩ := y
    obtain ⟨x, y, ka, r1, r2⟩ := hk i hi2
    exact ⟨T, x, y, _, rfl, hT, .cons r1 (.cons r2 .nil), ht, fun nT => ⟨T, x, y, rfl, nT, rfl, ka⟩⟩
  · subst hP hw hK
    obtain ⟨hd, hi⟩ := hg
    obtain ⟨es2, raw, hz, hk⟩ := same V hd
    obtain ⟨ok, ov, he⟩ := st
    have ne := dict_ne raw he (fun z => absurd (Value.type.inj z) (by decide))
    have g := GoesN.rawItems (prog := X.prog) (w := X.w) (A := X.A) (elts := elts) (x1 := kk) (pos := tpos) (V.ok.hd hc) it d ne es2 ep
    rw [← hz] at he hi
    subst hi
    exact ⟨_, _, _, g, ⟨ok, ov, he⟩, raw⟩
theorem turn_jva (it : Addr) (hu : IsD u) (hes : o.data = .dict es ep) : Turn P w K tg (Jva d o u) [it] it (fun i h => h.IsValIter it d i (uLen u) ep) := by
  have same : ∀ {X : Cx} {pins : List (Addr × Obj)} {s : Shared} {σ : St} {H : Hp}, Inv X pins σ H s → H d = some (.frz o u) → ∃ es2, s.heap.DictRaw d es2 ep ∧ es2.size = uLen u ∧ ∀ i (hi : i < es2.size), ∃ x y, KeyAt H u i x y ∧ RelV x es2[i].key ∧ RelV y es2[i].val := fun {X pins s σ H} V h => by
    obtain ⟨es2, ep2, raw, _, hz, hk⟩ := rawAt V h hu
    obtain ⟨o2, h2, _, h3⟩ := id raw
    obtain ⟨hd, _⟩ := V.hok d _ h
    rw [hd] at h2; cases h2
    rw [hes] at h3; cases h3
    exact ⟨es, raw, hz, hk⟩
  refine turn_goes (by simp) (fun i h st b hb => ?_) (fun i h h' st k => ?_) (fun X i pins s σ H hP hw hK hc V st hg => ?_) (fun X i pins s σ H hP hw hK hc V st hg => ?_) fun A i s Q E st h => wpAny_pyIter_valiter st h
  · obtain ⟨oi, e, c, dd⟩ := st
    rw [show b = it by simpa using hb]
    exact ⟨oi, e, fun v z => by rw [dd] at z; cases z⟩
  · exact st.at fun oi e => k it (by simp) oi e
  · subst hP hw hK
    obtain ⟨hd, hi⟩ := hg
    obtain ⟨es2, raw, hz, hk⟩ := same V hd
    obtain ⟨oi, e, c, dd⟩ := id st
    have ne := dict_ne raw e (fun z => by rw [c] at z; exact absurd (Value.type.inj z) (by decide))
    have g := (Goes.rawValues (prog := X.prog) (w := X.w) (A := X.A) (target := tg) (V.ok.hd hc) it d ne es2 ep).toN
    rw [← hz] at st
    refine ⟨_, _, _, _, g, by rw [hz]; exact hi, ⟨st, raw⟩, fun v h' y st' hk' => ?_⟩
    obtain ⟨st', _⟩ := st'
    rw [hz] at st'
    refine ⟨st', .inl ?_⟩
    obtain ⟨hi2, rfl⟩ := y
    obtain ⟨x, y, ka, r1, r2⟩ := hk i hi2
    exact ⟨y, r2, rfl, x, ka⟩
  · subst hP hw hK
    obtain ⟨hd, hi⟩ := hg
    obtain ⟨es2, raw, hz, hk⟩ := same V hd
    obtain ⟨oi, e, c, dd⟩ := id st
    have ne := dict_ne raw e (fun z => by rw [c] at z; exact absurd (Value.type.inj z) (by decide))
    have g := (Goes.rawValues (prog := X.prog) (w := X.w) (A := X.A) (target := tg) (V.ok.hd hc) it d ne es2 ep).toN
    rw [← hz] at st hi
    subst hi
    exact ⟨_, _, _, g, st, raw⟩
def iItR (td : TE) : TI := fun σ H R => td σ H fun x H1 => ∃ d o u, x = .ref d ∧ H1 d = some (.frz o u) ∧ IsD u ∧ R (Jit d o u) H1
def iVaR (td : TE) : TI := fun σ H R => td σ H fun x H1 => ∃ d o u, x = .ref d ∧ H1 d = some (.frz o u) ∧ IsD u ∧ R (Jva d o u) H1
variable {X : Cx} {e : Expr} {td : TE} {apos cpos : Pos}
theorem pi_itR (he : PE X e td) (hbase : attributeBase e "items" X.env (eval e X.env) = eval e X.env := by rfl) (hline : (apos.endLine == cpos.line) = true := by rfl) : PI X (.Tuple elts kk tpos) (.Call (.Attribute e "items" apos) [] [] cpos) (iItR td) := ⟨fun pins s σ H R I h => by
  refine wpAny_Call_method (T := "dict") (id := "dict.items") hbase rfl hline F.plainAttrs_dict F.slot_dict_items F.type_dict_items (thn (he.run pins s σ H _ I h) fun v s1 ⟨x, H1, I1, rx, d, o, u, ex, hd, hu, q⟩ => ?_)
  subst ex
  obtain rfl : v = Value.ref d := rx
  obtain ⟨es, ep, raw, hs, hz, hk⟩ := rawAt I1 hd hu
  obtain ⟨o2, h2, hx, hes⟩ := id raw
  obtain ⟨hd2, _⟩ := I1.hok d _ hd
  rw [hd2] at h2; cases h2
  refine ⟨⟨o, hd2, hx.1⟩, fun a z => (by cases z; exact ⟨o, hd2, hx.2.1⟩), ?_⟩
  have I2 : Inv X pins σ H1 { s1 with heap := s1.heap.push { cls := .type "dict_items", data := .fields #[.ref d] } } := I1.kept (t' := s1.toks) fun b ob q => Heap.get?_push_of_some _ q
  have raw2 : (s1.heap.push { cls := .type "dict_items", data := .fields #[.ref d] }).DictRaw d es ep := raw.at fun ob q => Heap.get?_push_of_some _ q
  have fin : wpAny (model X.prog X.w) X.A (pyIter (.ref s1.heap.objs.size)) (PIE X pins σ (.Tuple elts kk tpos) R) X.xe { s1 with heap := s1.heap.push { cls := .type "dict_items", data := .fields #[.ref d] } } := by
    refine wpAny_pyIter_items_raw (d := d) ⟨_, Heap.get?_push_size _ rfl, rfl, rfl⟩ raw2 (pi_one (tk := s1.toks) I2 _ (turn_jit _ hu hes) ⟨.none, .none, ?_⟩ q)
    rw [← hz]
    exact Heap.get?_push_size _ rfl
  show wpAny _ _ (callWith cpos (.builtin "dict.items") [.ref d] [] []) _ X.xe s1
  exact method_meetsIn F.slot_dict_items F.entry_dict_items rfl (PySem.evalArgs_none ⟨rfl, ⟨o, hd2, hx.1⟩, F.args_dict_items_1 _, _, meets_dict_items_raw d hs, ⟨es, ep, raw⟩, fin⟩)⟩
theorem pi_vaR (he : PE X e td) (hbase : attributeBase e "values" X.env (eval e X.env) = eval e X.env := by rfl) (hline : (apos.endLine == cpos.line) = true := by rfl) : PI X tg (.Call (.Attribute e "values" apos) [] [] cpos) (iVaR td) := ⟨fun pins s σ H R I h => by
  refine wpAny_Call_method (T := "dict") (id := "dict.values") hbase rfl hline F.plainAttrs_dict F.slot_dict_values F.type_dict_values (thn (he.run pins s σ H _ I h) fun v s1 ⟨x, H1, I1, rx, d, o, u, ex, hd, hu, q⟩ => ?_)
  subst ex
  obtain rfl : v = Value.ref d := rx
  obtain ⟨es, ep, raw, hs, hz, hk⟩ := rawAt I1 hd hu
  obtain ⟨o2, h2, hx, hes⟩ := id raw
  obtain ⟨hd2, _⟩ := I1.hok d _ hd
  rw [hd2] at h2; cases h2
  refine ⟨⟨o, hd2, hx.1⟩, fun a z => (by cases z; exact ⟨o, hd2, hx.2.1⟩), ?_⟩
  have I2 : Inv X pins σ H1 { s1 with heap := s1.heap.push { cls := .type "dict_values", data := .fields #[.ref d] } } := I1.kept (t' := s1.toks) fun b ob q => Heap.get?_push_of_some _ q
  have raw2 : (s1.heap.push { cls := .type "dict_values", data := .fields #[.ref d] }).DictRaw d es ep := raw.at fun ob q => Heap.get?_push_of_some _ q
  have fin : wpAny (model X.prog X.w) X.A (pyIter (.ref s1.heap.objs.size)) (PIE X pins σ tg R) X.xe { s1 with heap := s1.heap.push { cls := .type "dict_values", data := .fields #[.ref d] } } := by
    refine wpAny_pyIter_values_raw (d := d) ⟨_, Heap.get?_push_size _ rfl, rfl, rfl⟩ raw2 (pi_one (tk := s1.toks) I2 _ (turn_jva _ hu hes) ⟨_, Heap.get?_push_size _ rfl, rfl, ?_⟩ q)
    rw [hz] <;> rfl
  show wpAny _ _ (callWith cpos (.builtin "dict.values") [.ref d] [] []) _ X.xe s1
  exact method_meetsIn F.slot_dict_values F.entry_dict_values rfl (PySem.evalArgs_none ⟨rfl, ⟨o, hd2, hx.1⟩, F.args_dict_values_1 _, _, meets_dict_values_raw d hs, ⟨es, ep, raw⟩, fin⟩)⟩
end
end Ev
end

section
set_option Elab.async false
set_option linter.all false
/-! EvJ: iterables as readings. -/
namespace Ev
open PySem PySem.Spec L2
set_option autoImplicit false
section
variable {K : PySem.W.Frag} {ct : Ct} {F : Hp} {a b : Addr} {vs us : List V} {l m : List D}
theorem walkD_list (fa : F a = some (.lst vs)) (rs : DReps K ct F l vs) : WalkD K ct F (Itl K a) l :=
  ⟨fun H => SqL K H a vs, YAt vs, by rw [rs.length]; exact walk_list, fun H le => SqL.of (le _ _ fa), fun F2 i H x H' le le2 hi y => by
    obtain ⟨rfl, y⟩ := y
    obtain ⟨d, h1, h2⟩ := rs.get' y
    exact ⟨F2, d, Grw.refl le2, h1, DRep.mono le _ _ h2⟩⟩
theorem walkD_tup {k : Bool} (fa : TupAt F a k vs) (rs : DReps K ct F l vs) : WalkD K ct F (Itt K a) l :=
  ⟨fun H => SqT K H a vs, YAt vs, by rw [rs.length]; exact walk_tup, fun H le => le.sqt fa.sqt, fun F2 i H x H' le le2 hi y => by
    obtain ⟨rfl, y⟩ := y
    obtain ⟨d, h1, h2⟩ := rs.get' y
    exact ⟨F2, d, Grw.refl le2, h1, DRep.mono le _ _ h2⟩⟩
theorem walkD_scr {ns : List Int} (fa : SqL K F a (ns.map V.int)) : WalkD K ct F (Itl K a) (ns.map D.int) :=
  ⟨fun H => SqL K H a (ns.map V.int), YAt (ns.map V.int), by rw [show (ns.map D.int).length = (ns.map V.int).length by simp]; exact walk_list, fun H le => le.sql fa, fun F2 i H x H' le le2 hi y => by
    obtain ⟨rfl, y⟩ := y
    rw [List.getElem?_map] at y
    cases h : ns[i]? with
    | none => rw [h] at y; cases y
    | some n =>
      rw [h] at y; cases y
      exact ⟨F2, .int n, Grw.refl le2, by rw [List.getElem?_map, h]; rfl, rfl⟩⟩
theorem gkv_get {κ : Type} {kf : κ → D} : ∀ {l : List (D × D)} {es : List (κ × V)} {i : Nat} {k : κ} {v : V}, GKv K ct F kf l es → es[i]? = some (k, v) → ∃ d, l[i]? = some (kf k, d) ∧ DRep K ct F d v
  | [], _, i, k, v, r, h => by rw [show _ = [] from r] at h; cases h
  | (k', d) :: l, _, i, k, v, ⟨x, v', t, e, hk, r, q⟩, h => by
    subst e hk
    cases i with
    | zero => cases h; exact ⟨d, rfl, r⟩
    | succ i =>
      obtain ⟨d2, h1, h2⟩ := gkv_get (i := i) q (by simpa using h)
      exact ⟨d2, by simpa using h1, h2⟩
theorem keys_rep : ∀ ks : List Key, DReps K ct F (ks.map kD) (ks.map kV)
  | [] => rfl
  | k :: ks => ⟨_, _, rfl, rep_kD k, keys_rep ks⟩
/-- a key that is there, as a deep thing -/
theorem key_grow {F2 H : Hp} (le : Le F2 H) {q : Addr} {k : List Key} (hq : H q = some (.tup (k.map kV))) : ∃ F3, Grw F2 H F3 H ∧ DRep K ct F3 (kT k) (.ref q) :=
  ⟨_, Grw.tup le hq fun o e => by have := le _ _ e; rw [hq] at this; cases this; rfl, q, _, rfl, upd_same, keys_rep k⟩
theorem walkD_keys {od : Obj} {es : List (Key × V)} {l : List (D × D)} (fa : F a = some (.frz od (.dK es))) (r : DKv K ct F l es) : WalkD K ct F (Itk a od es) (l.map (·.1)) :=
  ⟨fun H => H a = some (.frz od (.dK es)), _, by rw [List.length_map, len_G (gkv_K.mp r)]; exact walk_keys, fun H le => le _ _ fa, fun F2 i H x H' le le2 hi y => by
    obtain ⟨rfl, k, v, hk, rfl⟩ := y
    obtain ⟨d, h1, _⟩ := gkv_get (gkv_K.mp r) hk
    exact ⟨F2, kD k, Grw.refl le2, by rw [List.getElem?_map, h1]; rfl, rep_kD k⟩⟩
theorem walkD_keysT {od : Obj} {es : List (List Key × V)} {l : List (D × D)} (fa : F a = some (.frz od (.dT es))) (r : DTv K ct F l es) : WalkD K ct F (Itkt a od es) (l.map (·.1)) :=
  ⟨fun H => H a = some (.frz od (.dT es)), _, by rw [List.length_map, len_G (gkv_T.mp r)]; exact walk_keysT, fun H le => le _ _ fa, fun F2 i H x H' le le2 hi y => by
    obtain ⟨rfl, k, v, q, hk, rfl, hq⟩ := y
    obtain ⟨d, h1, _⟩ := gkv_get (gkv_T.mp r) hk
    obtain ⟨F3, g, rq⟩ := key_grow (K := K) (ct := ct) le2 hq
    exact ⟨F3, _, g, by rw [List.getElem?_map, h1]; rfl, rq⟩⟩
theorem walkD_range {lo : Int} {n : Nat} : WalkD K ct F (Itr lo n) ((List.range n).map fun i => .int (lo + (i : Nat))) :=
  ⟨fun _ => True, _, by rw [List.length_map, List.length_range]; exact walk_range, fun _ _ => trivial, fun F2 i H x H' le le2 hi y => by
    obtain ⟨rfl, rfl⟩ := y
    have hi' : i < n := by simpa using hi
    exact ⟨F2, .int (lo + (i : Nat)), Grw.refl le2, by rw [List.getElem?_map, List.getElem?_range hi']; rfl, rfl⟩⟩
/-- new pairs -/
theorem pair_new {F2 H : Hp} (le2 : Le F2 H) {T : Addr} {x y : V} {d e : D} (hT : H T = none) (r1 : DRep K ct F2 d x) (r2 : DRep K ct F2 e y) : ∃ F3, Grw F2 H F3 (upd H T (.tup [x, y])) ∧ DRep K ct F3 (.tup false [d, e]) (.ref T) := by
  have g := Grw.new (o := .tup [x, y]) le2 hT
  exact ⟨_, g, T, [x, y], rfl, upd_same, ⟨x, [y], rfl, DRep.mono g.le _ _ r1, y, [], rfl, DRep.mono g.le _ _ r2, rfl⟩⟩
def dEnum (l : List D) : List D := l.zipIdx.map fun p => .tup false [.int (p.2 : Nat), p.1]
def dZip (l m : List D) : List D := (l.zip m).map fun p => .tup false [p.1, p.2]
theorem enum_get {i : Nat} {d : D} (h : l[i]? = some d) : (dEnum l)[i]? = some (.tup false [.int (i : Nat), d]) := by
  unfold dEnum
  rw [List.getElem?_map, List.getElem?_zipIdx, h]
  simp
theorem zip_get {i : Nat} {d e : D} (h : l[i]? = some d) (k : m[i]? = some e) : (dZip l m)[i]? = some (.tup false [d, e]) := by
  unfold dZip
  rw [List.getElem?_map, List.getElem?_zip_eq_some (z := (d, e)) |>.mpr ⟨h, k⟩]
  rfl
theorem enum_len : (dEnum l).length = l.length := by unfold dEnum; simp
theorem zip_len : (dZip l m).length = min l.length m.length := by unfold dZip; simp
theorem walkD_enum (fa : F a = some (.lst vs)) (rs : DReps K ct F l vs) : WalkD K ct F (Ite K a) (dEnum l) :=
  ⟨fun H => SqL K H a vs, _, by rw [enum_len, rs.length]; exact walk_enum, fun H le => SqL.of (le _ _ fa), fun F2 i H x H' le le2 hi y => by
    obtain ⟨T, x, y, rfl, hT, rfl, hx, hy⟩ := y
    cases hx
    obtain ⟨d, h1, h2⟩ := rs.get' hy
    obtain ⟨F3, g, r⟩ := pair_new (K := K) (ct := ct) (d := .int (i : Nat)) le2 hT rfl (DRep.mono le _ _ h2)
    exact ⟨F3, _, g, enum_get h1, r⟩⟩
theorem walk_iet : Walk (Iet K a) vs.length (fun H => SqT K H a vs) (YPair (fun i => some (.int (i : Nat))) (fun i => vs[i]?)) :=
  ⟨fun i _ hi q => ⟨vs, vs[i], q, List.getElem?_eq_getElem hi⟩, fun _ q => ⟨vs, q, rfl⟩, fun i H v H' _ q y => by
    obtain ⟨T, x, h1, h2, h3, h4⟩ := y
    exact ⟨T, _, x, h1, h2, h3, rfl, h4 vs q⟩⟩
theorem walkD_enumT {k : Bool} (fa : TupAt F a k vs) (rs : DReps K ct F l vs) : WalkD K ct F (Iet K a) (dEnum l) :=
  ⟨fun H => SqT K H a vs, _, by rw [enum_len, rs.length]; exact walk_iet, fun H le => le.sqt fa.sqt, fun F2 i H x H' le le2 hi y => by
    obtain ⟨T, x, y, rfl, hT, rfl, hx, hy⟩ := y
    cases hx
    obtain ⟨d, h1, h2⟩ := rs.get' hy
    obtain ⟨F3, g, r⟩ := pair_new (K := K) (ct := ct) (d := .int (i : Nat)) le2 hT rfl (DRep.mono le _ _ h2)
    exact ⟨F3, _, g, enum_get h1, r⟩⟩
theorem walk_zipT : Walk (RZ.ItzT K a b) (min vs.length us.length) (fun H => SqT K H a vs ∧ SqT K H b us) (YPair (fun i => vs[i]?) (fun i => us[i]?)) := by
  refine ⟨fun i _ hi q => ?_, fun _ q => ⟨vs, us, q.1, q.2, by omega⟩, fun i H v H' _ q y => ?_⟩
  · exact ⟨vs, us, vs[i]'(by omega), us[i]'(by omega), q.1, q.2, List.getElem?_eq_getElem (by omega), List.getElem?_eq_getElem (by omega)⟩
  · obtain ⟨T, x, z, h1, h2, h3, h4, h5⟩ := y
    exact ⟨T, x, z, h1, h2, h3, h4 vs q.1, h5 us q.2⟩
theorem walkD_zip (fa : F a = some (.lst vs)) (rs : DReps K ct F l vs) (fb : F b = some (.lst us)) (qs : DReps K ct F m us) : WalkD K ct F (Itz K a b) (dZip l m) :=
  ⟨fun H => SqL K H a vs ∧ SqL K H b us, _, by rw [zip_len, rs.length, qs.length]; exact walk_zip rfl, fun H le => ⟨SqL.of (le _ _ fa), SqL.of (le _ _ fb)⟩, fun F2 i H x H' le le2 hi y => by
    obtain ⟨T, x, y, rfl, hT, rfl, hx, hy⟩ := y
    obtain ⟨d, h1, h2⟩ := rs.get' hx
    obtain ⟨e, h3, h4⟩ := qs.get' hy
    obtain ⟨F3, g, r⟩ := pair_new (K := K) (ct := ct) le2 hT (DRep.mono le _ _ h2) (DRep.mono le _ _ h4)
    exact ⟨F3, _, g, zip_get h1 h3, r⟩⟩
theorem walkD_zipT {k k2 : Bool} (fa : TupAt F a k vs) (rs : DReps K ct F l vs) (fb : TupAt F b k2 us) (qs : DReps K ct F m us) : WalkD K ct F (RZ.ItzT K a b) (dZip l m) :=
  ⟨fun H => SqT K H a vs ∧ SqT K H b us, _, by rw [zip_len, rs.length, qs.length]; exact walk_zipT, fun H le => ⟨le.sqt fa.sqt, le.sqt fb.sqt⟩, fun F2 i H x H' le le2 hi y => by
    obtain ⟨T, x, y, rfl, hT, rfl, hx, hy⟩ := y
    obtain ⟨d, h1, h2⟩ := rs.get' hx
    obtain ⟨e, h3, h4⟩ := qs.get' hy
    obtain ⟨F3, g, r⟩ := pair_new (K := K) (ct := ct) le2 hT (DRep.mono le _ _ h2) (DRep.mono le _ _ h4)
    exact ⟨F3, _, g, zip_get h1 h3, r⟩⟩
theorem dct_isD {t : Bool} {l : List (D × D)} {u : HO} (r : DctO K ct F t l u) : IsD u ∧ l.length = uLen u := by
  rcases r with ⟨_, es, rfl, q⟩ | ⟨_, es, rfl, q⟩
  · exact ⟨trivial, len_G (gkv_K.mp q)⟩
  · exact ⟨trivial, len_G (gkv_T.mp q)⟩
/-- an entry of a dict, as deep things -/
theorem keyAt_rep {t : Bool} {l : List (D × D)} {u : HO} (r : DctO K ct F t l u) {F2 H : Hp} (le : Le F F2) (le2 : Le F2 H) {i : Nat} {x y : V} (h : KeyAt H u i x y) : ∃ F3 k d, Grw F2 H F3 H ∧ l[i]? = some (k, d) ∧ DRep K ct F3 k x ∧ DRep K ct F3 d y := by
  rcases r with ⟨_, es, rfl, q⟩ | ⟨_, es, rfl, q⟩
  · obtain ⟨k, hk, rfl⟩ := h
    obtain ⟨d, h1, h2⟩ := gkv_get (gkv_K.mp q) hk
    exact ⟨F2, kD k, d, Grw.refl le2, h1, rep_kD k, DRep.mono le _ _ h2⟩
  · obtain ⟨k, p, hk, rfl, hp⟩ := h
    obtain ⟨d, h1, h2⟩ := gkv_get (gkv_T.mp q) hk
    obtain ⟨F3, g, rq⟩ := key_grow (K := K) (ct := ct) le2 hp
    exact ⟨F3, _, d, g, h1, rq, DRep.mono (le.trans g.le) _ _ h2⟩
theorem walkD_items {od : Obj} {t : Bool} {l : List (D × D)} {u : HO} (fa : F a = some (.frz od u)) (r : DctO K ct F t l u) : WalkD K ct F (Jit a od u) (l.map fun p => .tup false [p.1, p.2]) := by
  obtain ⟨hd, hl⟩ := dct_isD r
  refine ⟨fun H => H a = some (.frz od u), (Jit a od u).yld, ⟨fun i H hi q => ⟨q, by rw [← hl]; simpa using hi⟩, fun H q => ⟨q, by rw [← hl]; simp⟩, fun i H x H' hi q y => y⟩, fun H le => le _ _ fa, fun F2 i H x H' le le2 hi y => ?_⟩
  obtain ⟨T, x, y, rfl, hT, rfl, ka⟩ := y
  obtain ⟨F3, k, d, g, h1, r1, r2⟩ := keyAt_rep r le le2 ka
  obtain ⟨F4, g2, rr⟩ := pair_new (K := K) (ct := ct) g.le' hT r1 r2
  exact ⟨F4, _, g.trans g2, by rw [List.getElem?_map, h1]; rfl, rr⟩
theorem walkD_vals {od : Obj} {t : Bool} {l : List (D × D)} {u : HO} (fa : F a = some (.frz od u)) (r : DctO K ct F t l u) : WalkD K ct F (Jva a od u) (l.map (·.2)) := by
  obtain ⟨hd, hl⟩ := dct_isD r
  refine ⟨fun H => H a = some (.frz od u), (Jva a od u).yld, ⟨fun i H hi q => ⟨q, by rw [← hl]; simpa using hi⟩, fun H q => ⟨q, by rw [← hl]; simp⟩, fun i H x H' hi q y => y⟩, fun H le => le _ _ fa, fun F2 i H x H' le le2 hi y => ?_⟩
  obtain ⟨rfl, x', ka⟩ := y
  obtain ⟨F3, k, d, g, h1, r1, r2⟩ := keyAt_rep r le le2 ka
  exact ⟨F3, d, g, by rw [List.getElem?_map, h1]; rfl, r2⟩
end
/-! ### as rules -/
def dItems : D → Option (List D)
  | .lst l => some l
  | .tup _ l => some l
  | .dct _ l => some (l.map (·.1))
  | .scr l => some (l.map .int)
  | _ => none
def itD (m : M D) : MI := fun σ => match m σ with
  | some (d, σ') => (match dItems d with
    | some l => some (l, σ')
    | none => none)
  | none => none
def dEnm : D → Option (List D)
  | .lst l => some (dEnum l)
  | .tup _ l => some (dEnum l)
  | _ => none
def itE (m : M D) : MI := fun σ => match m σ with
  | some (d, σ') => (match dEnm d with
    | some l => some (l, σ')
    | none => none)
  | none => none
def dItm : D → Option (List D)
  | .dct _ l => some (l.map fun p => .tup false [p.1, p.2])
  | _ => none
def dVal : D → Option (List D)
  | .dct _ l => some (l.map (·.2))
  | _ => none
def itF (f : D → Option (List D)) (m : M D) : MI := fun σ => match m σ with
  | some (d, σ') => (match f d with
    | some l => some (l, σ')
    | none => none)
  | none => none
def okR (i : Int) : Bool := decide (-(2 ^ 62) ≤ i) && decide (i < 2 ^ 62)
def dRng (lo : Int) (n : Nat) : List D := (List.range n).map fun i => .int (lo + (i : Nat))
def itR1 (m : M D) : MI := fun σ => match m σ with
  | some (.int j, σ') => if okR j = true then some (dRng 0 j.toNat, σ') else none
  | _ => none
def itR2 (m n : M D) : MI := fun σ => match mL [m, n] σ with
  | some ([.int i, .int j], σ') => if (okR i && okR j) = true then some (dRng i (j - i).toNat, σ') else none
  | _ => none
def itZ (m n : M D) : MI := fun σ => match mL [m, n] σ with
  | some ([.lst l, .lst k], σ') => some (dZip l k, σ')
  | some ([.tup _ l, .tup _ k], σ') => some (dZip l k, σ')
  | _ => none
theorem okR_ok {i : Int} (h : okR i = true) : -(2 ^ 62) ≤ i ∧ i < 2 ^ 62 := by
  unfold okR at h
  rw [Bool.and_eq_true] at h
  exact ⟨of_decide_eq_true h.1, of_decide_eq_true h.2⟩
section
variable {X : Cx} {ct : Ct} {tg e e2 : Expr} {m n : M D} {p pos apos tpos : Pos} {elts : List Expr} {kk : Nat}
theorem si_d (h : SE X ct e m) : SI X ct tg e (itD m) := PIimp (PIor (pi_list h) (PIor (pi_tup h) (pi_keys h))) fun σV H R ⟨F, σ, w, ds, σ', e, q⟩ => by
  unfold itD at e
  split at e
  · rename_i d σ1 h1
    split at e
    · rename_i l h2
      cases e
      cases d with
      | lst l => cases h2; exact .inl ⟨F, σ, w, _, _, h1, fun v H' F' st ⟨a, vs, e, fa, rs⟩ => ⟨a, e, ⟨vs, SqL.of (st.w.le _ _ fa)⟩, q _ H' F' st (walkD_list fa rs)⟩⟩
      | tup kb l => cases h2; exact .inr (.inl ⟨F, σ, w, _, _, h1, fun v H' F' st ⟨a, vs, e, fa, rs⟩ => ⟨a, e, ⟨vs, st.w.le.sqt fa.sqt⟩, q _ H' F' st (walkD_tup fa rs)⟩⟩)
      | scr l => cases h2; exact .inl ⟨F, σ, w, _, _, h1, fun v H' F' st ⟨a, e, fa⟩ => ⟨a, e, ⟨_, st.w.le.sql fa⟩, q _ H' F' st (walkD_scr fa)⟩⟩
      | dct t l =>
        cases h2
        refine .inr (.inr ⟨F, σ, w, _, _, h1, fun v H' F' st ⟨a, od, u, e, fa, r⟩ => ⟨a, od, e, ?_⟩⟩)
        rcases r with ⟨_, es, rfl, r⟩ | ⟨_, es, rfl, r⟩
        · exact .inl ⟨es, st.w.le _ _ fa, q _ H' F' st (walkD_keys fa r)⟩
        · exact .inr ⟨es, st.w.le _ _ fa, q _ H' F' st (walkD_keysT fa r)⟩
      | _ => cases h2
    · cases e
  · cases e
theorem si_en (hg : Gl X "enumerate") (hm : X.mg "enumerate" = none) (h : SE X ct e m) (hs : starEach [e] X.env = [(false, eval e X.env)] := by rfl) : SI X ct (.Tuple elts kk tpos) (.Call (.Name "enumerate" p) [e] [] pos) (itF dEnm m) :=
  PIimp (PIor (pi_enum hg hm (pa_cons h pa_nil hs) hs) (pi_enumT hg hm (pa_cons h pa_nil hs) hs)) fun σV H R ⟨F, σ, w, ds, σ', e, q⟩ => by
  unfold itF at e
  split at e
  · rename_i d σ1 h1
    split at e
    · rename_i l h2
      cases e
      cases d with
      | lst l => cases h2; exact .inl ⟨F, σ, w, _, _, h1, fun v H' F' st ⟨a, vs, e, fa, rs⟩ => ⟨a, vs, by rw [e], SqL.of (st.w.le _ _ fa), q _ H' F' st (walkD_enum fa rs)⟩⟩
      | tup kb l => cases h2; exact .inr ⟨F, σ, w, _, _, h1, fun v H' F' st ⟨a, vs, e, fa, rs⟩ => ⟨a, vs, by rw [e], st.w.le.sqt fa.sqt, q _ H' F' st (walkD_enumT fa rs)⟩⟩
      | _ => cases h2
    · cases e
  · cases e
theorem si_it (h : SE X ct e m) (hbase : attributeBase e "items" X.env (eval e X.env) = eval e X.env := by rfl) (hline : (apos.endLine == pos.line) = true := by rfl) : SI X ct (.Tuple elts kk tpos) (.Call (.Attribute e "items" apos) [] [] pos) (itF dItm m) :=
  PIimp (pi_itR h hbase hline) fun σV H R ⟨F, σ, w, ds, σ', e, q⟩ => by
  unfold itF at e
  split at e
  · rename_i d σ1 h1
    split at e
    · rename_i l h2
      cases e
      cases d with
      | dct t l => cases h2; exact ⟨F, σ, w, _, _, h1, fun v H' F' st ⟨a, od, u, e, fa, r⟩ => ⟨a, od, u, e, st.w.le _ _ fa, (dct_isD r).1, q _ H' F' st (walkD_items fa r)⟩⟩
      | _ => cases h2
    · cases e
  · cases e
theorem si_va (h : SE X ct e m) (hbase : attributeBase e "values" X.env (eval e X.env) = eval e X.env := by rfl) (hline : (apos.endLine == pos.line) = true := by rfl) : SI X ct tg (.Call (.Attribute e "values" apos) [] [] pos) (itF dVal m) :=
  PIimp (pi_vaR h hbase hline) fun σV H R ⟨F, σ, w, ds, σ', e, q⟩ => by
  unfold itF at e
  split at e
  · rename_i d σ1 h1
    split at e
    · rename_i l h2
      cases e
      cases d with
      | dct t l => cases h2; exact ⟨F, σ, w, _, _, h1, fun v H' F' st ⟨a, od, u, e, fa, r⟩ => ⟨a, od, u, e, st.w.le _ _ fa, (dct_isD r).1, q _ H' F' st (walkD_vals fa r)⟩⟩
      | _ => cases h2
    · cases e
  · cases e
theorem si_r1 (hg : Gl X "range") (hm : X.mg "range" = none) (h : SE X ct e m) (hs : starEach [e] X.env = [(false, eval e X.env)] := by rfl) : SI X ct tg (.Call (.Name "range" p) [e] [] pos) (itR1 m) :=
  PIimp (pi_range1 hg hm (pa_cons h pa_nil hs) hs) fun σV H R ⟨F, σ, w, ds, σ', e, q⟩ => by
  unfold itR1 at e
  split at e
  · rename_i j σ1 h1
    split at e
    · rename_i hk
      cases e
      obtain ⟨k1, k2⟩ := okR_ok hk
      exact ⟨F, σ, w, _, _, h1, fun v H' F' st r => ⟨j, by rw [show v = .int j from r], k1, k2, q _ H' F' st walkD_range⟩⟩
    · cases e
  · cases e
theorem si_r2 (hg : Gl X "range") (hm : X.mg "range" = none) (h : SE X ct e m) (h2 : SE X ct e2 n) (hs : starEach [e, e2] X.env = [(false, eval e X.env), (false, eval e2 X.env)] := by rfl) (hs2 : starEach [e2] X.env = [(false, eval e2 X.env)] := by rfl) :
    SI X ct tg (.Call (.Name "range" p) [e, e2] [] pos) (itR2 m n) :=
  PIimp (pi_range2 hg hm (ses_cons h (ses_cons h2 ses_nil hs2) (hs.trans (by rw [hs2]))) hs hs2) fun σV H R ⟨F, σ, w, ds, σ', e, q⟩ => by
  unfold itR2 at e
  split at e
  · rename_i i j σ1 h1
    split at e
    · rename_i hk
      cases e
      rw [Bool.and_eq_true] at hk
      obtain ⟨k1, k2⟩ := okR_ok hk.1
      obtain ⟨k3, k4⟩ := okR_ok hk.2
      refine tL_ok (F := F) (H := H) w h1 fun vs H1 F1 st r => ?_
      obtain ⟨v, t, rfl, r1, u, t2, rfl, r2, rfl⟩ := r
      exact ⟨i, j, by rw [show v = .int i from r1, show u = .int j from r2], ⟨k1, k2, k3, k4⟩, q _ H1 F1 st walkD_range⟩
    · cases e
  · cases e
theorem si_zip (hg : Gl X "zip") (hm : X.mg "zip" = none) (h : SE X ct e m) (h2 : SE X ct e2 n) (hs : starEach [e, e2] X.env = [(false, eval e X.env), (false, eval e2 X.env)] := by rfl) (hs2 : starEach [e2] X.env = [(false, eval e2 X.env)] := by rfl) :
    SI X ct (.Tuple elts kk tpos) (.Call (.Name "zip" p) [e, e2] [] pos) (itZ m n) :=
  PIimp (RZ.pi_zipA hg hm (ses_cons h (ses_cons h2 ses_nil hs2) (hs.trans (by rw [hs2]))) (hs.trans (by rw [hs2])) (by rw [hs2]; rfl)) fun σV H R ⟨F, σ, w, ds, σ', e, q⟩ => by
  unfold itZ at e
  split at e
  · rename_i l k σ1 h1
    cases e
    refine tL_ok (F := F) (H := H) w h1 fun vs H1 F1 st r => ?_
    obtain ⟨v, t, rfl, ⟨a, xs, rfl, fa, r1⟩, u, t2, rfl, ⟨b, ys, rfl, fb, r2⟩, rfl⟩ := r
    exact ⟨a, b, xs, ys, rfl, .inl ⟨SqL.of (st.w.le _ _ fa), SqL.of (st.w.le _ _ fb), q _ H1 F1 st (walkD_zip fa r1 fb r2)⟩⟩
  · rename_i l k σ1 h1
    cases e
    refine tL_ok (F := F) (H := H) w h1 fun vs H1 F1 st r => ?_
    obtain ⟨v, t, rfl, ⟨a, xs, rfl, fa, r1⟩, u, t2, rfl, ⟨b, ys, rfl, fb, r2⟩, rfl⟩ := r
    exact ⟨a, b, xs, ys, rfl, .inr ⟨st.w.le.sqt fa.sqt, st.w.le.sqt fb.sqt, q _ H1 F1 st (walkD_zipT fa r1 fb r2)⟩⟩
  · cases e
end
end Ev
end

section
set_option Elab.async false
set_option linter.all false
/-! EvK: sorted of deep things; calls of built-ins. -/
namespace Ev
open PySem PySem.Spec L2
set_option autoImplicit false
/-! ### the order -/
def dLeS (d e : D) : Bool := !PySem.W.dataLt e.toP d.toP
def dLe (d e : D) : Bool := match d, e with
  | .int i, .int j => decide (i ≤ j)
  | .tup _ l, .tup _ m => (match D.ints l, D.ints m with
    | some ns, some ms => !HT.lexLt ms ns
    | _, _ => dLeS d e)
  | _, _ => dLeS d e
theorem lexLt_iff : ∀ xs ys : List Int, HT.lexLt xs ys = decide (xs < ys)
  | [], [] => by simp [HT.lexLt]
  | [], _ :: _ => by simp [HT.lexLt]
  | _ :: _, [] => by simp [HT.lexLt]
  | x :: xs, y :: ys => by
    rw [HT.lexLt_cons]
    by_cases h : x = y
    · subst h
      rw [if_pos rfl, lexLt_iff xs ys]
      simp
    · rw [if_neg h]
      simp [List.cons_lt_cons_iff, h]
theorem toPs_ints (ns : List Int) : D.toPs (ns.map D.int) = ns.map PyData.int := by
  induction ns with
  | nil => rfl
  | cons n ns ih => simp only [List.map_cons, D.toPs, D.toP, ih]
theorem dLe_eq (d e : D) : dLe d e = PySem.W.dataLe false D.toP d e := by
  show dLe d e = !PySem.W.dataLt e.toP d.toP
  unfold dLe
  split
  · rename_i i j
    show _ = !PySem.W.dataLt (.int j) (.int i)
    rw [PySem.W.dataLt_int]
    by_cases h : i ≤ j
    · rw [decide_eq_true h, decide_eq_false (by omega)]; rfl
    · rw [decide_eq_false h, decide_eq_true (by omega)]; rfl
  · rename_i k l k2 m
    split
    · rename_i ns ms h1 h2
      rw [ints_eq h1, ints_eq h2]
      simp only [D.toP, toPs_ints]
      rw [PySem.W.dataLt_tuple, lexLt_iff]
      exact congrArg not (PySem.W.dataLt_ints ms ns).symm
    · rfl
  · rfl
theorem dLe_total : PySem.W.TotalLe dLe := by
  have e : dLe = PySem.W.dataLe false D.toP := funext fun d => funext fun e => dLe_eq d e
  rw [e]
  exact PySem.W.sortLe_total _ false _
section
variable {α : Type}
def insB (le : α → α → Bool) (d : α) : List α → List α
  | [] => [d]
  | e :: l => if le d e = true then d :: e :: l else e :: insB le d l
def iSort (le : α → α → Bool) : List α → List α
  | [] => []
  | d :: l => insB le d (iSort le l)
variable {le : α → α → Bool} (T : PySem.W.TotalLe le)
theorem insB_mem {d x : α} : ∀ {l : List α}, x ∈ insB le d l ↔ x = d ∨ x ∈ l
  | [] => by simp [insB]
  | e :: l => by
    unfold insB
    split
    · simp
    · rw [List.mem_cons, insB_mem (l := l), List.mem_cons]
      constructor
      · rintro (h | h | h)
        · exact .inr (.inl h)
        · exact .inl h
        · exact .inr (.inr h)
      · rintro (h | h | h)
        · exact .inr (.inl h)
        · exact .inl h
        · exact .inr (.inr h)
include T in
theorem insB_pw {d : α} : ∀ {l : List α}, l.Pairwise (fun a b => le a b = true) → (insB le d l).Pairwise (fun a b => le a b = true)
  | [], _ => by simp [insB]
  | e :: l, h => by
    obtain ⟨h1, h2⟩ := List.pairwise_cons.mp h
    unfold insB
    split
    · rename_i hd
      refine List.pairwise_cons.mpr ⟨fun x hx => ?_, h⟩
      rcases List.mem_cons.mp hx with rfl | hx
      · exact hd
      · exact T.trans d e x hd (h1 x hx)
    · rename_i hd
      refine List.pairwise_cons.mpr ⟨fun x hx => ?_, insB_pw h2⟩
      rcases insB_mem.mp hx with rfl | hx
      · exact (T.total e x).resolve_right hd
      · exact h1 x hx
include T in
theorem insB_filter {d c : α} : ∀ {l : List α}, (insB le d l).filter (PySem.W.sameRank le c) = (d :: l).filter (PySem.W.sameRank le c)
  | [] => rfl
  | e :: l => by
    unfold insB
    split
    · rfl
    · rename_i hd
      rw [List.filter_cons, insB_filter (l := l)]
      by_cases h1 : PySem.W.sameRank le c d = true
      · by_cases h2 : PySem.W.sameRank le c e = true
        · unfold PySem.W.sameRank at h1 h2
          rw [Bool.and_eq_true] at h1 h2
          exact absurd (T.trans d c e h1.2 h2.1) hd
        · simp [List.filter_cons, h1, h2]
      · simp [List.filter_cons, h1]
include T in
theorem iSort_ok (l : List α) : iSort le l = l.mergeSort le := by
  refine PySem.W.sort_unique T ?_ fun c => ?_
  · induction l with
    | nil => exact List.Pairwise.nil
    | cons d l ih => exact insB_pw T ih
  · induction l with
    | nil => rfl
    | cons d l ih =>
      unfold iSort
      rw [insB_filter T, List.filter_cons, ih, List.filter_cons]
theorem iSort_len : ∀ l : List α, (iSort le l).length = l.length := by
  have q : ∀ (d : α) (l : List α), (insB le d l).length = l.length + 1 := fun d l => by
    induction l with
    | nil => rfl
    | cons e l ih =>
      unfold insB
      split
      · rfl
      · rw [List.length_cons, ih, List.length_cons]
  intro l
  induction l with
  | nil => rfl
  | cons d l ih => unfold iSort; rw [q, ih]; rfl
end
/-! ### what can be sorted -/
def D.isI : D → Bool
  | .int _ => true
  | _ => false
def D.isIT : D → Bool
  | .tup _ l => (D.ints l).isSome && !l.isEmpty
  | _ => false
def D.tupNE : D → Bool
  | .tup _ (_ :: _) => true
  | _ => false
def D.oth : D → Bool
  | .bl _ => true
  | .int _ => true
  | .str _ => true
  | .lst _ => true
  | _ => false
def okSort (l : List D) : Bool := decide (l.length ≤ LIM) && (l.all D.isI || l.all D.isIT || ((l.all fun d => d.pl && decide (d.dp ≤ 60)) && (l.all fun d => l.all fun e => PySem.W.alike d.toP e.toP) && (l.all D.tupNE || l.all D.oth)))
theorem isIT_eq {d : D} (h : d.isIT = true) : ∃ k n ns, d = .tup k ((n :: ns).map D.int) := by
  unfold D.isIT at h
  split at h
  · rename_i k l
    rw [Bool.and_eq_true] at h
    cases h1 : D.ints l with
    | none => rw [h1] at h; cases h.1
    | some ns =>
      have e := ints_eq h1
      subst e
      cases ns with
      | nil => simp at h
      | cons n ns => exact ⟨k, n, ns, rfl⟩
  · cases h
theorem pls_ints (ns : List Int) : D.pls (ns.map D.int) = true ∧ D.dps (ns.map D.int) = 0 := by
  induction ns with
  | nil => exact ⟨rfl, rfl⟩
  | cons n ns ih => simp only [List.map_cons, D.pls, D.dps, D.pl, D.dp, ih, Bool.and_self, Nat.max_self, and_self]
theorem okSort_of {l : List D} (h : okSort l = true) : l.length ≤ sizeLine ∧ (∀ d ∈ l, d.pl = true ∧ d.toP.depth ≤ 60) ∧ PySem.W.AllAlike (l.map D.toP) ∧ PySem.W.Sortable (l.map D.toP) := by
  unfold okSort at h
  simp only [Bool.and_eq_true, Bool.or_eq_true, decide_eq_true_eq, List.all_eq_true] at h
  obtain ⟨h0, h⟩ := h
  refine ⟨by rw [← LIM_eq]; exact h0, ?_⟩
  rcases h with (h | h) | ⟨⟨h1, h2⟩, h3⟩
  · have q : ∀ d ∈ l, ∃ i, d = .int i := fun d hd => by
      have := h d hd
      unfold D.isI at this
      split at this
      · exact ⟨_, rfl⟩
      · cases this
    refine ⟨fun d hd => ?_, fun a ha b hb => ?_, .inr fun a ha => ?_⟩
    · obtain ⟨i, rfl⟩ := q d hd; exact ⟨rfl, Nat.zero_le _⟩
    · obtain ⟨d, hd, rfl⟩ := List.mem_map.mp ha
      obtain ⟨e, he, rfl⟩ := List.mem_map.mp hb
      obtain ⟨i, rfl⟩ := q d hd
      obtain ⟨j, rfl⟩ := q e he
      rfl
    · obtain ⟨d, hd, rfl⟩ := List.mem_map.mp ha
      obtain ⟨i, rfl⟩ := q d hd
      exact ⟨by simp [D.toP], fun xs => by simp [D.toP]⟩
  · refine ⟨fun d hd => ?_, fun a ha b hb => ?_, .inl fun a ha => ?_⟩
    · obtain ⟨k, n, ns, rfl⟩ := isIT_eq (h d hd)
      obtain ⟨p1, p2⟩ := pls_ints (n :: ns)
      refine ⟨p1, ?_⟩
      rw [(pl_lay (.tup k ((n :: ns).map D.int)) p1).2]
      show D.dps _ + 1 ≤ 60
      rw [p2]; decide
    · obtain ⟨d, hd, rfl⟩ := List.mem_map.mp ha
      obtain ⟨e, he, rfl⟩ := List.mem_map.mp hb
      obtain ⟨k, n, ns, rfl⟩ := isIT_eq (h d hd)
      obtain ⟨k2, n2, ns2, rfl⟩ := isIT_eq (h e he)
      simp only [D.toP, toPs_ints, PySem.W.alike]
      exact PySem.W.alike_ints _ _
    · obtain ⟨d, hd, rfl⟩ := List.mem_map.mp ha
      obtain ⟨k, n, ns, rfl⟩ := isIT_eq (h d hd)
      exact ⟨.int n, ns.map .int, by simp only [D.toP, D.toPs, toPs_ints, List.map_cons]⟩
  · refine ⟨fun d hd => ?_, fun a ha b hb => ?_, ?_⟩
    · obtain ⟨p1, p2⟩ := h1 d hd
      exact ⟨p1, by rw [(pl_lay d p1).2]; exact p2⟩
    · obtain ⟨d, hd, rfl⟩ := List.mem_map.mp ha
      obtain ⟨e, he, rfl⟩ := List.mem_map.mp hb
      exact h2 d hd e he
    · rcases h3 with h3 | h3
      · refine .inl fun a ha => ?_
        obtain ⟨d, hd, rfl⟩ := List.mem_map.mp ha
        have := h3 d hd
        unfold D.tupNE at this
        split at this
        · rename_i k x r; exact ⟨x.toP, D.toPs r, rfl⟩
        · cases this
      · refine .inr fun a ha => ?_
        obtain ⟨d, hd, rfl⟩ := List.mem_map.mp ha
        have := h3 d hd
        unfold D.oth at this
        split at this <;> first | exact absurd this (by decide) | exact ⟨by simp [D.toP], fun xs => by simp [D.toP]⟩
/-! ### as rules -/
inductive All2 (P : V → D → Prop) : List V → List D → Prop
  | nil : All2 P [] []
  | cons {v : V} {d : D} {vs : List V} {ds : List D} : P v d → All2 P vs ds → All2 P (v :: vs) (d :: ds)
theorem all2_reps {K ct F} : ∀ {vs : List V} {ds : List D}, All2 (fun v d => DRep K ct F d v) vs ds → DReps K ct F ds vs
  | _, _, .nil => rfl
  | _, _, .cons h t => ⟨_, _, rfl, h, all2_reps t⟩
theorem reps_zip {K ct F} : ∀ {vs : List V} {ds : List D}, DReps K ct F ds vs → ∀ p ∈ vs.zip ds, DRep K ct F p.2 p.1
  | _, [], r, p, h => by rw [show _ = [] from r] at h; simp at h
  | _, d :: ds, ⟨v, t, e, r, q⟩, p, h => by
    subst e
    rw [List.zip_cons_cons] at h
    rcases List.mem_cons.mp h with rfl | h
    · exact r
    · exact reps_zip q p h
abbrev SRel (ys : List V) (l : List D) (u : Value) (d : D) : Prop := ∃ x, RelV x u ∧ (x, d) ∈ ys.zip l
theorem srel_of : ∀ {ys : List V} {l : List D} {us : List Value} {all : List (V × D)}, ys.length = l.length → Vals ys us → (∀ p ∈ ys.zip l, p ∈ all) → PySem.W.EachIs (fun u d => ∃ x, RelV x u ∧ (x, d) ∈ all) us l
  | _, [], _, _, hl, r, h => by
    cases r with
    | nil => exact .nil
    | cons => simp at hl
  | _, d :: l, _, all, hl, r, h => by
    cases r with
    | nil => simp at hl
    | cons r rr =>
      exact .cons ⟨_, r, h _ (by rw [List.zip_cons_cons]; exact List.mem_cons_self)⟩ (srel_of (by simpa using hl) rr fun p hp => h p (by rw [List.zip_cons_cons]; exact List.mem_cons_of_mem _ hp))
theorem srel_out {all : List (V × D)} : ∀ {us : List Value} {l : List D}, PySem.W.EachIs (fun u d => ∃ x, RelV x u ∧ (x, d) ∈ all) us l → ∃ ys, Vals ys us ∧ ∀ P : V → D → Prop, (∀ p ∈ all, P p.1 p.2) → All2 P ys l
  | _, _, .nil => ⟨[], .nil, fun _ _ => .nil⟩
  | _, _, .cons ⟨x, r, m⟩ t => by
    obtain ⟨ys, h1, h2⟩ := srel_out t
    exact ⟨x :: ys, .cons r h1, fun P h => .cons (h _ m) (h2 P h)⟩
theorem each_reads {X : Cx} {pins : List (Addr × Obj)} {σ : St} {H : Hp} {s : Shared} (I : Inv X pins σ H s) : ∀ {ys : List V} {us : List Value} {l : List D}, Vals ys us → DpAll X.K H ys (D.toPs l) → PySem.W.EachIs (fun v d => ∃ as, Reads s.heap v (D.toP d) as) us l
  | _, _, [], r, h => by
    cases h
    cases r
    exact .nil
  | _, _, d :: l, r, h => by
    cases h with
    | cons h1 h2 =>
      cases r with
      | cons r rr => exact .cons (Dp.reads I _ _ _ h1 r) (each_reads I rr h2)
/-- sorted of a list that reads as deep things -/
def rSrt (K : PySem.W.Frag) : V → Hp → VK → Prop := fun x H Q => ∃ (p : Addr) (ys : List V) (l : List D), x = .ref p ∧ SqL K H p ys ∧ DpAll K H ys (D.toPs l) ∧ okSort l = true ∧ ys.length = l.length ∧
  ∀ q ys', H q = none → (∀ P : V → D → Prop, (∀ z ∈ ys.zip l, P z.1 z.2) → All2 P ys' (iSort dLe l)) → Q (.ref q) (upd H q (.lst ys'))
theorem cr_srt {X : Cx} (hu : X.A.units + 64 < cLine) : CallR X (.builtin "sorted") (fun xs H Q => ∃ x, xs = [x] ∧ rSrt X.K x H Q) := by
  intro pins s σ H xs us Q I r h
  obtain ⟨x, rfl, p, ys, l, rfl, hs, hd, ho, hl, q⟩ := h
  obtain ⟨its, rv, pl, hz⟩ := I.list hs
  rw [Vals.ref1 r]
  obtain ⟨k1, k2, k3, k4⟩ := okSort_of ho
  have e1 := srel_of (all := ys.zip l) hl rv fun p hp => hp
  refine PySem.W.sorted_data (enc := D.toP) pl.isList e1 (each_reads I rv hd) k3 k4 k1 (fun d hd => by have := (k2 d hd).2; omega) fun out ho2 e2 => ?_
  have em : l.mergeSort (PySem.W.dataLe false D.toP) = iSort dLe l := by
    rw [iSort_ok dLe_total, show dLe = PySem.W.dataLe false D.toP from funext fun d => funext fun e => dLe_eq d e]
  rw [em] at e2
  obtain ⟨ys', v2, a2⟩ := srel_out e2
  obtain ⟨ep, he'⟩ := PyProof.Rows.sortedAll_at s.heap its out.toArray
  have hlen : ys'.length ≤ sizeLine := by rw [v2.length, ho2]; exact k1
  exact ⟨.ref _, upd H (s.heap.objs.size + 1) (.lst ys'), I.laid (t' := s.toks) (fun _ _ => PyProof.Rows.sortedAll_old) (Nat.le_succ _) ⟨hlen, out, ep, v2, he'⟩, rfl, q _ _ (I.hok.fresh (Nat.le_succ _)) a2⟩
end Ev
end

section
set_option Elab.async false
set_option linter.all false
/-! EvL: sorted of dicts, len, tuple, dict of pairs, other built-ins. -/
namespace Ev
open PySem PySem.Spec L2
set_option autoImplicit false
/-! ### what a reading's addresses are -/
mutual
theorem reads_lt {h : Heap} : ∀ (d : PyData) (v : Value) (as : List Addr), Reads h v d as → (∀ kvs, d ≠ .dict kvs) → PyData.canLay0 d = true → ∀ b ∈ as, b < h.objs.size
  | .none, _, _, r, _, _, b, hb => by cases r; cases hb
  | .bool _, _, _, r, _, _, b, hb => by cases r; cases hb
  | .int _, _, _, r, _, _, b, hb => by cases r; cases hb
  | .str _, _, _, r, _, _, b, hb => by cases r; cases hb
  | .list xs, _, _, r, _, c, b, hb => by
    cases r with
    | list ho _ _ rs =>
      rcases List.mem_cons.mp hb with rfl | hb
      · exact Heap.lt_size ho
      · exact readsAll_lt xs _ _ rs c b hb
  | .tuple xs, _, _, r, _, c, b, hb => by
    cases r with
    | tuple ho _ _ rs => exact readsAll_lt xs _ _ rs c b hb
  | .dict kvs, _, _, r, n, _, b, hb => absurd rfl (n kvs)
theorem readsAll_lt {h : Heap} : ∀ (ds : List PyData) (vs : List Value) (as : List Addr), ReadsAll h vs ds as → PyData.canLayAll0 ds = true → ∀ b ∈ as, b < h.objs.size
  | [], _, _, r, _, b, hb => by cases r; cases hb
  | d :: ds, _, _, r, c, b, hb => by
    have c' : (PyData.canLay0 d && PyData.canLayAll0 ds) = true := by simpa [PyData.canLayAll0] using c
    rw [Bool.and_eq_true] at c'
    cases r with
    | cons r rs =>
      rcases List.mem_append.mp hb with hb | hb
      · exact reads_lt d _ _ r (fun kvs e => by subst e; simp [PyData.canLay0] at c') c'.1 b hb
      · exact readsAll_lt ds _ _ rs c'.2 b hb
end
/-! ### dicts looked at whole -/
theorem rawRd {X : Cx} {pins : List (Addr × Obj)} {σ : St} {H : Hp} {s : Shared} {d : Addr} {u : HO} (I : Inv X pins σ H s) (h : Rd H d u) (hu : IsD u) :
    ∃ o es ep, s.heap.get? d = some o ∧ o.ExactDict ∧ o.data = .dict es ep ∧ (d == sysModules) = false ∧ es.size = uLen u ∧ uLen u ≤ sizeLine ∧ ∀ i (hi : i < es.size), ∃ x y, KeyAt H u i x y ∧ RelV x es[i].key ∧ RelV y es[i].val := by
  cases u with
  | dK kvs =>
    obtain ⟨z, hs, vs, kv, dd⟩ := dk_rd I.hok h
    obtain ⟨es, ep, ⟨o, e1, e2, e3⟩, hz, hk⟩ := Heap.DictOf.raw dd
    have hl : kvs.length = vs.length := Paired.length kv
    refine ⟨o, es, ep, e1, e2, e3, hs, by rw [hz]; exact hl.symm, z, fun i hi => ?_⟩
    have hi2 : i < kvs.length := by omega
    obtain ⟨v, hv, rv⟩ := kv_get kv (show kvs[i]? = some ((kvs[i]).1, (kvs[i]).2) from List.getElem?_eq_getElem hi2)
    obtain ⟨e1, e2⟩ := hk i hi _ _ hv
    exact ⟨kV (kvs[i]).1, (kvs[i]).2, ⟨(kvs[i]).1, List.getElem?_eq_getElem hi2, rfl⟩, relV_key e1, by rw [e2]; exact rv⟩
  | dT kvs =>
    obtain ⟨z, hs, xs, kt, dd⟩ := dt_rd I.hok h
    obtain ⟨es, ep, ⟨o, e1, e2, e3⟩, hz, hk⟩ := Heap.DictOfH.raw dd
    have hl : kvs.length = xs.length := Paired.length kt
    refine ⟨o, es, ep, e1, e2, e3, hs, by rw [hz]; exact hl.symm, z, fun i hi => ?_⟩
    have hi2 : i < kvs.length := by omega
    obtain ⟨b, hb, _, e2, e3⟩ := L2.paired_get kt (show kvs[i]? = some ((kvs[i]).1, (kvs[i]).2) from List.getElem?_eq_getElem hi2)
    obtain ⟨y, hy, k1, k2, _⟩ := hk i hi
    rw [hb] at hy; cases hy
    exact ⟨.ref b.2.1, (kvs[i]).2, ⟨(kvs[i]).1, b.2.1, List.getElem?_eq_getElem hi2, rfl, e2⟩, by rw [k1] <;> rfl, by rw [k2]; exact e3⟩
  | _ => exact hu.elim
/-- the keys of a dict -/
def KeysAre (H : Hp) (u : HO) (ks : List V) : Prop := ks.length = uLen u ∧ ∀ i x, ks[i]? = some x → ∃ y, KeyAt H u i x y
theorem vals_build {n : Nat} {us : List Value} {G : Nat → V → Prop} (hl : us.length = n) (h : ∀ i u, us[i]? = some u → ∃ x, RelV x u ∧ G i x) : ∃ ks : List V, Vals ks us ∧ ∀ i x, ks[i]? = some x → G i x := by
  induction us generalizing n G with
  | nil => exact ⟨[], .nil, fun i x e => by simp at e⟩
  | cons u us ih =>
    obtain ⟨x, r, g⟩ := h 0 u rfl
    obtain ⟨ks, r2, g2⟩ := ih (n := us.length) (G := fun i => G (i + 1)) rfl fun i u' e => h (i + 1) u' (by simpa using e)
    refine ⟨x :: ks, .cons r r2, fun i y e => ?_⟩
    cases i with
    | zero => cases e; exact g
    | succ i => exact g2 i y (by simpa using e)
def rSrtD (K : PySem.W.Frag) : V → Hp → VK → Prop := fun x H Q => ∃ (p : Addr) (u : HO), x = .ref p ∧ Rd H p u ∧ IsD u ∧ ∀ ks, KeysAre H u ks → ∃ l : List D, DpAll K H ks (D.toPs l) ∧ D.pls l = true ∧ okSort l = true ∧ ks.length = l.length ∧
  ∀ q ys', H q = none → (∀ P : V → D → Prop, (∀ z ∈ ks.zip l, P z.1 z.2) → All2 P ys' (iSort dLe l)) → Q (.ref q) (upd H q (.lst ys'))
theorem each_and {us : List Value} {l : List D} {P Q : Value → D → Prop} (h : PySem.W.EachIs P us l) (k : ∀ u d, d ∈ l → P u d → Q u d) : PySem.W.EachIs Q us l := by
  induction h with
  | nil => exact .nil
  | cons h t ih => exact .cons (k _ _ List.mem_cons_self h) (ih fun u d m => k u d (List.mem_cons_of_mem _ m))
theorem cr_srtD {X : Cx} (hc : X.calm = true) (hu : X.A.units + 64 < cLine) : CallR X (.builtin "sorted") (fun xs H Q => ∃ x, xs = [x] ∧ rSrtD X.K x H Q) := by
  intro pins s σ H xs us Q I r h
  obtain ⟨x, rfl, p, u, rfl, hp, hd, h⟩ := h
  rw [Vals.ref1 r]
  obtain ⟨o, es, ep, ho, hx, hes, lo, hz, hz2, hk⟩ := rawRd I hp hd
  refine Calls.call_function_entry PyProof.Rows.kind_sorted PyProof.Rows.plain_sorted PyProof.Rows.entry_sorted (PyProof.Rows.args_sorted1 _) ?_
  unfold Builtin.«sorted»; refine wpAny_bind (m := checkCount "sorted" 1 1 _) (wpAny_pure ?_)
  refine wpAny_bind (PySem.W.kdu_collect (A := X.A.in1) (kdl_raw lo hx hes) (I.ok.hd hc) ho (by omega) fun h' tk acc hkp hacc => ?_)
  have I1 : Inv X pins σ H { s with heap := h', toks := tk } := I.kept hkp
  have hl : acc.toList.length = es.size := by rw [Array.length_toList, hacc.1]
  obtain ⟨ks, rv, g⟩ := vals_build (G := fun i x => ∃ y, KeyAt H u i x y) hl fun i v e => by
    obtain ⟨en, e1, e2⟩ := hacc.2 i v (by rw [← Array.getElem?_toList]; exact e)
    obtain ⟨hi, e3⟩ := Array.getElem?_eq_some_iff.mp e1
    obtain ⟨x, y, ka, r1, _⟩ := hk i hi
    exact ⟨x, by rw [e2, ← e3]; exact r1, y, ka⟩
  obtain ⟨l, hdp, hpl, hso, hkl, q⟩ := h ks ⟨by rw [rv.length, hl, hz], g⟩
  obtain ⟨k1, k2, k3, k4⟩ := okSort_of hso
  refine wpAny_bind (wpAny_newList ?_ (by rw [hl, hz]; exact hz2))
  have hoL : (h'.push (PyProof.Rows.seqObj "list" acc.toList.toArray 0)).get? h'.objs.size = some (PyProof.Rows.seqObj "list" acc.toList.toArray 0) := Heap.get?_push_size _ rfl
  have I2 : Inv X pins σ H { s with heap := h'.push (PyProof.Rows.seqObj "list" acc.toList.toArray 0), toks := tk } := I1.kept (t' := tk) fun b ob e => Heap.get?_push_of_some _ e
  have er1 := each_reads I1 rv hdp
  have er : PySem.W.EachIs (fun v d => ∃ as, Reads (h'.push (PyProof.Rows.seqObj "list" acc.toList.toArray 0)) v (D.toP d) as ∧ h'.objs.size ∉ as) acc.toList l := each_and er1 fun v d m ⟨as, ra⟩ => by
    have cl := (pl_lay d (k2 d m).1).1
    have rk : Reads (h'.push (PyProof.Rows.seqObj "list" acc.toList.toArray 0)) v (D.toP d) as := PyProof.Rows.Reads.keeps (fun b ob e => Heap.get?_push_of_some _ e) ra
    exact ⟨as, rk, fun mm => Nat.lt_irrefl _ (reads_lt _ _ _ ra (fun kvs e => by rw [e] at cl; simp [PyData.canLay0] at cl) cl _ mm)⟩
  have e1 := srel_of (all := ks.zip l) hkl rv fun p hp => hp
  refine wpAny_bind (wpAny_holding (PySem.W.list_sort_data (s := { s with heap := h'.push (PyProof.Rows.seqObj "list" acc.toList.toArray 0), toks := tk }) (A := X.A.in1) (enc := D.toP) hoL e1 er k3 k4 k1 (fun d hd => ?_) fun out ho2 e2 => ?_))
  · have := (k2 d hd).2
    have h2 : X.A.in1.units ≤ X.A.units + 1 := by first | exact Nat.le_refl _ | simp [Around.in1]
    omega
  · have em : l.mergeSort (PySem.W.dataLe false D.toP) = iSort dLe l := by
      rw [iSort_ok dLe_total, show dLe = PySem.W.dataLe false D.toP from funext fun d => funext fun e => dLe_eq d e]
    rw [em] at e2
    obtain ⟨ys', v2, a2⟩ := srel_out e2
    obtain ⟨e', he'⟩ := PyProof.Rows.sortedHeap_at (vs := acc.toList) (out := out.toArray) hoL
    have hlen : ys'.length ≤ sizeLine := by rw [v2.length, ho2]; exact k1
    refine wpAny_pure ⟨_, rfl, .ref h'.objs.size, upd H h'.objs.size (.lst ys'), I1.laid (t' := tk) (fun b ob e => ?_) (Nat.le_refl _) ⟨hlen, out, e', v2, he'⟩, rfl, q _ _ (I1.hok.fresh (Nat.le_refl _)) a2⟩
    exact (PyProof.Rows.sortedHeap_old (Nat.ne_of_lt (Heap.lt_size e)) (by rw [Heap.size_push]; exact Nat.lt_succ_of_lt (Heap.lt_size e))).trans (Heap.get?_push_of_some _ e)
end Ev
end

section
set_option Elab.async false
set_option linter.all false
/-! EvM: calls of built-ins by one rule, and what they tell. -/
namespace Ev
open PySem PySem.Spec L2
set_option autoImplicit false
section
variable {X : Cx} {ct : Ct} {e e2 : Expr} {p pos : Pos} {x : Str} {a b : A} {f : D → Option S} {g : D → D → Option S} {id T : String} {r : List V → Hp → VK → Prop}
theorem sf_b1 (hc : CallR X (.builtin id) r) (k : UnOk X ct (fun x H Q => r [x] H Q) f) (hg : Gl X x) (hm : X.mg x = none) (hv : bootBuiltins x = some (.builtin id)) (ha : AE X ct e a) (hn : x ≠ "__name__" := by decide) (hdb : (x == ("__debug__" : Str)) = false := by decide)
    (he : starEach [e] X.env = (false, eval e X.env) :: starEach [] X.env := by rfl) (hpl : (backTo pos (starEach [] X.env)).any (·.1) = false := by rfl) : SF X ct (.Call (.Name x p) [e] [] pos) (m1 f a) :=
  PEimp (pe_callB hc hg hm hv (pa_cons ha pa_nil he) hn hdb he hpl) fun σV H Q ⟨F, σ, w, s, σ', e, q⟩ => m1_ok k w e q
theorem sf_t1 (hc : CallR X (.type T) r) (k : UnOk X ct (fun x H Q => r [x] H Q) f) (hg : Gl X x) (hm : X.mg x = none) (hv : bootBuiltins x = some (.type T)) (ha : AE X ct e a) (hn : x ≠ "__name__" := by decide) (hdb : (x == ("__debug__" : Str)) = false := by decide)
    (he : starEach [e] X.env = (false, eval e X.env) :: starEach [] X.env := by rfl) (hpl : (backTo pos (starEach [] X.env)).any (·.1) = false := by rfl) : SF X ct (.Call (.Name x p) [e] [] pos) (m1 f a) :=
  PEimp (pe_callTy hc hg hm hv (pa_cons ha pa_nil he) hn hdb he hpl) fun σV H Q ⟨F, σ, w, s, σ', e, q⟩ => m1_ok k w e q
theorem sf_b2 (hc : CallR X (.builtin id) r) (k : OpOk X ct (fun x y H Q => r [x, y] H Q) g) (hg : Gl X x) (hm : X.mg x = none) (hv : bootBuiltins x = some (.builtin id)) (ha : AE X ct e a) (hb : AE X ct e2 b) (hn : x ≠ "__name__" := by decide) (hdb : (x == ("__debug__" : Str)) = false := by decide)
    (he : starEach [e, e2] X.env = (false, eval e X.env) :: starEach [e2] X.env := by rfl) (he2 : starEach [e2] X.env = (false, eval e2 X.env) :: starEach [] X.env := by rfl) (hpl : (backTo pos (starEach [e2] X.env)).any (·.1) = false := by rfl) : SF X ct (.Call (.Name x p) [e, e2] [] pos) (m2 g a b) :=
  PEimp (pe_callB hc hg hm hv (pa_cons ha (pa_cons hb pa_nil he2) he) hn hdb he hpl) fun σV H Q ⟨F, σ, w, s, σ', e, q⟩ => m2_ok k w e q
end
/-! ### sorted -/
def fSort : D → Option S
  | .lst l => if okSort l = true then some (.ls false (iSort dLe l)) else none
  | .dct _ l => if (okSort (l.map (·.1)) && D.pls (l.map (·.1))) = true then some (.ls false (iSort dLe (l.map (·.1)))) else none
  | _ => none
abbrev rSorted (K : PySem.W.Frag) : List V → Hp → VK → Prop := fun xs H Q => (∃ x, xs = [x] ∧ rSrt K x H Q) ∨ (∃ x, xs = [x] ∧ rSrtD K x H Q)
section
variable {X : Cx} {ct : Ct}
theorem cr_sort (hc : X.calm = true) (hu : X.A.units + 64 < cLine) : CallR X (.builtin "sorted") (rSorted X.K) := CallR.or (cr_srt hu) (cr_srtD hc hu)
theorem pls_all : ∀ {l : List D}, (∀ d ∈ l, d.pl = true) → D.pls l = true
  | [], _ => rfl
  | d :: l, h => by
    show (d.pl && D.pls l) = true
    rw [h d List.mem_cons_self, pls_all fun e m => h e (List.mem_cons_of_mem _ m)]; rfl
theorem keys_grow {F H : Hp} (le : Le F H) {t : Bool} {l : List (D × D)} {u : HO} (r : DctO X.K ct F t l u) {ks : List V} (hk : KeysAre H u ks) : ∀ n, n ≤ l.length → ∃ F3, Grw F H F3 H ∧ DReps X.K ct F3 ((l.map (·.1)).take n) (ks.take n)
  | 0, _ => ⟨F, Grw.refl le, by simp only [List.take_zero]; exact rfl⟩
  | n + 1, hn => by
    obtain ⟨F2, g, q⟩ := keys_grow le r hk n (by omega)
    have hl : l.length = ks.length := by rw [hk.1, (dct_isD r).2]
    obtain ⟨x, hx⟩ : ∃ x, ks[n]? = some x := ⟨ks[n]'(by omega), List.getElem?_eq_getElem (by omega)⟩
    obtain ⟨y, ka⟩ := hk.2 n x hx
    obtain ⟨F3, k, d, g2, h1, r1, _⟩ := keyAt_rep r g.le g.le' ka
    have hd : (l.map (·.1))[n]? = some k := by rw [List.getElem?_map, h1]; rfl
    refine ⟨F3, g.trans g2, ?_⟩
    rw [List.take_succ, List.take_succ, hx, hd]
    exact DReps.append (DReps.mono g2.le _ _ q) (DReps.one r1)
theorem k_sort : UnOk X ct (fun x H Q => rSorted X.K [x] H Q) fSort := fun F H d c x Q le hf rx q => by
  unfold fSort at hf
  split at hf
  · rename_i l
    split at hf
    · rename_i h
      cases hf
      obtain ⟨a, vs, rfl, ha, r⟩ := rx
      have hp := pls_all fun d m => ((okSort_of h).2.1 d m).1
      exact .inl ⟨_, rfl, a, vs, l, rfl, SqL.of ha, dps_le le _ _ (dps_of l vs hp r), h, r.length.symm, fun p ys' hq al => q _ F _ (Grw.lay le hq) ⟨rfl, p, ys', rfl, hq, le.none hq, upd_same, all2_reps (al _ (reps_zip r))⟩⟩
    · cases hf
  · rename_i t l
    split at hf
    · rename_i h
      rw [Bool.and_eq_true] at h
      cases hf
      obtain ⟨a, u, rfl, hu, r⟩ := rx
      refine .inr ⟨_, rfl, a, u, rfl, hu, (dct_isD r).1, fun ks hk => ?_⟩
      obtain ⟨F3, g, rs⟩ := keys_grow le r hk l.length (Nat.le_refl _)
      have hl : l.length = ks.length := by rw [hk.1, (dct_isD r).2]
      rw [List.take_of_length_le (by simp), List.take_of_length_le (by omega)] at rs
      exact ⟨l.map (·.1), dps_le g.le' _ _ (dps_of _ _ h.2 rs), h.2, h.1, by simp [hl], fun p ys' hq al => q _ F3 _ (g.trans (Grw.lay g.le' hq)) ⟨rfl, p, ys', rfl, hq, g.le'.none hq, upd_same, all2_reps (al _ (reps_zip rs))⟩⟩
    · cases hf
  · cases hf
/-! ### len -/
def rLn (K : PySem.W.Frag) : List V → Hp → VK → Prop := fun xs H Q => (∃ x n, xs = [x] ∧ LenV K x H n ∧ Q (.int n) H) ∨ ∃ a u, xs = [.ref a] ∧ Rd H a u ∧ IsD u ∧ Q (.int (uLen u : Nat)) H
theorem cr_len : CallR X (.builtin "len") (rLn X.K) := fun pins s σ H xs us Q I r h => by
  rcases h with h | ⟨a, u, rfl, hu, hd, q⟩
  · exact call_len pins s σ H xs us Q I r h
  · obtain ⟨v, rfl, ru⟩ := vals1 r
    obtain rfl : v = .ref a := ru
    cases u with
    | dK kvs => exact d_len I hu fun t s' I' => ⟨.int kvs.length, H, I', ⟨t, rfl⟩, q⟩
    | dT kvs =>
      obtain ⟨z, hs, ys, rel, dd⟩ := dt_rd I.hok hu
      have hl : kvs.length = ys.length := Paired.length rel
      refine call_len_dictH hs dd (by rw [← hl]; rw [sizeLine_eq] at z; omega) ?_
      rw [← hl]
      exact ⟨.int ((kvs.length : Nat) : Int), H, I.tok _, ⟨_, rfl⟩, q⟩
    | _ => exact hd.elim
def fLen : D → Option S
  | .lst l => some (.imm (.int l.length))
  | .tup _ l => some (.imm (.int l.length))
  | .scr l => some (.imm (.int l.length))
  | .dct _ l => some (.imm (.int l.length))
  | .str x => if x.length ≤ LIM then some (.imm (.int x.length)) else none
  | _ => none
theorem k_len : UnOk X ct (fun x H Q => rLn X.K [x] H Q) fLen := fun F H d c x Q le hf rx q => by
  cases d with
  | lst l =>
    cases hf
    obtain ⟨a, vs, rfl, ha, r⟩ := rx
    exact .inl ⟨_, vs.length, rfl, .inl ⟨vs, SqL.of ha, rfl⟩, q _ F H (Grw.refl le) (by rw [r.length]; exact rfl)⟩
  | tup k l =>
    cases hf
    obtain ⟨a, vs, rfl, ha, r⟩ := rx
    exact .inl ⟨_, vs.length, rfl, .inr ⟨vs, le.sqt ha.sqt, rfl⟩, q _ F H (Grw.refl le) (by rw [r.length]; exact rfl)⟩
  | scr l =>
    cases hf
    obtain ⟨a, rfl, ha⟩ := rx
    exact .inl ⟨_, (l.map V.int).length, rfl, .inl ⟨_, le.sql ha, rfl⟩, q _ F H (Grw.refl le) (by rw [List.length_map]; exact rfl)⟩
  | dct t l =>
    cases hf
    obtain ⟨a, u, rfl, hu, r⟩ := rx
    obtain ⟨h1, h2⟩ := dct_isD r
    exact .inr ⟨a, u, rfl, hu, h1, q _ F H (Grw.refl le) (by rw [h2]; exact rfl)⟩
  | str y =>
    have hf : (if y.length ≤ LIM then some (S.imm (.int y.length)) else none) = some c := hf
    split at hf
    · rename_i h
      cases hf
      cases (show x = .str y from rx)
      exact .inl ⟨_, y.length, rfl, ⟨by rw [← LIM_eq]; exact h, rfl⟩, q _ F H (Grw.refl le) rfl⟩
    · cases hf
  | _ => cases hf
/-! ### tuple, list, int, abs, sum, all, any, min, max -/
theorem call_tupK : CallR X (.type "tuple") (fun xs H Q => ∃ p ys, xs = [.ref p] ∧ SqL X.K H p ys ∧ ∀ l (od : Obj), H l = none → od.dict = none → Q (.ref l) (upd H l (.frz od (.tup ys)))) := by
  intro pins s σ H xs us Q I r h
  obtain ⟨p, ys, rfl, hq, q⟩ := h
  obtain ⟨u, rfl, rx⟩ := vals1 r
  cases rx
  obtain ⟨its, r', pl, hz⟩ := I.list hq
  have hlen := r'.length
  refine call_tuple_list pl.isList (fun h' kp => ?_) (by simp only [List.size_toArray] <;> omega)
  have I1 : Inv X pins σ H { s with heap := h' } := I.kept (t' := s.toks) kp
  have I2 : Inv X pins σ (upd H h'.objs.size (.frz { cls := .type "tuple", data := .seq its.toArray } (.tup ys))) { s with heap := h'.push { cls := .type "tuple", data := .seq its.toArray } } :=
    I1.laid (t' := s.toks) (fun b o e => Heap.get?_push_of_some _ e) (Nat.le_refl _) ⟨Heap.get?_push_size _ rfl, hz, its, r', PyProof.Rows.IsTup.new _ _⟩
  exact ⟨.ref h'.objs.size, _, I2, rfl, q _ _ (I1.hok.fresh (Nat.le_refl _)) rfl⟩
def isPr : D → Bool
  | .tup _ [_, _] => true
  | _ => false
/-- may dict() ask it -/
def dictable (l : List D) : Bool := l.all isPr
def fTup : D → Option S
  | .lst l => some (.imm (.tup (dictable l) l))
  | .tup k l => some (.imm (.tup k l))
  | _ => none
abbrev rTup (K : PySem.W.Frag) : List V → Hp → VK → Prop := fun xs H Q => (∃ p ys, xs = [.ref p] ∧ SqL K H p ys ∧ ∀ l (od : Obj), H l = none → od.dict = none → Q (.ref l) (upd H l (.frz od (.tup ys)))) ∨
  (∃ p ys, xs = [.ref p] ∧ ((SqL K H p ys ∧ ∀ l, H l = none → Q (.ref l) (upd H l (.tup ys))) ∨ (SqT K H p ys ∧ Q (.ref p) H)))
theorem cr_tup : CallR X (.type "tuple") (rTup X.K) := CallR.or call_tupK call_tuple_of
theorem k_tup : UnOk X ct (fun x H Q => rTup X.K [x] H Q) fTup := fun F H d c x Q le hf rx q => by
  cases d with
  | lst l =>
    cases hf
    obtain ⟨a, vs, rfl, ha, r⟩ := rx
    cases hd : dictable l with
    | true =>
      refine .inl ⟨a, vs, rfl, SqL.of ha, fun p od hp ho => ?_⟩
      have g := Grw.new (o := .frz od (.tup vs)) le hp
      exact q _ _ _ g (by rw [hd]; exact ⟨p, vs, rfl, ⟨od, upd_same, ho⟩, DReps.mono g.le _ _ r⟩)
    | false =>
      refine .inr ⟨a, vs, rfl, .inl ⟨SqL.of ha, fun p hp => ?_⟩⟩
      have g := Grw.new (o := .tup vs) le hp
      exact q _ _ _ g (by rw [hd]; exact ⟨p, vs, rfl, upd_same, DReps.mono g.le _ _ r⟩)
  | tup k l =>
    cases hf
    obtain ⟨a, vs, rfl, ha, r⟩ := rx
    exact .inr ⟨a, vs, rfl, .inr ⟨le.sqt ha.sqt, q _ F H (Grw.refl le) ⟨a, vs, rfl, ha, r⟩⟩⟩
  | _ => cases hf
def fList : D → Option S
  | .lst l => some (.ls false l)
  | .tup _ l => some (.ls false l)
  | .scr l => some (.ls false (l.map .int))
  | _ => none
theorem k_list : UnOk X ct (fun x H Q => ∃ p ys, [x] = [V.ref p] ∧ (SqL X.K H p ys ∨ SqT X.K H p ys) ∧ ∀ l, H l = none → Q (.ref l) (upd H l (.lst ys))) fList := fun F H d c x Q le hf rx q => by
  have fin : ∀ {a : Addr} {vs : List V} {l : List D}, DReps X.K ct F l vs → (SqL X.K H a vs ∨ SqT X.K H a vs) → (∀ v F' H', Grw F H F' H' → GRep X.K ct H F' H' (.ls false l) v → Q v H') → ∃ p ys, [V.ref a] = [V.ref p] ∧ (SqL X.K H p ys ∨ SqT X.K H p ys) ∧ ∀ l, H l = none → Q (.ref l) (upd H l (.lst ys)) :=
    fun {a vs l} r h q => ⟨a, vs, rfl, h, fun p hp => q _ F _ (Grw.lay le hp) ⟨rfl, p, vs, rfl, hp, le.none hp, upd_same, r⟩⟩
  cases d with
  | lst l => cases hf; obtain ⟨a, vs, rfl, ha, r⟩ := rx; exact fin r (.inl (SqL.of ha)) q
  | tup k l => cases hf; obtain ⟨a, vs, rfl, ha, r⟩ := rx; exact fin r (.inr (le.sqt ha.sqt)) q
  | scr l => cases hf; obtain ⟨a, rfl, ha⟩ := rx; exact fin (ints_map l) (.inl (le.sql ha)) q
  | _ => cases hf
def fInt : D → Option S
  | .int i => some (.imm (.int i))
  | .bl b => some (.imm (.int (if b then 1 else 0)))
  | _ => none
theorem k_int1 : UnOk X ct (fun x H Q => (∃ i, [x] = [V.int i] ∧ Q (.int i) H) ∨ ∃ k, [x] = [V.bl k] ∧ Q (.int (if k then 1 else 0)) H) fInt := fun F H d c x Q le hf rx q => by
  cases d with
  | int i => cases hf; cases (show x = .int i from rx); exact .inl ⟨i, rfl, q _ F H (Grw.refl le) rfl⟩
  | bl b => cases hf; cases (show x = .bl b from rx); exact .inr ⟨b, rfl, q _ F H (Grw.refl le) rfl⟩
  | _ => cases hf
def fAbs : D → Option S
  | .int i => some (.imm (.int (if i < 0 then -i else i)))
  | _ => none
theorem k_abs : UnOk X ct (fun x H Q => ∃ i, [x] = [V.int i] ∧ Q (.int (if i < 0 then -i else i)) H) fAbs := fun F H d c x Q le hf rx q => by
  cases d with
  | int i => cases hf; cases (show x = .int i from rx); exact ⟨i, rfl, q _ F H (Grw.refl le) rfl⟩
  | _ => cases hf
def fMax2 (d e : D) : Option S := match d, e with
  | .int i, .int j => some (.imm (.int (if j > i then j else i)))
  | _, _ => none
def fMin2 (d e : D) : Option S := match d, e with
  | .int i, .int j => some (.imm (.int (if j < i then j else i)))
  | _, _ => none
theorem k_max2 : OpOk X ct (fun x y H Q => ∃ i j, [x, y] = [V.int i, V.int j] ∧ Q (.int (if j > i then j else i)) H) fMax2 := fun F H d e c x y Q le hf rx ry q => by
  unfold fMax2 at hf
  split at hf
  · rename_i i j; cases hf; cases (show x = .int i from rx); cases (show y = .int j from ry); exact ⟨i, j, rfl, q _ F H (Grw.refl le) rfl⟩
  · cases hf
theorem k_min2 : OpOk X ct (fun x y H Q => ∃ i j, [x, y] = [V.int i, V.int j] ∧ Q (.int (if j < i then j else i)) H) fMin2 := fun F H d e c x y Q le hf rx ry q => by
  unfold fMin2 at hf
  split at hf
  · rename_i i j; cases hf; cases (show x = .int i from rx); cases (show y = .int j from ry); exact ⟨i, j, rfl, q _ F H (Grw.refl le) rfl⟩
  · cases hf
def D.bls : List D → Option (List Bool)
  | [] => some []
  | .bl b :: l => (match D.bls l with
    | some bs => some (b :: bs)
    | none => none)
  | _ :: _ => none
theorem bls_rep {K F} : ∀ {l : List D} {bs : List Bool} {vs : List V}, D.bls l = some bs → DReps K ct F l vs → vs = bs.map V.bl
  | [], _, _, h, r => by cases h; exact r
  | d :: l, bs, _, h, ⟨v, t, e, r, q⟩ => by
    cases d with
    | bl b =>
      simp only [D.bls] at h
      split at h
      · rename_i cs h1
        cases h
        rw [e, show v = .bl b from r, bls_rep h1 q] <;> rfl
      · cases h
    | _ => simp [D.bls] at h
def fAll : D → Option S
  | .lst l => (match D.bls l with
    | some bs => some (.imm (.bl (bs.all id)))
    | none => none)
  | _ => none
def fAny : D → Option S
  | .lst l => (match D.bls l with
    | some bs => some (.imm (.bl (bs.any id)))
    | none => none)
  | _ => none
def fSum : D → Option S
  | .lst l => (match D.ints l with
    | some ns => some (.imm (.int ns.sum))
    | none => none)
  | _ => none
theorem k_all : UnOk X ct (fun x H Q => rAll X.K [x] H Q) fAll := fun F H d c x Q le hf rx q => by
  unfold fAll at hf
  split at hf
  · split at hf
    · rename_i l _ bs h1
      cases hf
      obtain ⟨a, vs, rfl, ha, r⟩ := rx
      rw [bls_rep h1 r] at ha
      exact ⟨a, bs, rfl, SqL.of ha, q _ F H (Grw.refl le) rfl⟩
    · cases hf
  · cases hf
theorem k_any : UnOk X ct (fun x H Q => rAny X.K [x] H Q) fAny := fun F H d c x Q le hf rx q => by
  unfold fAny at hf
  split at hf
  · split at hf
    · rename_i l _ bs h1
      cases hf
      obtain ⟨a, vs, rfl, ha, r⟩ := rx
      rw [bls_rep h1 r] at ha
      exact ⟨a, bs, rfl, SqL.of ha, q _ F H (Grw.refl le) rfl⟩
    · cases hf
  · cases hf
theorem k_sum : UnOk X ct (fun x H Q => rSum X.K [x] H Q) fSum := fun F H d c x Q le hf rx q => by
  unfold fSum at hf
  split at hf
  · split at hf
    · rename_i l _ ns h1
      cases hf
      obtain ⟨a, vs, rfl, ha, r⟩ := rx
      rw [ints_rep h1 r] at ha
      exact ⟨a, ns, rfl, SqL.of ha, q _ F H (Grw.refl le) rfl⟩
    · cases hf
  · cases hf
end
/-! ### isinstance of built-in types -/
inductive Ty where
  | non | bl | int | str | tup | lst
deriving DecidableEq
def Ty.name : Ty → String
  | .non => "NoneType"
  | .bl => "bool"
  | .int => "int"
  | .str => "str"
  | .tup => "tuple"
  | .lst => "list"
def D.ty : D → Option Ty
  | .non => some .non
  | .bl _ => some .bl
  | .int _ => some .int
  | .str _ => some .str
  | .tup _ _ => some .tup
  | .lst _ => some .lst
  | _ => none
def isSub (a b : Ty) : Bool := decide (a = b) || (decide (a = .bl) && decide (b = .int))
theorem isSub_ok (a b : Ty) : kitB a.name b.name = some (isSub a b) := by
  cases a <;> cases b <;> decide +kernel
def fIsi (T : Ty) (d _ : D) : Option S := match d.ty with
  | some t => some (.imm (.bl (isSub t T)))
  | none => none
section
variable {X : Cx} {ct : Ct}
theorem tyX_of {K : PySem.W.Frag} {F H : Hp} (le : Le F H) {d : D} {x : V} {t : Ty} (r : VRep K ct F H d x) (h : d.ty = some t) : TyX K H x (.type t.name) := by
  cases d with
  | non => cases h; rw [show x = .non from r]; exact .base .non
  | bl b => cases h; rw [show x = .bl b from r]; exact .base (.bl b)
  | int i => cases h; rw [show x = .int i from r]; exact .base (.int i)
  | str y => cases h; rw [show x = .str y from r]; exact .base (.str y)
  | tup k l =>
    cases h
    obtain ⟨a, vs, rfl, ha, _⟩ := r
    cases k with
    | false => exact .base (.tup (le _ _ ha))
    | true => obtain ⟨od, ha, _⟩ := ha; exact .fTuple (le _ _ ha)
  | lst l => cases h; obtain ⟨a, vs, rfl, ha, _⟩ := r; exact .base (.lst ha)
  | _ => cases h
/-- isinstance(x, T): T a built-in type's name -/
theorem sf_isi {e : Expr} {p pos p2 : Pos} {y : Str} {a : A} {T : Ty} (hg : Gl X "isinstance") (hm : X.mg "isinstance" = none) (hgy : Gl X y) (hmy : X.mg y = none) (hvy : bootBuiltins y = some (.type T.name)) (ha : AE X ct e a)
    (hny : y ≠ "__name__" := by decide) (hdy : (y == ("__debug__" : Str)) = false := by decide) (hv : bootBuiltins "isinstance" = some (.builtin "isinstance") := by decide +kernel)
    (he : starEach [e, .Name y p2] X.env = (false, eval e X.env) :: starEach [.Name y p2] X.env := by rfl) (he2 : starEach [.Name y p2] X.env = (false, eval (.Name y p2) X.env) :: starEach [] X.env := by rfl) (hpl : (backTo pos (starEach [.Name y p2] X.env)).any (·.1) = false := by rfl) :
    SF X ct (.Call (.Name "isinstance" p) [e, .Name y p2] [] pos) (m1 (fun d => fIsi T d d) a) :=
  PEimp (pe_callB call_isi hg hm hv (pa_cons ha (pa_cons (pe_bltn (v := .ty T.name) hgy hmy hvy rfl hny hdy) pa_nil he2) he) (by decide) (by decide) he hpl) fun σV H Q ⟨F, σ, w, s, σ', e, q⟩ =>
    m1_ok (r := fun x H Q => rIsi X.K [x, .ty T.name] H Q) (fun F H d c x Q le hf rx q => by
      unfold fIsi at hf
      split at hf
      · rename_i t h1
        cases hf
        exact ⟨x, _, _, _, _, rfl, .ty _, tyX_of le rx h1, kit_ty (isSub_ok t T), q _ F H (Grw.refl le) rfl⟩
      · cases hf) w e q
end
end Ev
end

section
set_option Elab.async false
set_option linter.all false
/-! EvN: own things written; dicts; fields; chains; truth; is. -/
namespace Ev
open PySem PySem.Spec L2
set_option autoImplicit false
section
variable {K : PySem.W.Frag} {ct : Ct} {F H : Hp} {σV : St} {σ : Fr}
/-- an own thing is written -/
theorem Stp.wr (w : Wd K ct F H σV σ) {i : Nat} {s s' : S} {a : Addr} {o : HO} (e : σ[i]? = some (some s)) (so : s.own = true) (ev : σV[i]? = some (some (.ref a))) (r : SRep K ct F (upd H a o) s' (.ref a)) (io : s'.io = s.io) : Stp K ct F H σV σ F (upd H a o) σV (σ.set i (some s')) := by
  have ow : Own σV σ a := ⟨i, s, e, so, ev⟩
  have fa := (w.own ow).1
  refine ⟨⟨fun b q z => ?_, fun j t ej => ?_, fun j k t t' b ej ek to to' bj bk => ?_, by simp; exact w.ln⟩, Le.refl F, fun b q h n => ?_, fun _ h => upd_none h, fun b z => .inl z, fun b z => ?_, fun j t ej tio => ?_, by simp⟩
  · rw [upd_ne fun y => by subst y; rw [fa] at z; cases z]; exact w.le b q z
  · rcases set_get ej with ⟨rfl, rfl⟩ | ⟨hj, fj⟩
    · exact ⟨_, ev, r⟩
    · obtain ⟨v', e1, r1⟩ := w.slot j t fj
      refine ⟨v', e1, r1.keep (Le.refl F) fun to b eb => ?_⟩
      subst eb
      have nb : b ≠ a := fun z => by subst z; exact hj (w.dis j i t s b fj e to so e1 ev)
      exact ⟨(w.own ⟨j, t, fj, to, e1⟩).1, by rw [upd_ne nb]⟩
  · have old : ∀ {j : Nat} {t : S}, (σ.set i (some s'))[j]? = some (some t) → t.own = true → ∃ u, σ[j]? = some (some u) ∧ u.own = true := fun {j t} ej to => by
      rcases set_get ej with ⟨rfl, rfl⟩ | ⟨_, fj⟩
      · exact ⟨s, e, so⟩
      · exact ⟨t, fj, to⟩
    obtain ⟨u, fj, uo⟩ := old ej to
    obtain ⟨u', fk, uo'⟩ := old ek to'
    exact w.dis j k u u' b fj fk uo uo' bj bk
  · rw [upd_ne fun z => n (by subst z; exact ow)]; exact h
  · obtain ⟨j, t, ej, to, bj⟩ := z
    rcases set_get ej with ⟨rfl, rfl⟩ | ⟨_, fj⟩
    · exact .inl ⟨j, s, e, so, bj⟩
    · exact .inl ⟨j, t, fj, to, bj⟩
  · by_cases hj : j = i
    · subst hj
      rw [e] at ej; cases ej
      exact ⟨⟨s', by rw [List.getElem?_set_self (List.getElem?_eq_some_iff.mp e).1], by rw [io]; exact tio⟩, rfl⟩
    · exact ⟨⟨t, by rw [List.getElem?_set_ne (Ne.symm hj)]; exact ej, tio⟩, rfl⟩
end
/-! ### x[k] = v -/
def mPut (i : Nat) (mk mv : M D) : M Fl := fun σ => match mv σ with
  | some (v, σ1) => (match vw σ1 i, mk σ1 with
    | some _, some (k, σ2) => (match σ2[i]? with
      | some (some (.ls io l)) => (match k with
        | .int n => (match ixN l.length n with
          | some j => some (.nx, σ2.set i (some (.ls io (l.set j v))))
          | none => none)
        | _ => none)
      | some (some (.ds io t l)) => if (keyOk t k && decide (l.length < LIM)) = true then some (.nx, σ2.set i (some (.ds io t (dPut l k v)))) else none
      | _ => none)
    | _, _ => none)
  | none => none
theorem vw_some {K ct} {F H : Hp} {σV : St} {σ : Fr} (w : Wd K ct F H σV σ) {i : Nat} {d : D} (h : vw σ i = some d) : ∃ v, σV[i]? = some (some v) := by
  unfold vw at h
  split at h
  · rename_i s e
    obtain ⟨v, e1, _⟩ := w.slot i s e
    exact ⟨v, e1⟩
  · cases h
section
variable {X : Cx} {ct : Ct} {pos apos : Pos} {o k e : Expr} {i : Nat} {mk mv : M D}
theorem PSet.or {r r' : TSet} (h : PSet X r) (h' : PSet X r') : PSet X fun o i v H Q => r o i v H Q ∨ r' o i v H Q := fun pins s σ H o i v ov iv u Q I ro ri rv q => q.elim (h pins s σ H o i v ov iv u Q I ro ri rv) (h' pins s σ H o i v ov iv u Q I ro ri rv)
theorem ss_put (hu : X.A.units + 1 < cLine) (ho : PE X o (tVar i)) (hk : SE X ct k mk) (hv : SE X ct e mv) (ha : ∀ v, assign (.Subscript o k apos) X.env v = (do
      let ov ← holding [v] (eval o X.env)
      let iv ← holding [v, ov] (eval k X.env)
      standAt apos
      holding [v, ov, iv] (setItem ov iv v)
      release [v, ov, iv] []) := by intro _; rfl) (hs : swapsWithSole [.Subscript o k apos] e pos.line X.env = pure false := by rfl) (hw : swappedStores [.Subscript o k apos] e X.env = pure none := by rfl)
    (h1 : (assignEach [.Subscript o k apos] X.env).map (·.2) = [assign (.Subscript o k apos) X.env] := by rfl) : SS X ct (.Assign [.Subscript o k apos] e pos) (mPut i mk mv) :=
  PSimp (ps_asg hv (pg_sub ho hk (PSet.or set_list (set_dict hu)) ha) hs hw h1) fun D σV H ⟨F, σ, w, f, σ', e, q⟩ => by
  unfold mPut at e
  split at e
  · rename_i v σ1 h1
    split at e
    · rename_i d0 kd σ2 h0 h2
      refine ⟨F, σ, w, v, σ1, h1, fun vv H1 F1 st1 rv => ?_⟩
      obtain ⟨ov, eo⟩ := vw_some st1.w h0
      refine ⟨ov, eo, F1, σ1, st1.w, kd, σ2, h2, fun kv H2 F2 st2 rk => ?_⟩
      have st := st1.trans st2
      have rv2 := DRep.mono st2.le v vv rv
      split at e
      · rename_i io l h3
        split at e
        · rename_i n
          split at e
          · rename_i j hj
            cases e
            obtain ⟨ov', eo', a, vs, rfl, fa, ha, r⟩ := st2.w.slot i _ h3
            rw [eo] at eo'; cases eo'
            rw [r.length] at hj
            refine .inl ⟨a, vs, n, j, rfl, rk, ha, hj, ?_⟩
            exact q .non σV _ F2 (st.trans (Stp.wr st2.w h3 rfl eo ⟨a, _, rfl, fa, upd_same, DReps.set j r rv2⟩ rfl)) rfl
          · cases e
        · cases e
      · rename_i io t l h3
        split at e
        · rename_i hk'
          cases e
          rw [Bool.and_eq_true, decide_eq_true_eq, LIM_eq] at hk'
          obtain ⟨ov', eo', a, u, rfl, fa, ha, r⟩ := st2.w.slot i _ h3
          rw [eo] at eo'; cases eo'
          rcases r with ⟨rfl, es, rfl, r⟩ | ⟨rfl, es, rfl, r⟩
          · obtain ⟨x, rfl⟩ := isK_of (show kd.isK = true from hk'.1)
            have r' := gkv_K.mp r
            refine .inr ⟨a, _, rfl, .inl ⟨es, x, ha, kD_rep x rk, by rw [← len_G r']; exact hk'.2, rfl⟩, ?_⟩
            exact q .non σV _ F2 (st.trans (Stp.wr st2.w h3 rfl eo ⟨a, _, rfl, fa, upd_same, .inl ⟨rfl, _, rfl, gkv_K.mpr (put_G eqv_key rv2 r')⟩⟩ rfl)) rfl
          · cases kd with
            | tup kb m =>
              cases kb with
              | true => cases hk'.1
              | false =>
              obtain ⟨x, rfl⟩ := isKs_of (show m.all Ev.D.isK = true from hk'.1)
              obtain ⟨b, ws, rfl, hb, rw'⟩ := rk
              have hb : F2 b = some (.tup ws) := hb
              rw [kDs_rep rw'] at hb
              have r' := gkv_T.mp r
              refine .inr ⟨a, _, rfl, .inr ⟨es, x, b, ha, rfl, st2.w.le _ _ hb, by rw [← len_G r']; exact hk'.2, rfl⟩, ?_⟩
              exact q .non σV _ F2 (st.trans (Stp.wr st2.w h3 rfl eo ⟨a, _, rfl, fa, upd_same, .inr ⟨rfl, _, rfl, gkv_T.mpr (put_G eqv_keys rv2 r')⟩⟩ rfl)) rfl
            | _ => cases hk'.1
        · cases e
      · cases e
    · cases e
  · cases e
/-! ### append -/
def mApp (i : Nat) (m : M D) : M S := fun σ => match σ[i]? with
  | some (some (.ls _ _)) => (match m σ with
    | some (d, σ1) => (match σ1[i]? with
      | some (some (.ls io l)) => if l.length < LIM then some (.imm .non, σ1.set i (some (.ls io (l ++ [d])))) else none
      | _ => none)
    | none => none)
  | _ => none
theorem sf_app {m : M D} (ho : PE X o (tVar i)) (h : SE X ct e m)
    (hbase : attributeBase o "append" X.env (eval o X.env) = eval o X.env := by rfl)
    (hfew : ((backTo pos (starEach [e] X.env)).all (fun x => !x.1) && (backToKw pos (keywordEach [] X.env)).all (fun x => x.1.isSome) && decide ([e].length + ([] : List Keyword).length + (if ([] : List Keyword).isEmpty then 0 else 1) < 30)) = true := by rfl)
    (hline : (apos.endLine == pos.line) = true := by rfl) (hs : starEach [e] X.env = (false, eval e X.env) :: starEach [] X.env := by rfl) (hplain : (backTo pos (starEach [] X.env)).any (·.1) = false := by rfl) :
    SF X ct (.Call (.Attribute o "append" apos) [e] [] pos) (mApp i m) :=
  PEimp (pe_bm F.plainAttrs_list F.slot_list_append F.type_list_append mt_append ho (pa_cons h pa_nil hs) hbase hfew hline hs hplain) fun σV H Q ⟨F, σ, w, s, σ', e, q⟩ => by
  unfold mApp at e
  split at e
  · rename_i io0 l0 h0
    split at e
    · rename_i d σ1 h1
      split at e
      · rename_i io l h2
        split at e
        · rename_i hl
          cases e
          obtain ⟨ov, eo, a, vs, rfl, fa, ha, r⟩ := w.slot i _ h0
          refine ⟨_, eo, .inl ⟨rfl, vs, SqL.of ha⟩, F, σ, w, d, σ1, h1, fun v H1 F1 st1 rv => ?_⟩
          obtain ⟨ov', eo', a', vs', e', fa', ha', r'⟩ := st1.w.slot i _ h2
          rw [eo] at eo'; cases eo'; cases e'
          refine ⟨a, vs', v, rfl, rfl, ha', by rw [← r'.length, ← LIM_eq]; exact hl, ?_⟩
          exact q _ _ F1 (st1.trans (Stp.wr st1.w h2 rfl eo ⟨a, _, rfl, fa', upd_same, DReps.append r' (DReps.one rv)⟩ rfl)) rfl
        · cases e
      · cases e
    · cases e
  · cases e
/-! ### new dicts -/
def mNew (t : Bool) : M S := fun σ => some (.ds false t [], σ)
theorem sf_new {t : Bool} : SF X ct (.Dict [] [] pos) (mNew t) := match t with
  | false => PEimp pe_dnewK fun σV H Q ⟨F, σ, w, s, σ', e, q⟩ p hp => (by
      cases e
      have g := Grw.lay (o := .dK []) w.le hp
      exact q _ _ F (g.stp w) (GRep.fresh (Stp.refl w) g (s := .ds false false []) ⟨rfl, p, _, rfl, hp, w.le.none hp, upd_same, .inl ⟨rfl, [], rfl, rfl⟩⟩))
  | true => PEimp pe_dnewT fun σV H Q ⟨F, σ, w, s, σ', e, q⟩ p hp => (by
      cases e
      have g := Grw.lay (o := .dT []) w.le hp
      exact q _ _ F (g.stp w) (GRep.fresh (Stp.refl w) g (s := .ds false true []) ⟨rfl, p, _, rfl, hp, w.le.none hp, upd_same, .inr ⟨rfl, [], rfl, rfl⟩⟩))
/-- {k: v} -/
def mDs1 (mk mv : M D) : M S := fun σ => match mk σ with
  | some (k, σ1) => (match mv σ1 with
    | some (v, σ2) => if k.isK = true then some (.ds false false [(k, v)], σ2) else none
    | none => none)
  | none => none
theorem sf_ds1 (hk : SE X ct k mk) (hv : SE X ct e mv) : SF X ct (.Dict [some k] [e] pos) (mDs1 mk mv) :=
  PEimp (pe_disp (pps_cons hk hv pps_nil) rfl rfl (by simp) (by simp)) fun σV H Q ⟨F, σ, w, s, σ', e, q⟩ p hp => by
  unfold mDs1 at e
  split at e
  · rename_i kd σ1 h1
    split at e
    · rename_i vd σ2 h2
      split at e
      · rename_i hk'
        cases e
        have st0 := Stp.lay (o := .dK []) w hp
        refine ⟨F, σ, st0.w, kd, σ1, h1, fun kv H1 F1 st1 r1 => ⟨F1, σ1, st1.w, vd, _, h2, fun vv H2 F2 st2 r2 => ?_⟩⟩
        have st := st0.trans (st1.trans st2)
        have np : ¬ Own σV σ p := fun o => by obtain ⟨_, u, z, _⟩ := w.own o; rw [hp] at z; cases z
        obtain ⟨a1, a2, a3⟩ := (st1.trans st2).apart upd_same (w.le.none hp) np
        obtain ⟨x, rfl⟩ := isK_of hk'
        refine ⟨a1, [(x, vv)], by rw [kD_rep x r1]; rfl, by simp, ?_⟩
        refine q _ _ F2 (st.poke hp a2 a3) ⟨rfl, ⟨p, _, rfl, a2, upd_same, .inl ⟨rfl, _, rfl, ⟨x, vv, [], rfl, rfl, r2, rfl⟩⟩⟩, fun a ea => ?_⟩
        cases ea
        exact ⟨a3, .inl hp⟩
      · cases e
    · cases e
  · cases e
/-! ### d.get(k, x) -/
def mGet (a : A) (mk mx : M D) : M D := fun σ => match a.go σ with
  | some (x, σ1) => (match a.fin x σ1 with
    | some (.dct _ _) => (match mk σ1 with
      | some (k, σ2) => (match mx σ2 with
        | some (z, σ3) => (match a.fin x σ3 with
          | some (.dct t l) => if keyOk t k = true then some ((dLook l k).getD z, σ3) else none
          | _ => none)
        | none => none)
      | none => none)
    | _ => none)
  | none => none
theorem se_get {a : A} {f : Expr} {mx : M D} (hu : X.A.units + 1 < cLine) (ho : AE X ct o a) (hk : SE X ct k mk) (hf : SE X ct f mx) (m : M2 X o "get" apos k f pos := by exact ⟨rfl, rfl, rfl, rfl⟩) :
    SE X ct (.Call (.Attribute o "get" apos) [k, f] [] pos) (mGet a mk mx) := PEimp (pe_dget2 hu ho hk hf m) fun σV H Q ⟨F, σ, w, d, σ', e, q⟩ => by
  unfold mGet at e
  split at e
  · rename_i x σ1 h1
    split at e
    · rename_i t0 l0 h0
      split at e
      · rename_i kd σ2 h2
        split at e
        · rename_i z σ3 h3
          split at e
          · rename_i t l h4
            split at e
            · rename_i hk'
              cases e
              refine A.ok w h1 fun v H1 F1 st1 r1 => ?_
              obtain ⟨b, u0, rfl, hu0, q0⟩ := A.view st1.w r1 h0
              refine ⟨b, rfl, ?_, F1, σ1, st1.w, kd, σ2, h2, fun kv H2 F2 st2 r2 => ⟨F2, σ2, st2.w, z, _, h3, fun zv H3 F3 st3 r3 => ?_⟩⟩
              · rcases q0 with ⟨_, es, rfl, _⟩ | ⟨_, es, rfl, _⟩
                · exact .inl ⟨es, hu0⟩
                · exact .inr ⟨es, hu0⟩
              · obtain ⟨b', u, eb, hu', q'⟩ : VRep X.K ct F3 H3 (.dct t l) (V.ref b) := A.view st3.w (A.res_mono (st2.trans st3).le r1) h4
                cases eb
                obtain ⟨ov, g, g1, g2⟩ := look_of st3.w.le hk' hu' q' (DRep.mono st3.le _ _ r2)
                refine ⟨ov, g, ?_⟩
                have st := (st1.trans st2).trans st3
                cases ov with
                | none => rw [g2 rfl] at q; exact q _ H3 F3 st r3
                | some y => obtain ⟨d', e', ry⟩ := g1 y rfl; rw [e'] at q; exact q _ H3 F3 st ry
            · cases e
          · cases e
        · cases e
      · cases e
    · cases e
  · cases e
end
end Ev
end

section
set_option Elab.async false
set_option linter.all false
/-! EvO: fields, chains, truth, is, index, reversed, repetition. -/
namespace Ev
open PySem PySem.Spec L2
set_option autoImplicit false
section
variable {X : Cx} {ct : Ct} {pos apos : Pos} {o k e a b c : Expr}
/-! ### fields -/
def mFld (c j : Nat) (m : M D) : M D := fun σ => match m σ with
  | some (.ins c' l, σ') => if c' = c then (match l[j]? with
    | some d => some (d, σ')
    | none => none) else none
  | _ => none
theorem look_at {f : Str} : ∀ {fs : List (Str × V)} {j : Nat} {v : V}, (fs.map (·.2))[j]? = some v → (fs.map (·.1))[j]? = some f → (∀ i, i < j → (fs.map (·.1))[i]? ≠ some f) → fs.lookup f = some v
  | [], _, _, h, _, _ => by simp at h
  | (g, w) :: fs, 0, v, h1, h2, _ => by
    simp at h1 h2
    subst h1 h2
    simp [List.lookup]
  | (g, w) :: fs, j + 1, v, h1, h2, h3 => by
    have hg : (f == g) = false := by
      have := h3 0 (Nat.succ_pos j)
      simp at this
      exact beq_eq_false_iff_ne.mpr fun z => this z.symm
    simp only [List.lookup, hg]
    exact look_at (by simpa using h1) (by simpa using h2) fun i hi => by have := h3 (i + 1) (by omega); simpa using this
theorem se_fld {i j : Nat} {f : Str} {m : M D} (hc : Cls X.K (ct i).1) (hn : NoAttr X.K (ct i).1 f) (hj : (ct i).2[j]? = some f) (hf : ∀ n, n < j → (ct i).2[n]? ≠ some f) (h : SE X ct e m)
    (hb : attributeBase e f X.env (eval e X.env) = eval e X.env := by rfl) : SE X ct (.Attribute e f pos) (mFld i j m) := PEimp (pe_fld h hb) fun σV H Q ⟨F, σ, w, d, σ', e, q⟩ => by
  unfold mFld at e
  split at e
  · rename_i c' l σ1 h1
    split at e
    · rename_i hcc
      subst hcc
      split at e
      · rename_i d' h2
        cases e
        refine ⟨F, σ, w, _, _, h1, fun v H1 F1 st r => ?_⟩
        obtain ⟨a, dx, fs, rfl, fa, _, hnm, rs⟩ := r
        obtain ⟨v, hv, rv⟩ := rs.get h2
        exact ⟨a, _, dx, fs, v, rfl, st.w.le _ _ fa, hc, hn, look_at hv (by rw [hnm]; exact hj) (fun n hn' => by rw [hnm]; exact hf n hn'), q v H1 F1 st rv⟩
      · cases e
    · cases e
  · cases e
/-! ### chains -/
def mChn (f g : D → D → Option S) (ma mb mc : M D) : M S := fun σ => match ma σ with
  | some (d, σ1) => (match mb σ1 with
    | some (e, σ2) => (match f d e with
      | some (.imm (.bl true)) => (match mc σ2 with
        | some (u, σ3) => (match g e u with
          | some s => some (s, σ3)
          | none => none)
        | none => none)
      | some (.imm (.bl false)) => some (.imm (.bl false), σ2)
      | _ => none)
    | none => none)
  | none => none
theorem chn_ok {r r' : R2} {f g : D → D → Option S} {ma mb mc : M D} (kf : OpOk X ct r f) (kg : OpOk X ct r' g) {σV : St} {H : Hp} {Q : VK} (h : rdF X ct (mChn f g ma mb mc) σV H Q) : tChain r r' (rdE X ct ma) (rdE X ct mb) (rdE X ct mc) σV H Q := by
  obtain ⟨F, σ, w, s, σ', e, q⟩ := h
  unfold mChn at e
  split at e
  · rename_i d σ1 h1
    split at e
    · rename_i d2 σ2 h2
      refine ⟨F, σ, w, d, σ1, h1, fun v H1 F1 st1 r1 => ⟨F1, σ1, st1.w, d2, σ2, h2, fun u H2 F2 st2 r2 => ?_⟩⟩
      have st := st1.trans st2
      have rx := VRep.of st2.w.le (DRep.mono st2.le _ _ r1)
      have ry := VRep.of st2.w.le r2
      split at e
      · rename_i hf
        refine kf F2 H2 d d2 _ v u _ st2.w.le hf rx ry fun z F3 H3 g3 rz => ⟨true, rz, ?_⟩
        have st3 := g3.stp st2.w
        refine iteT ?_
        split at e
        · rename_i d3 σ3 h3
          split at e
          · rename_i s' hg
            cases e
            refine ⟨F3, σ2, st3.w, d3, _, h3, fun t H4 F4 st4 r4 => ?_⟩
            refine kg F4 H4 d2 d3 s u t Q st4.w.le hg (VRep.of st4.w.le (DRep.mono (st3.trans st4).le _ _ r2)) (VRep.of st4.w.le r4) fun y F5 H5 g5 ry5 => ?_
            have tot := (st.trans st3).trans st4
            exact q y H5 F5 (tot.trans (g5.stp st4.w)) (GRep.fresh tot g5 ry5)
          · cases e
        · cases e
      · rename_i hf
        cases e
        refine kf F2 H2 d d2 _ v u _ st2.w.le hf rx ry fun z F3 H3 g3 rz => ⟨false, rz, ?_⟩
        exact iteF (q _ H3 F3 (st.trans (g3.stp st2.w)) rfl)
      · cases e
    · cases e
  · cases e
theorem sf_chn {op op' : CmpOp} {r r' : R2} {f g : D → D → Option S} {ma mb mc : M D} (ho : OpR X (compareOp op) r) (ho' : OpR X (compareOp op') r') (kf : OpOk X ct r f) (kg : OpOk X ct r' g) (ha : SE X ct a ma) (hb : SE X ct b mb) (hc : SE X ct c mc)
    (hm : lastMarks [op, op'] [b, c] = false := by with_unfolding_all rfl) : SF X ct (.Compare a [op, op'] [b, c] pos) (mChn f g ma mb mc) := PEimp (pe_chain ho ho' ha hb hc hm) fun σV H Q h => chn_ok kf kg h
theorem st_chn {op op' : CmpOp} {r r' : R2} {f g : D → D → Option S} {ma mb mc : M D} (ho : OpR X (compareOp op) r) (ho' : OpR X (compareOp op') r') (kf : OpOk X ct r f) (kg : OpOk X ct r' g) (ha : SE X ct a ma) (hb : SE X ct b mb) (hc : SE X ct c mc)
    (hm : lastMarks [op, op'] [b, c] = false := by with_unfolding_all rfl) : ST X ct (.Compare a [op, op'] [b, c] pos) (mT (mChn f g ma mb mc)) := st_of (pt_chain ho ho' ha hb hc hm) fun σV H Q h => chn_ok kf kg h
/-! ### truth -/
def fTru : D → Option Bool
  | .non => some false
  | .bl b => some b
  | .int i => some (i != 0)
  | .str x => if x.length ≤ LIM then some ((x.length : Int) != 0) else none
  | .lst l => some (!l.isEmpty)
  | .tup _ l => some (!l.isEmpty)
  | .scr l => some (!l.isEmpty)
  | _ => none
def mTru (a : A) : M Bool := fun σ => match a.one σ with
  | some (d, σ') => (match fTru d with
    | some b => some (b, σ')
    | none => none)
  | none => none
theorem reps_empty {K F} {l : List D} {vs : List V} (r : DReps K ct F l vs) : l.isEmpty = vs.isEmpty := by
  cases l with
  | nil => rw [show vs = [] from r] <;> rfl
  | cons d l => obtain ⟨v, t, rfl, _⟩ := r; rfl
theorem st_tru {a' : A} (ha : AE X ct a a') (he : ∀ whole, isTrue a X.env whole = (do let v ← whole; standAt a.pos; holding [v] (truthy v)) := by intro _; rfl) : ST X ct a (mTru a') := PTimp (pt_truth ha he) fun σV H Q ⟨F, σ, w, b, σ', e, q⟩ => by
  unfold mTru at e
  split at e
  · rename_i d σ1 h1
    split at e
    · rename_i t h2
      cases e
      refine A.one_ok w h1 fun v H1 F1 st r => ⟨b, ?_, q H1 F1 st⟩
      cases d with
      | non => cases h2; rw [show v = .non from r]; exact rfl
      | bl t => cases h2; rw [show v = .bl b from r]; exact rfl
      | int i => cases h2; rw [show v = .int i from r]; exact rfl
      | str x =>
        have h2 : (if x.length ≤ LIM then some ((x.length : Int) != 0) else none) = some b := h2
        split at h2
        · rename_i hx
          cases h2
          rw [show v = .str x from r]
          exact ⟨by rw [← LIM_eq]; exact hx, rfl⟩
        · cases h2
      | lst l => cases h2; obtain ⟨p, vs, rfl, hp, rs⟩ := r; exact .inl ⟨vs, SqL.of hp, by rw [reps_empty rs]⟩
      | tup kb l => cases h2; obtain ⟨p, vs, rfl, hp, rs⟩ := r; exact .inr (.inl ⟨vs, st.w.le.sqt hp.sqt, by rw [reps_empty rs]⟩)
      | scr l =>
        cases h2
        obtain ⟨p, rfl, hp⟩ := r
        exact .inl ⟨_, st.w.le.sql hp, by cases l <;> rfl⟩
      | _ => cases h2
    · cases e
  · cases e
/-! ### x is True, x is not True -/
def fIsB (neg : Bool) (d e : D) : Option S := match d, e with
  | .bl x, .bl y => some (.imm (.bl (neg ^^ decide (x = y))))
  | _, _ => none
theorem k_isB : OpOk X ct (fun x y H Q => ∃ a b, x = .bl a ∧ y = .bl b ∧ Q (.bl (decide (a = b))) H) (fIsB false) := fun F H d e c x y Q le hf rx ry q => by
  unfold fIsB at hf
  split at hf
  · rename_i i j
    cases hf
    refine ⟨i, j, rx, ry, q _ F H (Grw.refl le) ?_⟩
    show V.bl _ = V.bl _
    simp
  · cases hf
theorem k_notB : OpOk X ct (fun x y H Q => ∃ a b, x = .bl a ∧ y = .bl b ∧ Q (.bl (!decide (a = b))) H) (fIsB true) := fun F H d e c x y Q le hf rx ry q => by
  unfold fIsB at hf
  split at hf
  · rename_i i j
    cases hf
    refine ⟨i, j, rx, ry, q _ F H (Grw.refl le) ?_⟩
    show V.bl _ = V.bl _
    simp
  · cases hf
/-! ### xs.index(x) -/
def dIndex (d : D) : List D → Option Nat
  | [] => none
  | e :: l => if D.eqv e d = true then some 0 else (match dIndex d l with
    | some n => some (n + 1)
    | none => none)
def mIdx (mo mk : M D) : M D := fun σ => match mo σ with
  | some (.lst l, σ1) => (match mk σ1 with
    | some (d, σ2) => if ((D.lst l).sh && d.sh) = true then (match dIndex d l with
      | some n => some (.int (n : Nat), σ2)
      | none => none) else none
    | none => none)
  | _ => none
theorem dIndex_ok {d : D} : ∀ {l : List D} {n : Nat}, dIndex d l = some n → ∃ z, (D.toPs l)[n]? = some z ∧ PyData.eqv z d.toP = true ∧ ∀ m z', m < n → (D.toPs l)[m]? = some z' → PyData.eqv z' d.toP = false
  | [], _, h => by cases h
  | e :: l, n, h => by
    simp only [dIndex] at h
    split at h
    · rename_i he
      cases h
      exact ⟨e.toP, rfl, by rw [eqv_toP]; exact he, fun m z' hm => absurd hm (Nat.not_lt_zero m)⟩
    · rename_i he
      split at h
      · rename_i k hk
        cases h
        obtain ⟨z, h1, h2, h3⟩ := dIndex_ok hk
        refine ⟨z, h1, h2, fun m z' hm hz => ?_⟩
        cases m with
        | zero =>
          cases hz
          rw [eqv_toP]
          exact Bool.eq_false_iff.mpr he
        | succ m => exact h3 m z' (by omega) hz
      · cases h
theorem se_idx {mo mk : M D} (hu : X.A.units + 65 < cLine) (ho : SE X ct o mo) (h : SE X ct e mk)
    (hbase : attributeBase o "index" X.env (eval o X.env) = eval o X.env := by rfl)
    (hfew : ((backTo pos (starEach [e] X.env)).all (fun x => !x.1) && (backToKw pos (keywordEach [] X.env)).all (fun x => x.1.isSome) && decide ([e].length + ([] : List Keyword).length + (if ([] : List Keyword).isEmpty then 0 else 1) < 30)) = true := by rfl)
    (hline : (apos.endLine == pos.line) = true := by rfl) (hs : starEach [e] X.env = (false, eval e X.env) :: starEach [] X.env := by rfl) (hplain : (backTo pos (starEach [] X.env)).any (·.1) = false := by rfl) :
    SE X ct (.Call (.Attribute o "index" apos) [e] [] pos) (mIdx mo mk) :=
  PEimp (pe_bm F.plainAttrs_list F.slot_list_index F.type_list_index (mt_indexD hu) ho (pa_cons h pa_nil hs) hbase hfew hline hs hplain) fun σV H Q ⟨F, σ, w, d, σ', e, q⟩ => by
  unfold mIdx at e
  split at e
  · rename_i l σ1 h1
    split at e
    · rename_i kd σ2 h2
      split at e
      · rename_i hsh
        rw [Bool.and_eq_true] at hsh
        split at e
        · rename_i n hn
          cases e
          refine ⟨F, σ, w, _, _, h1, fun v H1 F1 st1 r1 => ?_⟩
          obtain ⟨p, vs, rfl, fp, rs⟩ := r1
          refine ⟨.inl ⟨rfl, vs, SqL.of (st1.w.le _ _ fp)⟩, F1, σ1, st1.w, kd, _, h2, fun u H2 F2 st2 r2 => ?_⟩
          obtain ⟨z, z1, z2, z3⟩ := dIndex_ok hn
          exact ⟨p, u, kd.toP, D.toPs l, n, z, rfl, rfl, vdp (d := .lst l) st2.w.le (sh_pl hsh.1) (VRep.of st2.w.le ⟨p, vs, rfl, st2.le _ _ fp, DReps.mono st2.le _ _ rs⟩), vdp st2.w.le (sh_pl hsh.2) (VRep.of st2.w.le r2),
            D.sh_ok hsh.1, D.sh_ok hsh.2, z1, z2, z3, q _ H2 F2 (st1.trans st2) rfl⟩
        · cases e
      · cases e
    · cases e
  · cases e
/-! ### xs[::-1], xs * n -/
def fRep (d e : D) : Option S := match d, e with
  | .lst l, .int k => if (okR k && decide (l.length * k.toNat ≤ LIM)) = true then some (.ls false (List.replicate k.toNat l).flatten) else none
  | _, _ => none
end
end Ev
end

section
set_option Elab.async false
set_option linter.all false
/-! EvP: reversed lists, repetition, dict of pairs. -/
namespace Ev
open PySem PySem.Spec L2
set_option autoImplicit false
section
variable {X : Cx} {ct : Ct} {pos apos : Pos} {o k e a b c : Expr}
/-- xs[::-1] -/
def mRev (m : M D) : M S := fun σ => match m σ with
  | some (.lst l, σ') => some (.ls false l.reverse, σ')
  | _ => none
theorem sf_rev {m : M D} {kk : Nat} {p1 p2 p3 : Pos} (h : SE X ct e m) : SF X ct (.Subscript e (.Slice none none (some (.UnaryOp .USub (.Constant (.int 1) kk p1) p2)) p3) pos) (mRev m) := PEimp (pe_revL h) fun σV H Q ⟨F, σ, w, s, σ', e, q⟩ => by
  unfold mRev at e
  split at e
  · rename_i l σ1 h1
    cases e
    refine ⟨F, σ, w, _, _, h1, fun v H1 F1 st ⟨a, vs, ev, fa, rs⟩ => ⟨a, vs, ev, SqL.of (st.w.le _ _ fa), fun p hp => ?_⟩⟩
    have g := Grw.lay (o := .lst vs.reverse) st.w.le hp
    exact q _ _ F1 (st.trans (g.stp st.w)) (GRep.fresh st g (s := .ls false _) ⟨rfl, p, _, rfl, hp, st.w.le.none hp, upd_same, DReps.rev rs⟩)
  · cases e
/-! ### * of anything -/
abbrev rMulAny : R2 := fun x y H Q => rI CMul (fun i j => .int (i * j)) x y H Q ∨ rRep x y H Q
theorem op_mulAny : OpR X (binaryOp .Mult) rMulAny := OpR.or op_mul op_rep
def fMul (d e : D) : Option S := match d, e with
  | .int i, .int j => if cMul i j = true then some (.imm (.int (i * j))) else none
  | .lst l, .int k => if (okR k && decide (l.length * k.toNat ≤ LIM)) = true then some (.ls false (List.replicate k.toNat l).flatten) else none
  | _, _ => none
theorem reps_rep {K F} {l : List D} {vs : List V} (r : DReps K ct F l vs) : ∀ n : Nat, DReps K ct F (List.replicate n l).flatten (List.replicate n vs).flatten
  | 0 => rfl
  | n + 1 => by
    rw [List.replicate_succ, List.replicate_succ, List.flatten_cons, List.flatten_cons]
    exact DReps.append r (reps_rep r n)
theorem k_mulA : OpOk X ct rMulAny fMul := fun F H d e c x y Q le hf rx ry q => by
  unfold fMul at hf
  split at hf
  · rename_i i j
    split at hf
    · rename_i h
      cases hf
      exact .inl ⟨i, j, rx, ry, cMul_ok i j h, q _ F H (Grw.refl le) rfl⟩
    · cases hf
  · rename_i l n
    split at hf
    · rename_i h
      rw [Bool.and_eq_true, decide_eq_true_eq] at h
      cases hf
      obtain ⟨a, vs, rfl, ha, r⟩ := rx
      obtain ⟨h1, h2⟩ := okR_ok h.1
      exact .inr ⟨a, n, vs, rfl, ry, ha, by omega, by omega, by rw [← r.length, ← LIM_eq]; exact h.2, fun p hp => q _ F _ (Grw.lay le hp) ⟨rfl, p, _, rfl, hp, le.none hp, upd_same, reps_rep r _⟩⟩
    · cases hf
  · cases hf
end
/-! ### dict(pairs) -/
section
variable {X : Cx} {ct : Ct}
theorem pairs_of2 {pins : List (Addr × Obj)} {σ : St} {H : Hp} {s : Shared} (I : Inv X pins σ H s) : ∀ {ps : List Addr} {kvs : List (Key × V)}, Paired (fun p kv => SqT X.K H p [kV kv.1, kv.2]) ps kvs →
    ∃ (prs : List (Key × Value)) (vps : List (Value × Value)), KV kvs prs ∧ prs.length = ps.length ∧ vps.length = ps.length ∧ ∀ (j : Nat) (u v : Value), vps[j]? = some (u, v) → ∃ (b : Addr) (k : Key), ps[j]? = some b ∧ prs[j]? = some (k, v) ∧ PyProof.Rows.IsTup s.heap b #[u, v] ∧ keyIs k u = true
  | _, _, .nil => ⟨[], [], .nil, rfl, rfl, fun j u v e => by simp at e⟩
  | _, _, .cons (a := p) (b := kv) h t => by
    obtain ⟨prs, vps, r, hl, hl2, hp⟩ := pairs_of2 I t
    obtain ⟨its, rv, ht, _⟩ := I.tuple h
    obtain ⟨u, y, ei, ru, ry⟩ := vals2 rv
    subst ei
    refine ⟨(kv.1, y) :: prs, (u, y) :: vps, .cons ⟨rfl, ry⟩ r, by rw [List.length_cons, List.length_cons, hl], by rw [List.length_cons, List.length_cons, hl2], fun j u' v' e => ?_⟩
    cases j with
    | zero =>
      cases e
      exact ⟨p, kv.1, rfl, rfl, ht, kV_is (P := X.prog) (w := X.w) ru⟩
    | succ j =>
      obtain ⟨b, k, e1, e2, e3, e4⟩ := hp j u' v' (by simpa using e)
      exact ⟨b, k, by simpa using e1, by simpa using e2, e3, e4⟩
theorem call_dictT (hcalm : X.calm = true) : CallR X (.type "dict") (fun xs H Q => ∃ (a : Addr) (od : Obj) (ps : List Addr) (kvs : List (Key × V)), xs = [.ref a] ∧ H a = some (.frz od (.tup (ps.map V.ref))) ∧ od.dict = none ∧ Paired (fun p kv => SqT X.K H p [kV kv.1, kv.2]) ps kvs ∧
    ∀ p, H p = none → Q (.ref p) (upd H p (.dK (mergeK [] kvs)))) := by
  intro pins s σ H xs us Q I r h
  obtain ⟨a, od, ps, kvs, rfl, ha, hod, hp, q⟩ := h
  obtain rfl := Vals.ref1 r
  obtain ⟨hg, hz, its, rv, o', ho', hc, n, hdat⟩ := I.hok a _ ha
  rw [hg] at ho'; cases ho'
  have ei := refs_at rv
  subst ei
  obtain ⟨prs, vps, rel, hl, hl2, hpr⟩ := pairs_of2 I hp
  rw [List.length_map] at hz
  refine PySem.call_dict_pairs (knd := mixKind X.prog X.w) (kvs := prs) (PairArg.tuple a (ps.map Value.ref).toArray (fun j => ps.getD j 0) vps) (I.ok.hd hcalm) ⟨⟨od, n, hg, hc, hod, hdat⟩, by simp [hl2], fun j u v e => ?_⟩ ⟨by rw [hl, hl2], fun j u v e => ?_⟩ (by rw [hl2]; exact hz) fun h' tk hd' kp => ?_
  · obtain ⟨b, k, e1, e2, e3, e4⟩ := hpr j u v e
    refine ⟨by simp [e1], ?_⟩
    obtain ⟨o2, h1, h2, n2, h3⟩ := e3
    have eb : ps.getD j 0 = b := by simp [List.getD, e1]
    show PairAt s.heap (ps.getD j 0) u v
    rw [eb]
    exact .inl ⟨o2, h1, h2, n2, h3⟩
  · obtain ⟨b, k, e1, e2, e3, e4⟩ := hpr j u v e
    exact ⟨k, e2, e4⟩
  · have hm : (s.heap.objs.size == sysModules) = false := beq_eq_false_iff_ne.mpr (Nat.ne_of_gt I.big)
    have hlen : (mergeK [] kvs).length ≤ sizeLine := by
      refine Nat.le_trans (length_mergeK kvs []) ?_
      rw [List.length_nil, Nat.zero_add, rel.length, hl]
      exact hz
    exact ⟨.ref s.heap.objs.size, upd H s.heap.objs.size (.dK (mergeK [] kvs)), I.laid (t' := tk) (fun b ob e => kp b ob (by simp) e) (Nat.le_refl _) (show ObjOk X.prog X.w _ _ _ (.dK (mergeK [] kvs)) from ⟨hlen, hm, merged [] prs, KV.merge rel .nil, hd'⟩), rfl, q _ (I.hok.fresh (Nat.le_refl _))⟩
def dPairs : List D → Option (List (D × D))
  | [] => some []
  | .tup _ [k, v] :: l => if k.isK = true then (match dPairs l with
    | some ps => some ((k, v) :: ps)
    | none => none) else none
  | _ :: _ => none
def dOf (ps : List (D × D)) : List (D × D) := ps.foldl (fun acc p => dPut acc p.1 p.2) []
theorem pairs_rep {K ct} {F H : Hp} (le : Le F H) : ∀ {l : List D} {ps : List (D × D)} {vs : List V}, dPairs l = some ps → DReps K ct F l vs → ∃ (as : List Addr) (kvs : List (Key × V)), vs = as.map V.ref ∧ Paired (fun p kv => SqT K H p [kV kv.1, kv.2]) as kvs ∧ GKv K ct F kD ps kvs
  | [], _, _, h, r => by cases h; exact ⟨[], [], r, .nil, rfl⟩
  | d :: l, ps, _, h, ⟨v, t, e, r, q⟩ => by
    unfold dPairs at h
    split at h
    · rename_i h0; cases h0
    · rename_i kb k x l' h0
      cases h0
      split at h
      · rename_i hk
        split at h
        · rename_i ps' h1
          cases h
          obtain ⟨as, kvs, e2, pr, g⟩ := pairs_rep le h1 q
          obtain ⟨kk, rfl⟩ := isK_of hk
          obtain ⟨a, us, rfl, ha, ⟨kv, t1, rfl, rk, xv, t2, rfl, rx, rfl⟩⟩ := r
          rw [kD_rep kk rk] at ha
          exact ⟨a :: as, (kk, xv) :: kvs, by rw [e, e2]; rfl, .cons (le.sqt ha.sqt) pr, kk, xv, kvs, rfl, rfl, rx, g⟩
        · cases h
      · cases h
    · cases h
theorem fold_G {K ct} {F : Hp} : ∀ {ps : List (D × D)} {kvs : List (Key × V)} {acc : List (D × D)} {av : List (Key × V)}, GKv K ct F kD ps kvs → GKv K ct F kD acc av → GKv K ct F kD (ps.foldl (fun acc p => dPut acc p.1 p.2) acc) (mergeK av kvs)
  | [], _, _, _, r, g => by rw [show _ = [] from r]; exact g
  | (k, d) :: ps, _, acc, av, ⟨x, v, t, e, hk, rv, q⟩, g => by
    subst e hk
    exact fold_G (acc := dPut acc (kD x) d) (av := putK av x v) q (put_G eqv_key rv g)
def fDict : D → Option S
  | .lst l => (match dPairs l with
    | some ps => some (.ds false false (dOf ps))
    | none => none)
  | .tup true l => (match dPairs l with
    | some ps => some (.ds false false (dOf ps))
    | none => none)
  | .dct false l => some (.ds false false l)
  | _ => none
abbrev rDict (X : Cx) : List V → Hp → VK → Prop := fun xs H Q => (∃ (a : Addr) (od : Obj) (ps : List Addr) (kvs : List (Key × V)), xs = [.ref a] ∧ H a = some (.frz od (.tup (ps.map V.ref))) ∧ od.dict = none ∧ Paired (fun p kv => SqT X.K H p [kV kv.1, kv.2]) ps kvs ∧
    ∀ p, H p = none → Q (.ref p) (upd H p (.dK (mergeK [] kvs)))) ∨ (∃ (a : Addr) (ps : List Addr) (kvs : List (Key × V)), xs = [.ref a] ∧ SqL X.K H a (ps.map V.ref) ∧ Paired (fun p kv => SqT X.K H p [kV kv.1, kv.2]) ps kvs ∧
    ∀ p, H p = none → Q (.ref p) (upd H p (.dK (mergeK [] kvs)))) ∨ (∃ (a : Addr) (kvs : List (Key × V)), xs = [.ref a] ∧ Rd H a (.dK kvs) ∧ ∀ p, H p = none → Q (.ref p) (upd H p (.dK kvs)))
theorem cr_dict (hc : X.calm = true) : CallR X (.type "dict") (rDict X) := CallR.or (call_dictT hc) (CallR.or (call_dictP hc) call_dictD)
theorem k_dict : UnOk X ct (fun x H Q => rDict X [x] H Q) fDict := fun F H d c x Q le hf rx q => by
  have fin : ∀ {ps : List (D × D)} {kvs : List (Key × V)} {p : Addr}, GKv X.K ct F kD ps kvs → H p = none → (∀ v F' H', Grw F H F' H' → GRep X.K ct H F' H' (.ds false false ps) v → Q v H') → Q (.ref p) (upd H p (.dK kvs)) := fun {ps kvs p} g hp q =>
    q _ F _ (Grw.lay le hp) ⟨rfl, p, _, rfl, hp, le.none hp, upd_same, .inl ⟨rfl, kvs, rfl, gkv_K.mpr g⟩⟩
  unfold fDict at hf
  split at hf
  · split at hf
    · rename_i l _ ps h1
      cases hf
      obtain ⟨a, vs, rfl, ha, r⟩ := rx
      obtain ⟨as, kvs, rfl, pr, g⟩ := pairs_rep le h1 r
      exact .inr (.inl ⟨a, as, kvs, rfl, SqL.of ha, pr, fun p hp => fin (fold_G (acc := []) g rfl) hp q⟩)
    · cases hf
  · split at hf
    · rename_i l _ ps h1
      cases hf
      obtain ⟨a, vs, rfl, ⟨od, ha, ho⟩, r⟩ := rx
      obtain ⟨as, kvs, rfl, pr, g⟩ := pairs_rep le h1 r
      exact .inl ⟨a, od, as, kvs, rfl, le _ _ ha, ho, pr, fun p hp => fin (fold_G (acc := []) g rfl) hp q⟩
    · cases hf
  · rename_i l
    cases hf
    obtain ⟨a, u, rfl, hu, r⟩ := rx
    rcases r with ⟨_, es, rfl, r⟩ | ⟨z, _⟩
    · exact .inr (.inr ⟨a, es, rfl, hu, fun p hp => fin (gkv_K.mp r) hp q⟩)
    · cases z
  · cases hf
end
end Ev
end

section
set_option Elab.async false
set_option linter.all false
/-! EvQ: calls: what a def promises, how it is kept, how it is used. -/
namespace Ev
open PySem PySem.Spec L2
set_option autoImplicit false
def S.setIo (b : Bool) : S → S
  | .imm d => .imm d
  | .ls _ l => .ls b l
  | .ds _ t l => .ds b t l
  | .prv => .prv
def startF (ss : List S) (n : Nat) : Fr := ss.map some ++ List.replicate (n - ss.length) none
/-- a def without a parameter that it changes -/
def runV (n : Nat) (m : M Fl) (ds : List D) : Option S := match m (startF (ds.map .imm) n) with
  | some (.rt s, _) => some s
  | some (.nx, _) => some (.imm .non)
  | _ => none
/-- a def that changes its first parameter -/
def runI (n : Nat) (m : M Fl) (s0 : S) (ds : List D) : Option (S × S) := match m (startF (s0.setIo true :: ds.map .imm) n) with
  | some (.rt s, σ') => (match σ'[0]? with
    | some (some s1) => if s1.own = true then some (s, s1) else none
    | _ => none)
  | some (.nx, σ') => (match σ'[0]? with
    | some (some s1) => if s1.own = true then some (.imm .non, s1) else none
    | _ => none)
  | _ => none
def spV (K : PySem.W.Frag) (ct : Ct) (n : Nat) (g : List D → Option S) : Sp := fun vs H Q _ => ∃ F ds s, Le F H ∧ ds.length = n ∧ DReps K ct F ds vs ∧ g ds = some s ∧ ∀ v F' H', Grw F H F' H' → GRep K ct H F' H' s v → Q v H'
/-- all but the thing at a stays -/
structure GrwX (a : Addr) (F H F' H' : Hp) : Prop where
  le : Le F F'
  le' : Le F' H'
  keep : ∀ b o, b ≠ a → H b = some o → H' b = some o
  there : ∀ b, H' b = none → H b = none
  froz : ∀ b, F' b ≠ none → F b ≠ none ∨ H b = none ∨ ∃ xs, H b = some (.tup xs)
def spI (K : PySem.W.Frag) (ct : Ct) (n : Nat) (g : S → List D → Option (S × S)) : Sp := fun vs H Q _ => ∃ F a vs' ds s0 s s', vs = .ref a :: vs' ∧ Le F H ∧ s0.own = true ∧ SRep K ct F H s0 (.ref a) ∧ ds.length + 1 = n ∧ DReps K ct F ds vs' ∧ g s0 ds = some (s, s') ∧
  ∀ v F' H', GrwX a F H F' H' → GRep K ct H F' H' s v → s'.own = true → SRep K ct F' H' s' (.ref a) → Q v H'
section
variable {K : PySem.W.Frag} {ct : Ct} {F H F' H' : Hp} {σV σV' : St} {σ σ' : Fr}
theorem setIo_own {s : S} {b : Bool} : (s.setIo b).own = s.own := by cases s <;> rfl
theorem setIo_io {s : S} {b : Bool} (h : s.own = true) : (s.setIo b).io = b := by cases s <;> first | rfl | cases h
theorem setIo_rep {s : S} {b : Bool} {v : V} : SRep K ct F H (s.setIo b) v ↔ SRep K ct F H s v := by cases s <;> exact Iff.rfl
theorem reps_get {l : List D} {vs : List V} (r : DReps K ct F l vs) {i : Nat} {d : D} (h : l[i]? = some d) : ∃ v, vs[i]? = some v ∧ DRep K ct F d v := r.get h
theorem start_get {ss : List S} {n i : Nat} {s : S} (h : (startF ss n)[i]? = some (some s)) : ss[i]? = some s := by
  unfold startF at h
  rw [List.getElem?_append] at h
  split at h
  · rename_i hi
    rw [List.getElem?_map] at h
    cases q : ss[i]? with
    | none => rw [q] at h; cases h
    | some t => rw [q] at h; cases h; rfl
  · rw [List.getElem?_replicate] at h
    split at h <;> cases h
theorem startV_get {vs : List V} {N : List Str} {i : Nat} {v : V} (h : vs[i]? = some v) : (L2.start N vs)[i]? = some (some v) := by
  unfold L2.start
  rw [List.getElem?_append_left (by rw [List.length_map]; exact (List.getElem?_eq_some_iff.mp h).1), List.getElem?_map, h]
  rfl
theorem start_len {ss : List S} {vs : List V} {N : List Str} (hl : ss.length = vs.length) : (startF ss N.length).length ≤ (L2.start N vs).length := by
  unfold startF L2.start
  simp [hl]
theorem wd_startV {ds : List D} {vs : List V} {N : List Str} (le : Le F H) (r : DReps K ct F ds vs) : Wd K ct F H (L2.start N vs) (startF (ds.map .imm) N.length) where
  le := le
  slot := fun i s e => by
    have e := start_get e
    rw [List.getElem?_map] at e
    cases h : ds[i]? with
    | none => rw [h] at e; cases e
    | some d =>
      rw [h] at e; cases e
      obtain ⟨v, hv, rv⟩ := r.get h
      exact ⟨v, startV_get hv, rv⟩
  dis := fun i j s t a ei ej si => by
    have e := start_get ei
    rw [List.getElem?_map] at e
    cases h : ds[i]? with
    | none => rw [h] at e; cases e
    | some d => rw [h] at e; cases e; cases si
  ln := start_len (by rw [List.length_map, r.length])
theorem noOwn_startV {ds : List D} {N : Nat} {a : Addr} {σV : St} : ¬ Own σV (startF (ds.map .imm) N) a := fun ⟨i, s, e, so, _⟩ => by
  have e := start_get e
  rw [List.getElem?_map] at e
  cases h : ds[i]? with
  | none => rw [h] at e; cases e
  | some d => rw [h] at e; cases e; cases so
theorem stp_grw (st : Stp K ct F H σV σ F' H' σV' σ') (n : ∀ a, ¬ Own σV σ a) : Grw F H F' H' :=
  ⟨st.le, st.w.le, fun a o h => st.keep a o h (n a), fun a h => by
    rcases st.froz a h with z | z | z | z
    · exact .inl z
    · exact .inr (.inl z)
    · exact absurd z (n a)
    · exact .inr (.inr z)⟩
theorem rrep_grep (st : Stp K ct F H σV σ F' H' σV' σ') {c : Addr} (n : ∀ a, Own σV σ a → a = c ∧ Own σV' σ' c) : ∀ {s : S} {v : V}, RRep K ct H σV σ F' H' σV' σ' s v → GRep K ct H F' H' s v
  | .imm _, _, r => r
  | .ls b l, _, ⟨h1, ⟨a, vs, e, f, h, r⟩, h3⟩ => ⟨h1, a, vs, e, (h3 a e).2.resolve_right fun o => (h3 a e).1 ((n a o).1 ▸ (n a o).2), f, h, r⟩
  | .ds b t l, _, ⟨h1, ⟨a, vs, e, f, h, r⟩, h3⟩ => ⟨h1, a, vs, e, (h3 a e).2.resolve_right fun o => (h3 a e).1 ((n a o).1 ▸ (n a o).2), f, h, r⟩
theorem wd_startI {s0 : S} {a : Addr} {ds : List D} {vs : List V} {N : List Str} (le : Le F H) (ow : s0.own = true) (r0 : SRep K ct F H s0 (.ref a)) (r : DReps K ct F ds vs) : Wd K ct F H (L2.start N (.ref a :: vs)) (startF (s0.setIo true :: ds.map .imm) N.length) := by
  have only : ∀ i s, (startF (s0.setIo true :: ds.map .imm) N.length)[i]? = some (some s) → s.own = true → i = 0 := fun i s e so => by
    have e := start_get e
    cases i with
    | zero => rfl
    | succ i =>
      rw [List.getElem?_cons_succ, List.getElem?_map] at e
      cases h : ds[i]? with
      | none => rw [h] at e; cases e
      | some d => rw [h] at e; cases e; cases so
  refine ⟨le, fun i s e => ?_, fun i j s t b ei ej si sj _ _ => (only i s ei si).trans (only j t ej sj).symm, start_len (by simp [r.length])⟩
  have e := start_get e
  cases i with
  | zero => cases e; exact ⟨.ref a, startV_get (vs := .ref a :: vs) rfl, setIo_rep.mpr r0⟩
  | succ i =>
    rw [List.getElem?_cons_succ, List.getElem?_map] at e
    cases h : ds[i]? with
    | none => rw [h] at e; cases e
    | some d =>
      rw [h] at e; cases e
      obtain ⟨v, hv, rv⟩ := r.get h
      exact ⟨v, startV_get (vs := .ref a :: vs) (i := i + 1) (by rw [List.getElem?_cons_succ]; exact hv), rv⟩
theorem own_startI {s0 : S} {a b : Addr} {ds : List D} {vs : List V} {N : List Str} (h : Own (L2.start N (.ref a :: vs)) (startF (s0.setIo true :: ds.map .imm) N.length) b) : b = a := by
  obtain ⟨i, s, e, so, ev⟩ := h
  have e := start_get e
  cases i with
  | zero =>
    rw [startV_get (vs := .ref a :: vs) (v := .ref a) rfl] at ev
    cases ev; rfl
  | succ i =>
    rw [List.getElem?_cons_succ, List.getElem?_map] at e
    cases h : ds[i]? with
    | none => rw [h] at e; cases e
    | some d => rw [h] at e; cases e; cases so
end
/-! ### a def keeps its promise -/
section
variable {P : Program} {w : World} {K : PySem.W.Frag} {mg : Str → Option Value} {base : Heap} {x qual : Str} {params : Arguments} {body : List Stmt} {scope : Scope} {f : Addr} {fd : FuncData} {N ps : List Str} {k n : Nat} {ct : Ct} {m : M Fl}
theorem fokV (F : FunD K x qual params body scope [] [] f fd) (S : FnScope N ps scope) (hn : ps.length = n)
    (hb : ∀ (cdv : Value) (A : Around) (outer : List Env) (s : Shared) (H : Hp) (E : XK), Room k (A.deeper (PyProof.Rows.envOfC qual scope s.heap.objs.size f cdv)) → SSs (cxOf CX0 P w K mg base N qual scope f cdv A outer s H E).nox ct body m) :
    FnOk P w K mg base CX0 (k + 1) f fd ps (spV K ct n (runV N.length m)) := by
  refine F.ok S (fun vs H Q E ⟨_, ds, _, _, hl, r, _⟩ => by rw [← r.length, hl, hn]) fun cdv A outer s H vs Q E hr h => ⟨_, PSs.nox (hb cdv A outer s H E hr), ?_⟩
  obtain ⟨Fz, ds, r, le, hl, rs, hg, q⟩ := h
  unfold runV at hg
  split at hg
  · rename_i s' σ' h1
    cases hg
    refine ⟨Fz, _, wd_startV le rs, _, _, h1, fun v σV' H' F' st rr => ?_⟩
    exact q v F' H' (stp_grw st fun a => noOwn_startV) (rrep_grep (c := 0) st (fun a o => absurd o noOwn_startV) rr)
  · rename_i σ' h1
    cases hg
    exact ⟨Fz, _, wd_startV le rs, _, _, h1, fun v σV' H' F' st rr => q .non F' H' (stp_grw st fun a => noOwn_startV) rfl⟩
  · cases hg
theorem fokI (F : FunD K x qual params body scope [] [] f fd) (S : FnScope N ps scope) (hn : ps.length = n)
    (hb : ∀ (cdv : Value) (A : Around) (outer : List Env) (s : Shared) (H : Hp) (E : XK), Room k (A.deeper (PyProof.Rows.envOfC qual scope s.heap.objs.size f cdv)) → SSs (cxOf CX0 P w K mg base N qual scope f cdv A outer s H E).nox ct body m) :
    FnOk P w K mg base CX0 (k + 1) f fd ps (spI K ct n (runI N.length m)) := by
  refine F.ok S (fun vs H Q E ⟨_, _, _, ds, _, _, _, e, _, _, _, hl, r, _⟩ => by rw [e, List.length_cons, ← r.length, hl, hn]) fun cdv A outer s H vs Q E hr h => ⟨_, PSs.nox (hb cdv A outer s H E hr), ?_⟩
  obtain ⟨Fz, a, vs', ds, s0, r, r', rfl, le, ow, r0, hl, rs, hg, q⟩ := h
  have ww := wd_startI (N := N) le ow r0 rs
  have h0 : (startF (s0.setIo true :: ds.map .imm) N.length)[0]? = some (some (s0.setIo true)) := by unfold startF; simp
  have hV0 : (L2.start N (V.ref a :: vs'))[0]? = some (some (.ref a)) := startV_get (vs := .ref a :: vs') rfl
  have fin : ∀ {σ' : Fr} {σV' : St} {F' H' : Hp} {s1 : Ev.S}, Stp K ct Fz H (L2.start N (.ref a :: vs')) (startF (s0.setIo true :: ds.map .imm) N.length) F' H' σV' σ' → σ'[0]? = some (some s1) → s1.own = true →
      GrwX a Fz H F' H' ∧ s1.own = true ∧ SRep K ct F' H' s1 (.ref a) ∧ Own σV' σ' a := fun {σ' σV' F' H' s1} st e1 so => by
    obtain ⟨⟨s2, e2, io2⟩, ev⟩ := st.io 0 _ h0 (setIo_io ow)
    rw [e1] at e2; cases e2
    rw [hV0] at ev
    obtain ⟨v', ev', rr⟩ := st.w.slot 0 _ e1
    rw [ev] at ev'; cases ev'
    have oa : Own σV' σ' a := ⟨0, s1, e1, so, ev⟩
    refine ⟨⟨st.le, st.w.le, fun b o hb h => st.keep b o h fun z => hb (own_startI z), st.there, fun b h => ?_⟩, so, rr, oa⟩
    rcases st.froz b h with z | z | z | z
    · exact .inl z
    · exact .inr (.inl z)
    · exact absurd ((st.w.own oa).1) (by rw [← own_startI z]; exact h)
    · exact .inr (.inr z)
  unfold runI at hg
  split at hg
  · rename_i s' σ' h1
    split at hg
    · rename_i s1 e1
      split at hg
      case isFalse => cases hg
      rename_i so1
      cases hg
      refine ⟨Fz, _, ww, _, _, h1, fun v σV' H' F' st rr => ?_⟩
      obtain ⟨g1, g2, g3, g4⟩ := fin st e1 so1
      exact q v F' H' g1 (rrep_grep (c := a) st (fun b o => ⟨own_startI o, g4⟩) rr) g2 g3
    · cases hg
  · rename_i σ' h1
    split at hg
    · rename_i s1 e1
      split at hg
      case isFalse => cases hg
      rename_i so1
      cases hg
      refine ⟨Fz, _, ww, _, _, h1, fun v σV' H' F' st rr => ?_⟩
      obtain ⟨g1, g2, g3, g4⟩ := fin st e1 so1
      exact q .non F' H' g1 rfl g2 g3
    · cases hg
  · cases hg
end
/-! ### calls -/
def mCall (n : Nat) (g : List D → Option S) (ms : List (M D)) : M S := fun σ => match mL ms σ with
  | some (ds, σ') => if ds.length = n then (match g ds with
    | some s => some (s, σ')
    | none => none) else none
  | none => none
def mCallI (i n : Nat) (g : S → List D → Option (S × S)) (ms : List (M D)) : M S := fun σ => match σ[i]? with
  | some (some _) => (match mL ms σ with
    | some (ds, σ') => (match σ'[i]? with
      | some (some s0) => if (s0.own && decide (ds.length + 1 = n)) = true then (match g s0 ds with
        | some (s, s') => some (s, σ'.set i (some (s'.setIo s0.io)))
        | none => none) else none
      | _ => none)
    | none => none)
  | _ => none
section
variable {X : Cx} {ct : Ct} {n k i : Nat} {f : Addr} {fd : FuncData} {ps : List Str} {x : Str} {p pos : Pos} {e : Expr} {es : List Expr} {ms : List (M D)}
theorem sf_call {g : List D → Option S} {E : XK} (F : FnOk X.prog X.w X.K X.mg X.base CX0 k f fd ps (spV X.K ct n g)) (hr : Room k X.A) (hg : Gl X x) (hm : X.mg x = some (.ref f)) (hk : PySem.W.keepIn X.K (.ref f) = true) (hb : Binds X.K fd ps []) (ha : SEs X ct (e :: es) ms)
    (hdb : (x == ("__debug__" : Str)) = false := by decide) (he : starEach (e :: es) X.env = (false, eval e X.env) :: starEach es X.env := by rfl) (hpl : (backTo pos (starEach es X.env)).any (·.1) = false := by rfl) : SF X ct (.Call (.Name x p) (e :: es) [] pos) (mCall n g ms) :=
  PEimp (pe_call (E := fun _ _ _ => False) F hr hg hm hk hb .nil (fun _ _ _ _ _ _ _ h => h.elim) ha hdb he hpl) fun σV H Q ⟨F, σ, w, s, σ', e, q⟩ => by
  unfold mCall at e
  split at e
  · rename_i ds σ1 h1
    split at e
    · rename_i hl
      split at e
      · rename_i s' hg'
        cases e
        refine tL_ok (F := F) (H := H) w h1 fun vs H1 F1 st rs => ?_
        rw [List.append_nil]
        exact ⟨F1, ds, s, st.w.le, hl, rs, hg', fun v F2 H2 gr rv => q v H2 F2 (st.trans (gr.stp st.w)) (GRep.fresh st gr rv)⟩
      · cases e
    · cases e
  · cases e
theorem Stp.wrX {F H F' H' : Hp} {σV : St} {σ : Fr} {K : PySem.W.Frag} (w : Wd K ct F H σV σ) {s s' : S} {a : Addr} (e : σ[i]? = some (some s)) (so : s.own = true) (ev : σV[i]? = some (some (.ref a))) (g : GrwX a F H F' H') (r : SRep K ct F' H' s' (.ref a)) (io : s'.io = s.io) : Stp K ct F H σV σ F' H' σV (σ.set i (some s')) := by
  have ow : Own σV σ a := ⟨i, s, e, so, ev⟩
  refine ⟨⟨g.le', fun j t ej => ?_, fun j k t t' b ej ek to to' bj bk => ?_, by simp; exact w.ln⟩, g.le, fun b q h n => g.keep b q (fun z => n (z ▸ ow)) h, g.there, fun b z => ?_, fun b z => ?_, fun j t ej tio => ?_, by simp⟩
  · rcases set_get ej with ⟨rfl, rfl⟩ | ⟨hj, fj⟩
    · exact ⟨_, ev, r⟩
    · obtain ⟨v', e1, r1⟩ := w.slot j t fj
      refine ⟨v', e1, r1.keep g.le fun to b eb => ?_⟩
      subst eb
      have nb : b ≠ a := fun z => by subst z; exact hj (w.dis j i t s b fj e to so e1 ev)
      obtain ⟨fb, u, hb, nt⟩ := w.own ⟨j, t, fj, to, e1⟩
      refine ⟨?_, (g.keep b u nb hb).trans hb.symm⟩
      cases q : F' b with
      | none => rfl
      | some o =>
        rcases g.froz b (by rw [q]; simp) with z | z | ⟨xs, z⟩
        · exact absurd fb z
        · rw [hb] at z; cases z
        · rw [hb] at z; cases z; exact absurd rfl (nt xs)
  · have old : ∀ {j : Nat} {t : S}, (σ.set i (some s'))[j]? = some (some t) → t.own = true → ∃ u, σ[j]? = some (some u) ∧ u.own = true := fun {j t} ej to => by
      rcases set_get ej with ⟨rfl, rfl⟩ | ⟨_, fj⟩
      · exact ⟨s, e, so⟩
      · exact ⟨t, fj, to⟩
    obtain ⟨u, fj, uo⟩ := old ej to
    obtain ⟨u', fk, uo'⟩ := old ek to'
    exact w.dis j k u u' b fj fk uo uo' bj bk
  · rcases g.froz b z with z | z | z
    · exact .inl z
    · exact .inr (.inl z)
    · exact .inr (.inr (.inr z))
  · obtain ⟨j, t, ej, to, bj⟩ := z
    rcases set_get ej with ⟨rfl, rfl⟩ | ⟨_, fj⟩
    · exact .inl ⟨j, s, e, so, bj⟩
    · exact .inl ⟨j, t, fj, to, bj⟩
  · by_cases hj : j = i
    · subst hj
      rw [e] at ej; cases ej
      exact ⟨⟨s', by rw [List.getElem?_set_self (List.getElem?_eq_some_iff.mp e).1], by rw [io]; exact tio⟩, rfl⟩
    · exact ⟨⟨t, by rw [List.getElem?_set_ne (Ne.symm hj)]; exact ej, tio⟩, rfl⟩
theorem sf_callI {g : S → List D → Option (S × S)} (F : FnOk X.prog X.w X.K X.mg X.base CX0 k f fd ps (spI X.K ct n g)) (hr : Room k X.A) (hg : Gl X x) (hm : X.mg x = some (.ref f)) (hk : PySem.W.keepIn X.K (.ref f) = true) (hb : Binds X.K fd ps []) (h0 : PE X e (tVar i)) (ha : SEs X ct es ms)
    (hdb : (x == ("__debug__" : Str)) = false := by decide) (he : starEach (e :: es) X.env = (false, eval e X.env) :: starEach es X.env := by rfl) (hpl : (backTo pos (starEach es X.env)).any (·.1) = false := by rfl) : SF X ct (.Call (.Name x p) (e :: es) [] pos) (mCallI i n g ms) :=
  PEimp (pe_call (E := fun _ _ _ => False) F hr hg hm hk hb .nil (fun _ _ _ _ _ _ _ h => h.elim) (pa_cons h0 ha he) hdb he hpl) fun σV H Q ⟨F, σ, w, s, σ', e, q⟩ => by
  unfold mCallI at e
  split at e
  · rename_i s00 h00
    split at e
    · rename_i ds σ1 h1
      split at e
      · rename_i s0 h0'
        split at e
        · rename_i hc
          rw [Bool.and_eq_true, decide_eq_true_eq] at hc
          split at e
          · rename_i s' s1 hg'
            cases e
            obtain ⟨v0, ev0, _⟩ := w.slot i _ h00
            refine ⟨v0, ev0, tL_ok (F := F) (H := H) w h1 fun vs H1 F1 st rs => ?_⟩
            show spI X.K ct n g ((v0 :: vs) ++ []) H1 Q _
            rw [List.append_nil]
            obtain ⟨v1, ev1, r1⟩ := st.w.slot i _ h0'
            rw [ev0] at ev1; cases ev1
            obtain ⟨a, u, rfl, fa, ha', _⟩ := r1.ref hc.1
            refine ⟨F1, a, vs, ds, s0, s, s1, rfl, st.w.le, hc.1, r1, hc.2, rs, hg', fun v F2 H2 gr rv so rr => ?_⟩
            have st2 := Stp.wrX (s' := s1.setIo s0.io) st.w h0' hc.1 ev0 gr (setIo_rep.mpr rr) (setIo_io so)
            refine q v H2 F2 (st.trans st2) ?_
            have noown : ∀ c, H1 c = none → ¬ Own σV (σ1.set i (some (s1.setIo s0.io))) c := fun c hc1 o => by
              rcases st2.own c o with z | z
              · obtain ⟨_, u, z2, _⟩ := st.w.own z; rw [hc1] at z2; cases z2
              · obtain ⟨_, u, z2, _⟩ := st2.w.own o
                obtain ⟨j, t, ej, to, aj⟩ := o
                rcases set_get ej with ⟨rfl, rfl⟩ | ⟨_, fj⟩
                · rw [ev0] at aj; cases aj; rw [ha'] at hc1; cases hc1
                · obtain ⟨_, u', z3, _⟩ := st.w.own ⟨j, t, fj, to, aj⟩; rw [hc1] at z3; cases z3
            cases s with
            | prv => exact rv.elim
            | imm d => exact rv
            | ls b l => obtain ⟨hb', c, ws, ec, hc1, hc2, hc3, r⟩ := rv; exact ⟨hb', ⟨c, ws, ec, hc2, hc3, r⟩, fun c' ec' => by rw [ec] at ec'; cases ec'; exact ⟨noown c hc1, .inl (st.there c hc1)⟩⟩
            | ds b t l => obtain ⟨hb', c, ws, ec, hc1, hc2, hc3, r⟩ := rv; exact ⟨hb', ⟨c, ws, ec, hc2, hc3, r⟩, fun c' ec' => by rw [ec] at ec'; cases ec'; exact ⟨noown c hc1, .inl (st.there c hc1)⟩⟩
          · cases e
        · cases e
      · cases e
    · cases e
  · cases e
end
end Ev
end

section
set_option Elab.async false
set_option linter.all false
/-! EvR: a def as one fact: it may be called by its name and answers as its mirror. -/
namespace Ev
open PySem PySem.Spec L2
set_option autoImplicit false
theorem roomU {k : Nat} {A : Around} (r : Room k A) : A.units + 65 < cLine := by have := r.un; omega
theorem roomU64 {k : Nat} {A : Around} (r : Room k A) : A.units + 64 < cLine := by have := r.un; omega
theorem roomU1 {k : Nat} {A : Around} (r : Room k A) : A.units + 1 < cLine := by have := r.un; omega
structure CalV (P : Program) (w : World) (K : PySem.W.Frag) (mg : Str → Option Value) (base : Heap) (ct : Ct) (k : Nat) (x : Str) (n : Nat) (g : List D → Option S) : Prop where
  ex : ∃ (f : Addr) (fd : FuncData) (ps : List Str), FnOk P w K mg base CX0 k f fd ps (spV K ct n g) ∧ mg x = some (.ref f) ∧ PySem.W.keepIn K (.ref f) = true ∧ Binds K fd ps []
structure CalI (P : Program) (w : World) (K : PySem.W.Frag) (mg : Str → Option Value) (base : Heap) (ct : Ct) (k : Nat) (x : Str) (n : Nat) (g : S → List D → Option (S × S)) : Prop where
  ex : ∃ (f : Addr) (fd : FuncData) (ps : List Str), FnOk P w K mg base CX0 k f fd ps (spI K ct n g) ∧ mg x = some (.ref f) ∧ PySem.W.keepIn K (.ref f) = true ∧ Binds K fd ps []
section
variable {P : Program} {w : World} {K : PySem.W.Frag} {mg : Str → Option Value} {base : Heap} {x qual : Str} {params : Arguments} {body : List Stmt} {scope : Scope} {f : Addr} {fd : FuncData} {N ps : List Str} {k n : Nat} {ct : Ct} {m : M Fl}
theorem mkV (F : FunD K x x params body scope [] [] f fd) (hm : mg x = some (.ref f)) (S : FnScope N ps scope) (hn : ps.length = n)
    (b : ∀ (kV doc pm : Value) (an : Option Addr) (cdv ct : Value) (us : List Value), us.length = ps.length → bindArgs (PySem.W.fnOf x x params body scope .none kV doc pm an cdv ct) ⟨us, []⟩ = pure (ps.zip us))
    (hb : ∀ (cdv : Value) (A : Around) (outer : List Env) (s : Shared) (H : Hp) (E : XK), Room k (A.deeper (PyProof.Rows.envOfC x scope s.heap.objs.size f cdv)) → SSs (cxOf CX0 P w K mg base N x scope f cdv A outer s H E).nox ct body m) :
    CalV P w K mg base ct (k + 1) x n (runV N.length m) := ⟨f, fd, ps, fokV F S hn hb, hm, F.kp, F.bindsN b⟩
theorem mkI (F : FunD K x x params body scope [] [] f fd) (hm : mg x = some (.ref f)) (S : FnScope N ps scope) (hn : ps.length = n)
    (b : ∀ (kV doc pm : Value) (an : Option Addr) (cdv ct : Value) (us : List Value), us.length = ps.length → bindArgs (PySem.W.fnOf x x params body scope .none kV doc pm an cdv ct) ⟨us, []⟩ = pure (ps.zip us))
    (hb : ∀ (cdv : Value) (A : Around) (outer : List Env) (s : Shared) (H : Hp) (E : XK), Room k (A.deeper (PyProof.Rows.envOfC x scope s.heap.objs.size f cdv)) → SSs (cxOf CX0 P w K mg base N x scope f cdv A outer s H E).nox ct body m) :
    CalI P w K mg base ct (k + 1) x n (runI N.length m) := ⟨f, fd, ps, fokI F S hn hb, hm, F.kp, F.bindsN b⟩
end
section
variable {X : Cx} {ct : Ct} {n k j i : Nat} {x : Str} {p pos : Pos} {e : Expr} {es : List Expr} {ms : List (M D)}
theorem sf_cl {g : List D → Option S} (C : CalV X.prog X.w X.K X.mg X.base ct k x n g) (hr : Room j X.A) (hj : k ≤ j) (hg : Gl X x) (ha : SEs X ct (e :: es) ms)
    (hdb : (x == ("__debug__" : Str)) = false := by decide) (he : starEach (e :: es) X.env = (false, eval e X.env) :: starEach es X.env := by rfl) (hpl : (backTo pos (starEach es X.env)).any (·.1) = false := by rfl) : SF X ct (.Call (.Name x p) (e :: es) [] pos) (mCall n g ms) := by
  obtain ⟨f, fd, ps, h1, h2, h3, h4⟩ := C.ex
  exact sf_call (E := E0) h1 (hr.mono hj) hg h2 h3 h4 ha hdb he hpl
theorem sf_clI {g : S → List D → Option (S × S)} (C : CalI X.prog X.w X.K X.mg X.base ct k x n g) (hr : Room j X.A) (hj : k ≤ j) (hg : Gl X x) (h0 : PE X e (tVar i)) (ha : SEs X ct es ms)
    (hdb : (x == ("__debug__" : Str)) = false := by decide) (he : starEach (e :: es) X.env = (false, eval e X.env) :: starEach es X.env := by rfl) (hpl : (backTo pos (starEach es X.env)).any (·.1) = false := by rfl) : SF X ct (.Call (.Name x p) (e :: es) [] pos) (mCallI i n g ms) := by
  obtain ⟨f, fd, ps, h1, h2, h3, h4⟩ := C.ex
  exact sf_callI h1 (hr.mono hj) hg h2 h3 h4 h0 ha hdb he hpl
end
end Ev
end

section
set_option Elab.async false
set_option linter.all false
/-! EvW: the class Web: its instances, isinstance. -/
namespace Ev
open PySem PySem.Spec L2
set_option autoImplicit false
def ctW (C : Addr) : Ct := fun _ => (C, ["tops", "lots", "known"])
theorem ctw_lt {C : Addr} {i j : Nat} {f : Str} (h : ∀ n, n < j → (["tops", "lots", "known"] : List Str)[n]? ≠ some f) : ∀ n, n < j → (ctW C i).2[n]? ≠ some f := h
def fIsW : D → Option S
  | .ins 0 _ => some (.imm (.bl true))
  | _ => none
section
variable {X : Cx} {C : Addr}
theorem sf_isW {e : Expr} {p pos p2 : Pos} {y : Str} {a : A} (hg : Gl X "isinstance") (hm : X.mg "isinstance" = none) (hgy : Gl X y) (hW : C8.InsC X.K C ∧ X.mg y = some (.ref C) ∧ PySem.W.keepIn X.K (.ref C) = true) (ha : AE X (ctW C) e a)
    (hdy : (y == ("__debug__" : Str)) = false := by decide) (hv : bootBuiltins "isinstance" = some (.builtin "isinstance") := by decide +kernel)
    (he : starEach [e, .Name y p2] X.env = (false, eval e X.env) :: starEach [.Name y p2] X.env := by rfl) (he2 : starEach [.Name y p2] X.env = (false, eval (.Name y p2) X.env) :: starEach [] X.env := by rfl) (hpl : (backTo pos (starEach [.Name y p2] X.env)).any (·.1) = false := by rfl) :
    SF X (ctW C) (.Call (.Name "isinstance" p) [e, .Name y p2] [] pos) (m1 fIsW a) :=
  PEimp (pe_callB (C8.call_isC hW.1) hg hm hv (pa_cons ha (pa_cons (pe_glob (v := .ref C) hgy hW.2.1 rfl hdy) pa_nil he2) he) (by decide) (by decide) he hpl) fun σV H Q ⟨F, σ, w, s, σ', e, q⟩ =>
    m1_ok (r := fun x H Q => ∃ a dx fs, [x, V.ref C] = [.ref a, .ref C] ∧ H a = some (.ins C dx fs) ∧ Q (.bl true) H) (fun F H d c x Q le hf rx q => by
      unfold fIsW at hf
      split at hf
      · rename_i l
        cases hf
        obtain ⟨a, dx, fs, rfl, h1, h2, h3, h4⟩ := rx
        exact ⟨a, dx, fs, rfl, le _ _ h1, q _ F H (Grw.refl le) rfl⟩
      · cases hf) w e q
end
end Ev
end

section
set_option Elab.async false
set_option linter.all false
/-! EvU: statements while things of their own stand that no slot has: a root behind a slot (prv), and what hangs on it. -/
namespace Ev
open PySem PySem.Spec L2
set_option autoImplicit false
abbrev Pv := List (Addr × HO)
def PvOk (F H : Hp) (σV : St) (σ : Fr) (L : Pv) : Prop := ∀ p ∈ L, H p.1 = some p.2 ∧ F p.1 = none ∧ ¬ Own σV σ p.1 ∧ ∀ xs, p.2 ≠ .tup xs
abbrev MU (R : Type) := Fr → R → Option (Fl × Fr × R)
section
variable {K : PySem.W.Frag} {ct : Ct} {F0 H0 F H F' H' : Hp} {σV0 σV σV' : St} {σ0 σ σ' : Fr} {R : Type} {I : Hp → R → Pv → Prop} {L : Pv} {r : R} {j : Nat}
theorem PvOk.stp (h : PvOk F H σV σ L) (st : Stp K ct F H σV σ F' H' σV' σ') : PvOk F' H' σV' σ' L := fun p hp => by
  obtain ⟨h1, h2, h3, h4⟩ := h p hp
  obtain ⟨k1, k2, k3⟩ := st.apart h1 h2 h3 h4
  exact ⟨k1, k2, k3, h4⟩
structure UW (K : PySem.W.Frag) (ct : Ct) {R : Type} (I : Hp → R → Pv → Prop) (j : Nat) (F0 H0 : Hp) (σV0 : St) (σ0 : Fr) (F H : Hp) (σV : St) (σ : Fr) (r : R) (L : Pv) : Prop where
  st : Stp K ct F0 H0 σV0 σ0 F H σV σ
  pv : PvOk F H σV σ L
  nw : ∀ p ∈ L, H0 p.1 = none
  iv : I F r L
  nb : ∀ s, σ0[j]? = some (some s) → s.io = false
  rt : (∃ s, σ[j]? = some (some s) ∧ s.io = true) ∧ ∃ a, σV[j]? = some (some (.ref a)) ∧ L.head?.map (·.1) = some a
theorem UW.step (hI : ∀ F F' r L, Le F F' → I F r L → I F' r L) (u : UW K ct I j F0 H0 σV0 σ0 F H σV σ r L) (st : Stp K ct F H σV σ F' H' σV' σ') : UW K ct I j F0 H0 σV0 σ0 F' H' σV' σ' r L := by
  obtain ⟨⟨s, e, io⟩, a, ev, hd⟩ := u.rt
  obtain ⟨⟨s', e', io'⟩, ev'⟩ := st.io j s e io
  exact ⟨u.st.trans st, u.pv.stp st, u.nw, hI _ _ _ _ st.le u.iv, u.nb, ⟨s', e', io'⟩, a, ev'.trans ev, hd⟩
/-- one of them is changed -/
theorem UW.poke (u : UW K ct I j F0 H0 σV0 σ0 F H σV σ r L) {a : Addr} {o o' : HO} {r' : R} {L' : Pv} (ha : (a, o) ∈ L) (hn : ∀ xs, o' ≠ .tup xs) (hL : ∀ p ∈ L', (p.1 = a ∧ p.2 = o') ∨ (p ∈ L ∧ p.1 ≠ a)) (hI : I F r' L') (hh : L'.head?.map (·.1) = L.head?.map (·.1)) :
    UW K ct I j F0 H0 σV0 σ0 F (upd H a o') σV σ r' L' := by
  obtain ⟨h1, h2, h3, h4⟩ := u.pv _ ha
  refine ⟨u.st.poke (u.nw _ ha) h2 h3, fun p hp => ?_, fun p hp => ?_, hI, u.nb, ?_⟩
  · rcases hL p hp with ⟨e1, e2⟩ | ⟨hp, ne⟩
    · rw [e1, e2]; exact ⟨upd_same, h2, h3, hn⟩
    · obtain ⟨k1, k2, k3, k4⟩ := u.pv p hp
      exact ⟨by rw [upd_ne ne]; exact k1, k2, k3, k4⟩
  · rcases hL p hp with ⟨e1, e2⟩ | ⟨hp, ne⟩
    · rw [e1]; exact u.nw _ ha
    · exact u.nw p hp
  · rw [hh]; exact u.rt
/-- a new one is laid -/
theorem UW.lay (u : UW K ct I j F0 H0 σV0 σ0 F H σV σ r L) {a : Addr} {o' : HO} {r' : R} {L' : Pv} (ha : H a = none) (hn : ∀ xs, o' ≠ .tup xs) (hL : ∀ p ∈ L', (p.1 = a ∧ p.2 = o') ∨ p ∈ L) (hI : I F r' L') (hh : L'.head?.map (·.1) = L.head?.map (·.1)) :
    UW K ct I j F0 H0 σV0 σ0 F (upd H a o') σV σ r' L' := by
  have no : ¬ Own σV σ a := fun z => by obtain ⟨_, x, z, _⟩ := u.st.w.own z; rw [ha] at z; cases z
  refine ⟨u.st.trans (Stp.lay u.st.w ha), fun p hp => ?_, fun p hp => ?_, hI, u.nb, ?_⟩
  · rcases hL p hp with ⟨e1, e2⟩ | hp
    · rw [e1, e2]; exact ⟨upd_same, u.st.w.le.none ha, no, hn⟩
    · obtain ⟨k1, k2, k3, k4⟩ := u.pv p hp
      exact ⟨by rw [upd_ne fun z => by rw [z] at k1; rw [ha] at k1; cases k1]; exact k1, k2, k3, k4⟩
  · rcases hL p hp with ⟨e1, e2⟩ | hp
    · rw [e1]; exact u.st.there a ha
    · exact u.nw p hp
  · rw [hh]; exact u.rt
end
def rdU (X : Cx) (ct : Ct) {R : Type} (I : Hp → R → Pv → Prop) (j : Nat) (m : MU R) : TS := fun D σV H => ∃ F0 H0 σV0 σ0 F σ r L, UW X.K ct I j F0 H0 σV0 σ0 F H σV σ r L ∧ ∃ f σ' r', m σ r = some (f, σ', r') ∧
  ∀ v σV' H' F' L', UW X.K ct I j F0 H0 σV0 σ0 F' H' σV' σ' r' L' → Le F F' → FlR X.K ct H0 σV0 σ0 F' H' σV' σ' f v → D.to f v σV' H'
abbrev US (X : Cx) (ct : Ct) {R : Type} (I : Hp → R → Pv → Prop) (j : Nat) (st : Stmt) (m : MU R) : Prop := PS X st (rdU X ct I j m)
abbrev USs (X : Cx) (ct : Ct) {R : Type} (I : Hp → R → Pv → Prop) (j : Nat) (st : List Stmt) (m : MU R) : Prop := PSs X st (rdU X ct I j m)
section
variable {R : Type}
def uL (m : M Fl) : MU R := fun σ r => match m σ with
  | some (f, σ') => some (f, σ', r)
  | none => none
def uNx : MU R := fun σ r => some (.nx, σ, r)
def uSeq (m n : MU R) : MU R := fun σ r => match m σ r with
  | some (.nx, σ', r') => n σ' r'
  | some (.br, σ', r') => some (.br, σ', r')
  | some (.ct, σ', r') => some (.ct, σ', r')
  | some (.rt s, σ', r') => some (.rt s, σ', r')
  | none => none
def uIf (t : M Bool) (m n : MU R) : MU R := fun σ r => match t σ with
  | some (true, σ') => m σ' r
  | some (false, σ') => n σ' r
  | none => none
def lpU (T : Tg) (b : MU R) : List D → MU R
  | [], σ, r => some (.nx, σ, r)
  | d :: ds, σ, r => match T.put d σ with
    | some σ1 => (match b σ1 r with
      | some (.nx, σ2, r2) => lpU T b ds σ2 r2
      | some (.ct, σ2, r2) => lpU T b ds σ2 r2
      | some (.br, σ2, r2) => some (.nx, σ2, r2)
      | some (.rt s, σ2, r2) => some (.rt s, σ2, r2)
      | none => none)
    | none => none
def uFor (it : MI) (T : Tg) (b : MU R) : MU R := fun σ r => match it σ with
  | some (ds, σ1) => lpU T b ds σ1 r
  | none => none
variable {X : Cx} {ct : Ct} {I : Hp → R → Pv → Prop} {j : Nat} {pos : Pos} {st : Stmt} {rest body orelse : List Stmt} {tg iter c : Expr} {m n : MU R}
theorem us_lift {m : M Fl} (hI : ∀ F F' r L, Le F F' → I F r L → I F' r L) (h : SS X ct st m) : US X ct I j st (uL m) := PSimp h fun D σV H ⟨F0, H0, σV0, σ0, F, σ, r, L, u, f, σ', r', e, q⟩ => by
  unfold uL at e
  split at e
  · rename_i f1 σ1 h1
    cases e
    exact ⟨F, σ, u.st.w, _, _, h1, fun v σV' H' F' st' rr => q v σV' H' F' L (u.step hI st') st'.le (rr.step u.st)⟩
  · cases e
theorem uss_nil : USs X ct I j [] uNx := PSsimp pss_nil fun D σV H ⟨F0, H0, σV0, σ0, F, σ, r, L, u, f, σ', r', e, q⟩ => by
  cases e
  exact q .non σV H F L u (Le.refl F) rfl
theorem uss_one (h : US X ct I j st m) : USs X ct I j [st] m := pss_one h
theorem uss_cons (h : US X ct I j st m) (hs : USs X ct I j rest n) : USs X ct I j (st :: rest) (uSeq m n) := PSsimp (pss_cons h hs) fun D σV H ⟨F0, H0, σV0, σ0, F, σ, r, L, u, f, σ', r', e, q⟩ => by
  unfold uSeq at e
  split at e
  · rename_i σ1 r1 h1
    exact ⟨F0, H0, σV0, σ0, F, σ, r, L, u, _, _, _, h1, fun v σV1 H1 F1 L1 u1 le1 _ => ⟨F0, H0, σV0, σ0, F1, σ1, r1, L1, u1, _, _, _, e, fun v2 σV2 H2 F2 L2 u2 le2 rr => q v2 σV2 H2 F2 L2 u2 (le1.trans le2) rr⟩⟩
  all_goals first
    | (rename_i h1; cases e; exact ⟨F0, H0, σV0, σ0, F, σ, r, L, u, _, _, _, h1, fun v σV1 H1 F1 L1 u1 le1 rr => q v σV1 H1 F1 L1 u1 le1 rr⟩)
    | cases e
theorem us_if {t : M Bool} (hI : ∀ F F' r L, Le F F' → I F r L → I F' r L) (hc : ST X ct c t) (ha : USs X ct I j body m) (hb : USs X ct I j orelse n) : US X ct I j (.If c body orelse pos) (uIf t m n) := PSimp (ps_if hc ha hb) fun D σV H ⟨F0, H0, σV0, σ0, F, σ, r, L, u, f, σ', r', e, q⟩ => by
  unfold uIf at e
  split at e
  · rename_i σ1 h1
    refine ⟨F, σ, u.st.w, _, _, h1, fun H1 F1 st1 => iteT ?_⟩
    exact ⟨F0, H0, σV0, σ0, F1, σ1, r, L, u.step hI st1, _, _, _, e, fun v2 σV2 H2 F2 L2 u2 le2 rr => q v2 σV2 H2 F2 L2 u2 (st1.le.trans le2) rr⟩
  · rename_i σ1 h1
    refine ⟨F, σ, u.st.w, _, _, h1, fun H1 F1 st1 => iteF ?_⟩
    exact ⟨F0, H0, σV0, σ0, F1, σ1, r, L, u.step hI st1, _, _, _, e, fun v2 σV2 H2 F2 L2 u2 le2 rr => q v2 σV2 H2 F2 L2 u2 (st1.le.trans le2) rr⟩
  · cases e
theorem us_for {it : MI} {T : Tg} {b : MU R} (hI : ∀ F F' r L, Le F F' → I F r L → I F' r L) (hp : PassesOwn (model X.prog X.w) X.A X.env X.xe) (hc : X.calm = true) (hi : SI X ct tg iter it) (hg : SG X ct tg T) (hb : USs X ct I j body b)
    (hs : ∀ x, foldedSetIterable iter X.env x = pure x := by intro _; rfl) : US X ct I j (.For tg iter body [] pos) (uFor it T b) := PSimp (ps_for hp hc hi hg hb hs) fun D σV H ⟨F0, H0, σV0, σ0, F, σ, r, L, u, f, σ', r', e, q⟩ => by
  unfold uFor at e
  split at e
  · rename_i ds σ1 h1
    refine ⟨F, σ, u.st.w, ds, σ1, h1, fun J H1 F1 st1 ⟨G, Y, wk, hG, hY⟩ => ?_⟩
    refine for_it wk (fun i σVi Hi => ∃ Fi σi ri Li, UW X.K ct I j F0 H0 σV0 σ0 Fi Hi σVi σi ri Li ∧ Le F1 Fi ∧ lpU T b (ds.drop i) σi ri = some (f, σ', r')) ⟨F1, σ1, r, L, u.step hI st1, Le.refl F1, e⟩ (fun i σVi Hi _ ⟨Fi, σi, ri, Li, ui, lei, _⟩ => hG Hi (lei.trans ui.st.w.le)) ?_ ?_
    · rintro i x σVi Hi H' hlt ⟨Fi, σi, ri, Li, ui, lei, hl⟩ y
      obtain ⟨F3, d, gr, hd, rd⟩ := hY Fi i Hi x H' lei ui.st.w.le hlt y
      rw [drop_at hd] at hl
      have u3 := ui.step hI (gr.stp ui.st.w)
      simp only [lpU] at hl
      split at hl
      · rename_i σ2 h2
        refine ⟨F3, σi, d, σ2, u3.st.w, rd, h2, fun σV2 st2 _ => ?_⟩
        have u4 := u3.step hI st2
        have le4 := lei.trans gr.le
        have le5 := st1.le.trans le4
        split at hl
        · rename_i σ3 r3 h3
          exact ⟨F0, H0, σV0, σ0, F3, σ2, ri, Li, u4, _, _, _, h3, fun v σV3 H3 F3' L3 u5 le6 rr => ⟨F3', _, _, L3, u5, le4.trans le6, hl⟩⟩
        · rename_i σ3 r3 h3
          exact ⟨F0, H0, σV0, σ0, F3, σ2, ri, Li, u4, _, _, _, h3, fun v σV3 H3 F3' L3 u5 le6 rr => ⟨F3', _, _, L3, u5, le4.trans le6, hl⟩⟩
        · rename_i σ3 r3 h3
          cases hl
          exact ⟨F0, H0, σV0, σ0, F3, σ2, ri, Li, u4, _, _, _, h3, fun v σV3 H3 F3' L3 u5 le6 rr => q .non σV3 H3 F3' L3 u5 (le5.trans le6) rfl⟩
        · rename_i s σ3 r3 h3
          cases hl
          exact ⟨F0, H0, σV0, σ0, F3, σ2, ri, Li, u4, _, _, _, h3, fun v σV3 H3 F3' L3 u5 le6 rr => q v σV3 H3 F3' L3 u5 (le5.trans le6) rr⟩
        · cases hl
      · cases hl
    · rintro σVi Hi ⟨Fi, σi, ri, Li, ui, lei, hl⟩
      rw [List.drop_length] at hl
      simp only [lpU] at hl
      cases hl
      exact q .non σVi Hi Fi Li ui (st1.le.trans lei) rfl
  · cases e
end
end Ev
end

section
set_option Elab.async false
set_option linter.all false
/-! EvX: lists of own lists: laid, added to, frozen. -/
namespace Ev
open PySem PySem.Spec L2
set_option autoImplicit false
section
variable {K : PySem.W.Frag} {ct : Ct} {F0 H0 F H F' H' : Hp} {σV0 σV σV' : St} {σ0 σ σ' : Fr}
/-- a slot becomes the root's -/
theorem Stp.setP (st : Stp K ct F0 H0 σV0 σ0 F H σV σ) {i : Nat} {a : Addr} (h : okSet σ i = true) : Stp K ct F0 H0 σV0 σ0 F H (σV.set i (some (.ref a))) (σ.set i (some .prv)) where
  w := by
    have hi := okSet_lt h
    have hv : i < σV.length := Nat.lt_of_lt_of_le hi st.w.ln
    have sv : (σV.set i (some (V.ref a)))[i]? = some (some (.ref a)) := by rw [List.getElem?_set_self hv]
    have nv : ∀ j, j ≠ i → (σV.set i (some (V.ref a)))[j]? = σV[j]? := fun j hj => by rw [List.getElem?_set_ne (Ne.symm hj)]
    refine ⟨st.w.le, fun j t e => ?_, fun j k t t' b ej ek to to' aj ak => ?_, by simp; exact st.w.ln⟩
    · rcases set_get e with ⟨rfl, rfl⟩ | ⟨hj, e⟩
      · exact ⟨_, sv, a, rfl⟩
      · obtain ⟨u, e1, q⟩ := st.w.slot j t e
        exact ⟨u, by rw [nv j hj]; exact e1, q⟩
    · rcases set_get ej with ⟨rfl, rfl⟩ | ⟨hj, fj⟩
      · cases to
      · rcases set_get ek with ⟨rfl, rfl⟩ | ⟨hk, fk⟩
        · cases to'
        · rw [nv j hj] at aj
          rw [nv k hk] at ak
          exact st.w.dis j k t t' b fj fk to to' aj ak
  le := st.le
  keep := st.keep
  there := st.there
  froz := st.froz
  own := fun b ⟨j, t, ej, to, aj⟩ => by
    rcases set_get ej with ⟨rfl, rfl⟩ | ⟨hj, ej⟩
    · cases to
    · rw [List.getElem?_set_ne (Ne.symm hj)] at aj
      exact st.own b ⟨j, t, ej, to, aj⟩
  io := fun j t ej tio => by
    obtain ⟨⟨t', e', o'⟩, ev⟩ := st.io j t ej tio
    have hj : j ≠ i := fun z => by subst z; rw [okSet_io h t' e'] at o'; cases o'
    exact ⟨⟨t', by rw [List.getElem?_set_ne (Ne.symm hj)]; exact e', o'⟩, by rw [List.getElem?_set_ne (Ne.symm hj)]; exact ev⟩
  len := by simp; exact st.len
theorem own_setP {i : Nat} {a b : Addr} (h : Own (σV.set i (some (.ref a))) (σ.set i (some .prv)) b) : Own σV σ b := by
  obtain ⟨j, t, ej, to, aj⟩ := h
  rcases set_get ej with ⟨rfl, rfl⟩ | ⟨hj, ej⟩
  · cases to
  · rw [List.getElem?_set_ne (Ne.symm hj)] at aj
    exact ⟨j, t, ej, to, aj⟩
/-- the root's slot becomes a deep thing's -/
theorem Stp.unP (st : Stp K ct F0 H0 σV0 σ0 F H σV σ) {i : Nat} {d : D} {v : V} {s : S} (nb : ∀ s, σ0[i]? = some (some s) → s.io = false) (e : σ[i]? = some (some s)) (ev : σV[i]? = some (some v)) (r : DRep K ct F d v) : Stp K ct F0 H0 σV0 σ0 F H σV (σ.set i (some (.imm d))) where
  w := by
    refine ⟨st.w.le, fun j t e => ?_, fun j k t t' b ej ek to to' aj ak => ?_, by simp; exact st.w.ln⟩
    · rcases set_get e with ⟨rfl, rfl⟩ | ⟨hj, e⟩
      · exact ⟨v, ev, r⟩
      · exact st.w.slot j t e
    · rcases set_get ej with ⟨rfl, rfl⟩ | ⟨hj, fj⟩
      · cases to
      · rcases set_get ek with ⟨rfl, rfl⟩ | ⟨hk, fk⟩
        · cases to'
        · exact st.w.dis j k t t' b fj fk to to' aj ak
  le := st.le
  keep := st.keep
  there := st.there
  froz := st.froz
  own := fun b ⟨j, t, ej, to, aj⟩ => by
    rcases set_get ej with ⟨rfl, rfl⟩ | ⟨hj, ej⟩
    · cases to
    · exact st.own b ⟨j, t, ej, to, aj⟩
  io := fun j t ej tio => by
    obtain ⟨⟨t', e', o'⟩, ev⟩ := st.io j t ej tio
    have hj : j ≠ i := fun z => by subst z; rw [nb t ej] at tio; cases tio
    exact ⟨⟨t', by rw [List.getElem?_set_ne (Ne.symm hj)]; exact e', o'⟩, ev⟩
  len := by simp; exact st.len
theorem own_unP {i : Nat} {d : D} {b : Addr} (h : Own σV (σ.set i (some (.imm d))) b) : Own σV σ b := by
  obtain ⟨j, t, ej, to, aj⟩ := h
  rcases set_get ej with ⟨rfl, rfl⟩ | ⟨hj, ej⟩
  · cases to
  · exact ⟨j, t, ej, to, aj⟩
/-- a thing that no slot has is frozen -/
theorem Stp.frz1 (st : Stp K ct F0 H0 σV0 σ0 F H σV σ) {a : Addr} {o : HO} (fa : F a = none) (ha : H a = some o) (n1 : ¬ Own σV σ a) (n2 : H0 a = none) : Stp K ct F0 H0 σV0 σ0 (upd F a o) H σV σ where
  w := ⟨fun b q z => by
      by_cases hb : b = a
      · subst hb; rw [upd_same] at z; cases z; exact ha
      · rw [upd_ne hb] at z; exact st.w.le b q z, fun i s e => by
      obtain ⟨v, e1, r⟩ := st.w.slot i s e
      refine ⟨v, e1, r.keep (Le.laid fa) fun so b eb => ?_⟩
      subst eb
      have o : Own σV σ b := ⟨i, s, e, so, e1⟩
      have nb : b ≠ a := fun z => n1 (z ▸ o)
      exact ⟨by rw [upd_ne nb]; exact (st.w.own o).1, rfl⟩, st.w.dis, st.w.ln⟩
  le := st.le.trans (Le.laid fa)
  keep := st.keep
  there := st.there
  froz := fun b z => by
    by_cases hb : b = a
    · subst hb; exact .inr (.inl n2)
    · rw [upd_ne hb] at z; exact st.froz b z
  own := st.own
  io := st.io
  len := st.len
/-- all private things frozen -/
theorem Stp.frzL : ∀ {L : Pv} {F : Hp}, Stp K ct F0 H0 σV0 σ0 F H σV σ → PvOk F H σV σ L → (∀ p ∈ L, H0 p.1 = none) → (L.map (·.1)).Nodup → ∃ F', Stp K ct F0 H0 σV0 σ0 F' H σV σ ∧ Le F F' ∧ ∀ p ∈ L, F' p.1 = some p.2
  | [], F, st, _, _, _ => ⟨F, st, Le.refl F, fun p hp => by cases hp⟩
  | q :: L, F, st, pv, nw, nd => by
    obtain ⟨h1, h2, h3, h4⟩ := pv q (by simp)
    rw [List.map_cons, List.nodup_cons] at nd
    have st1 := st.frz1 h2 h1 h3 (nw q (by simp))
    obtain ⟨F', st', le, all⟩ := Stp.frzL (L := L) st1 (fun p hp => by
      obtain ⟨k1, k2, k3, k4⟩ := pv p (by simp [hp])
      exact ⟨k1, by rw [upd_ne fun z => nd.1 (by rw [← z]; exact List.mem_map_of_mem hp)]; exact k2, k3, k4⟩) (fun p hp => nw p (by simp [hp])) nd.2
    refine ⟨F', st', (Le.laid h2).trans le, fun p hp => ?_⟩
    rcases List.mem_cons.mp hp with rfl | hp
    · exact le _ _ upd_same
    · exact all p hp
end
/-! ### lists of lists -/
structure RwOk (K : PySem.W.Frag) (ct : Ct) (F : Hp) (r : List (List D)) (as : List Addr) (vss : List (List V)) : Prop where
  la : as.length = r.length
  lv : vss.length = r.length
  at_ : ∀ (i : Nat) (l : List D), r[i]? = some l → ∃ vs : List V, vss[i]? = some vs ∧ DReps K ct F l vs
def rowsL (as : List Addr) (vss : List (List V)) : Pv := as.zip (vss.map HO.lst)
def IR (K : PySem.W.Frag) (ct : Ct) (sh : Hp → Pv → Addr → Prop) (F : Hp) (r : List (List D)) (L : Pv) : Prop := ∃ pre p as vss, sh F pre p ∧ L = pre ++ (p, .lst (as.map V.ref)) :: rowsL as vss ∧ (L.map (·.1)).Nodup ∧ RwOk K ct F r as vss
section
variable {K : PySem.W.Frag} {ct : Ct} {F F' : Hp} {sh : Hp → Pv → Addr → Prop}
theorem RwOk.mono {r : List (List D)} {as : List Addr} {vss : List (List V)} (le : Le F F') (h : RwOk K ct F r as vss) : RwOk K ct F' r as vss := ⟨h.la, h.lv, fun i l e => by
  obtain ⟨vs, e1, r⟩ := h.at_ i l e
  exact ⟨vs, e1, DReps.mono le _ _ r⟩⟩
theorem IR.mono (hm : ∀ F F' pre p, Le F F' → sh F pre p → sh F' pre p) : ∀ F F' r L, Le F F' → IR K ct sh F r L → IR K ct sh F' r L := fun F F' r L le ⟨pre, p, as, vss, h1, h2, h3, h4⟩ => ⟨pre, p, as, vss, hm _ _ _ _ le h1, h2, h3, h4.mono le⟩
theorem rows_get {as : List Addr} {vss : List (List V)} {i : Nat} {a : Addr} {vs : List V} (h : as[i]? = some a) (k : vss[i]? = some vs) : (a, HO.lst vs) ∈ rowsL as vss := by
  refine List.mem_of_getElem? (i := i) ?_
  unfold rowsL
  rw [List.getElem?_zip_eq_some]
  exact ⟨h, by rw [List.getElem?_map, k]; rfl⟩
theorem rows_of {as : List Addr} {vss : List (List V)} {q : Addr × HO} (h : q ∈ rowsL as vss) : ∃ (i : Nat) (vs : List V), as[i]? = some q.1 ∧ vss[i]? = some vs ∧ q.2 = .lst vs := by
  obtain ⟨i, e⟩ := List.mem_iff_getElem?.mp h
  unfold rowsL at e
  rw [List.getElem?_zip_eq_some] at e
  obtain ⟨e1, e2⟩ := e
  rw [List.getElem?_map] at e2
  cases q3 : vss[i]? with
  | none => rw [q3] at e2; cases e2
  | some vs => rw [q3] at e2; exact ⟨i, vs, e1, q3, (Option.some.inj e2).symm⟩
theorem rows_keys {as : List Addr} {vss : List (List V)} (h : vss.length = as.length) : (rowsL as vss).map (·.1) = as := by
  unfold rowsL
  rw [List.map_fst_zip]
  simp [h]
end
/-! ### what ends with the root frozen -/
def rdX (X : Cx) (ct : Ct) {R : Type} (I : Hp → R → Pv → Prop) (j : Nat) (m : Fr → R → Option (Fl × Fr)) : TS := fun D σV H => ∃ F0 H0 σV0 σ0 F σ r L, UW X.K ct I j F0 H0 σV0 σ0 F H σV σ r L ∧ ∃ f σ', m σ r = some (f, σ') ∧
  ∀ v σV' H' F', Stp X.K ct F0 H0 σV0 σ0 F' H' σV' σ' → FlR X.K ct H0 σV0 σ0 F' H' σV' σ' f v → D.to f v σV' H'
abbrev UXs (X : Cx) (ct : Ct) {R : Type} (I : Hp → R → Pv → Prop) (j : Nat) (st : List Stmt) (m : Fr → R → Option (Fl × Fr)) : Prop := PSs X st (rdX X ct I j m)
def xSeq {R : Type} (m : MU R) (n : Fr → R → Option (Fl × Fr)) : Fr → R → Option (Fl × Fr) := fun σ r => match m σ r with
  | some (.nx, σ', r') => n σ' r'
  | some (.br, σ', _) => some (.br, σ')
  | some (.ct, σ', _) => some (.ct, σ')
  | some (.rt s, σ', _) => some (.rt s, σ')
  | none => none
def xFz (j : Nat) (m : M Fl) : Fr → List (List D) → Option (Fl × Fr) := fun σ r => match σ[j]? with
  | some (some .prv) => m (σ.set j (some (.imm (.lst (r.map D.lst)))))
  | _ => none
section
variable {R : Type} {X : Cx} {ct : Ct} {I : Hp → R → Pv → Prop} {j : Nat} {st : Stmt} {rest : List Stmt}
theorem uxs_cons {m : MU R} {n : Fr → R → Option (Fl × Fr)} (h : US X ct I j st m) (hs : UXs X ct I j rest n) : UXs X ct I j (st :: rest) (xSeq m n) := PSsimp (pss_cons h hs) fun D σV H ⟨F0, H0, σV0, σ0, F, σ, r, L, u, f, σ', e, q⟩ => by
  unfold xSeq at e
  split at e
  · rename_i σ1 r1 h1
    exact ⟨F0, H0, σV0, σ0, F, σ, r, L, u, _, _, _, h1, fun v σV1 H1 F1 L1 u1 le1 _ => ⟨F0, H0, σV0, σ0, F1, σ1, r1, L1, u1, _, _, e, q⟩⟩
  all_goals first
    | (rename_i h1; cases e; exact ⟨F0, H0, σV0, σ0, F, σ, r, L, u, _, _, _, h1, fun v σV1 H1 F1 L1 u1 le1 rr => q v σV1 H1 F1 u1.st rr⟩)
    | cases e
def sh0 : Hp → Pv → Addr → Prop := fun _ pre _ => pre = []
theorem sh0_mono : ∀ F F' pre p, Le F F' → sh0 F pre p → sh0 F' pre p := fun _ _ _ _ _ h => h
theorem hrd0 {j : Nat} : ∀ (F : Hp) (σV : St) (H : Hp) (pre : Pv) (p : Addr) (Q : VK), sh0 F pre p → (∀ q ∈ pre, H q.1 = some q.2) → (∃ a, σV[j]? = some (some (.ref a)) ∧ (pre ++ [(p, HO.lst [])]).head?.map (·.1) = some a) → Q (.ref p) H → tVar j σV H Q := fun F σV H pre p Q h _ ⟨a, e, hh⟩ q => by
  obtain rfl : pre = [] := h
  obtain rfl : p = a := by simpa using hh
  exact ⟨_, e, q⟩
theorem rows_reps {K : PySem.W.Frag} {F : Hp} : ∀ {r : List (List D)} {as : List Addr} {vss : List (List V)}, RwOk K ct F r as vss → (∀ p ∈ rowsL as vss, F p.1 = some p.2) → DReps K ct F (r.map D.lst) (as.map V.ref)
  | [], [], _, _, _ => rfl
  | [], _ :: _, _, h, _ => by have := h.la; simp at this
  | _ :: _, [], _, h, _ => by have := h.la; simp at this
  | l :: r, a :: as, vss, h, hf => by
    obtain ⟨vs, e, rr⟩ := h.at_ 0 l rfl
    cases vss with
    | nil => simp at e
    | cons ws vss =>
      obtain rfl : ws = vs := by simpa using e
      refine ⟨.ref a, as.map V.ref, rfl, ⟨a, ws, rfl, hf (a, .lst ws) (by simp [rowsL]), rr⟩, ?_⟩
      refine rows_reps (r := r) (vss := vss) ⟨by have := h.la; simpa using this, by have := h.lv; simpa using this, fun i l' e' => ?_⟩ fun p hp => hf p (by simp only [rowsL, List.map_cons, List.zip_cons_cons, List.mem_cons]; exact .inr hp)
      obtain ⟨us, e1, r1⟩ := h.at_ (i + 1) l' (by simpa using e')
      exact ⟨us, by simpa using e1, r1⟩
theorem uxs_fz {m : M Fl} (h : SSs X ct rest m) : UXs X ct (IR X.K ct sh0) j rest (xFz j m) := PSsimp h fun D σV H ⟨F0, H0, σV0, σ0, F, σ, r, L, u, f, σ', e, q⟩ => by
  unfold xFz at e
  split at e
  · rename_i h1
    obtain ⟨pre, p, as, vss, hsh, hL, nd, rw_⟩ := u.iv
    obtain rfl : pre = [] := hsh
    rw [List.nil_append] at hL
    obtain ⟨F', st', le, all⟩ := Stp.frzL u.st u.pv u.nw nd
    have rp : DRep X.K ct F' (.lst (r.map Ev.D.lst)) (.ref p) := ⟨p, _, rfl, all (p, .lst (as.map V.ref)) (by rw [hL]; simp), rows_reps (rw_.mono le) fun q hq => all q (by rw [hL]; simp [hq])⟩
    obtain ⟨_, a, ev, hh⟩ := u.rt
    rw [hL] at hh
    obtain rfl : p = a := by simpa using hh
    have st2 := st'.unP (d := .lst (r.map Ev.D.lst)) u.nb h1 ev rp
    exact ⟨F', _, st2.w, _, _, e, fun v σV2 H2 F2 st3 rr => q v σV2 H2 F2 (st2.trans st3) (rr.step st2)⟩
  · cases e
end
end Ev
end

section
set_option Elab.async false
set_option linter.all false
/-! EvY: [[] for x in ..], rows added to. -/
namespace Ev
open PySem PySem.Spec L2
set_option autoImplicit false
section
variable {X : Cx} {ct : Ct}
def tE0 : TE := fun σ H Q => ∀ l, H l = none → Q (.ref l) (upd H l (.lst []))
theorem pe_e0 {pos : Pos} : PE X (.List [] pos) tE0 := PEimp (pe_lst pa_nil) fun σV H Q q => ⟨Nat.zero_le _, q⟩
def rdRows (X : Cx) (ct : Ct) (it : MI) (T : Tg) (vs : List Nat) : TE := fun σV H Q => ∃ F σ, Wd X.K ct F H σV σ ∧ ∃ xs σ', mLc it T mYes (mC .non) vs σ = some (.ls false xs, σ') ∧
  ∀ (R : Addr) (as : List Addr) H' F', Stp X.K ct F H σV σ F' H' σV σ' → as.length = xs.length → PvOk F' H' σV σ' ((R, .lst (as.map V.ref)) :: as.map fun a => (a, HO.lst [])) → (R :: as).Nodup → (∀ a ∈ R :: as, H a = none) → Q (.ref R) H'
theorem own_shown {K : PySem.W.Frag} {F1 H1 Fi Hi : Hp} {σV : St} {σ1 σi : Fr} {vs : List Nat} (w1 : Wd K ct F1 H1 σV σ1) (sti : Stp K ct F1 H1 (wipe σV vs) (hide σ1 vs) Fi Hi (wipe σV vs) σi) {a : Addr} (ha : H1 a = none) (ni : ¬ Own (wipe σV vs) σi a) : ¬ Own σV (shown σi σ1 vs) a := fun o => by
  obtain ⟨j, t, ej, to, aj⟩ := o
  by_cases hj : j ∈ vs
  · rw [shown_get (by rw [sti.len, hide_len]), if_pos (by simpa using hj)] at ej
    obtain ⟨_, u, z2, _⟩ := w1.own ⟨j, t, ej, to, aj⟩; rw [ha] at z2; cases z2
  · rw [shown_get (by rw [sti.len, hide_len]), if_neg (by simpa using hj)] at ej
    exact ni ⟨j, t, ej, to, by rw [wipe_out hj]; exact aj⟩
theorem rows_imp {σV : St} {H : Hp} {Q : VK} {it : MI} {T : Tg} {vs : List Nat} (hT : ∀ i ∈ T.vs, i ∈ vs) (h : rdRows X ct it T vs σV H Q) :
    tLc (iRd X ct it) (gRd X.K ct T) (rdT X ct mYes) tE0 vs σV H Q := by
  obtain ⟨F, σ, w, s, σ', e, q⟩ := h
  unfold mLc at e
  split at e
  · rename_i ds σ1 h1
    split at e
    · rename_i hl
      split at e
      · rename_i all σe h2
        cases e
        refine ⟨F, σ, w, ds, σ1, h1, fun J H1 F1 st1 ⟨G, Y, wk, hG, hY⟩ R hR => ?_⟩
        have w1 := st1.w
        have wh : Wd X.K ct F1 H1 (wipe σV vs) (hide σ1 vs) := w1.hide
        have fR := w1.le.none hR
        have nR : ¬ Own (wipe σV vs) (hide σ1 vs) R := fun o => by obtain ⟨_, u, z, _⟩ := wh.own o; rw [hR] at z; cases z
        refine lc_it wk (fun i Hi => ∃ Fi σi as xs, Stp X.K ct F1 H1 (wipe σV vs) (hide σ1 vs) Fi Hi (wipe σV vs) σi ∧ Le F1 Fi ∧ PvOk Fi Hi (wipe σV vs) σi ((R, .lst (as.map V.ref)) :: as.map fun a => (a, HO.lst [])) ∧ (R :: as).Nodup ∧ (∀ a ∈ as, H1 a = none) ∧
          as.length ≤ i ∧ lpC T mYes (mC .non) vs (ds.drop i) σi = some (xs, σe) ∧ as.length + xs.length = s.length) ?_ (fun i Hi _ ⟨Fi, σi, _, _, sti, lei, _⟩ => hG Hi (lei.trans sti.w.le)) ?_ ?_
        · refine ⟨F1, hide σ1 vs, [], s, Stp.lay wh hR, Le.refl F1, fun p hp => ?_, by simp, (fun a ha => by cases ha), Nat.le_refl 0, h2, by simp⟩
          obtain rfl : p = (R, .lst []) := by simpa using hp
          exact ⟨upd_same, fR, nR, fun _ z => by cases z⟩
        · rintro i x Hi H' hlt ⟨Fi, σi, as, xs, sti, lei, pv, nd, nw, la, hp, ha⟩ y
          obtain ⟨F3, d, gr, hd, rd⟩ := hY Fi i Hi x H' lei sti.w.le hlt y
          rw [drop_at hd] at hp
          have g3 := gr.stp sti.w
          simp only [lpC] at hp
          split at hp
          · rename_i σ2 hp2
            refine ⟨F3, σi, d, σ2, g3.w, rd, hp2, fun σV2 st2 c2 => ?_⟩
            have ew : wipe σV2 vs = wipe σV vs := by rw [wipe_chg c2 hT, wipe_wipe]
            refine ⟨ew, ?_⟩
            simp only [mYes] at hp
            refine ⟨F3, σ2, st2.w, true, σ2, rfl, fun H4 F4 st4 => iteT ?_⟩
            simp only [mC] at hp
            split at hp
            · rename_i xs' σ5 h5
              cases hp
              intro l hl4
              have turn := g3.trans (st2.trans st4)
              have pv5 := pv.stp turn
              have tot := (sti.trans turn).forget ew
              have hR5 := (pv5 (R, .lst (as.map V.ref)) (by simp)).1
              have nl : ∀ b o, H4 b = some o → b ≠ l := fun b o e z => by rw [z, hl4] at e; cases e
              refine ⟨as.map V.ref, by rw [upd_ne (nl _ _ hR5)]; exact hR5, ?_, ?_⟩
              · have : ds.length ≤ sizeLine := by rw [← LIM_eq]; exact hl
                rw [List.length_map]; omega
              have fl4 : F4 l = none := st4.w.le.none hl4
              have no : ∀ a, ¬ Own σV2 σ2 a → ¬ Own (wipe σV vs) (hide σ2 vs) a := fun a n o => n (Own.of_hide (vs := vs) (ew ▸ o))
              have nol : ¬ Own (wipe σV vs) (hide σ2 vs) l := fun o => by obtain ⟨_, u, z, _⟩ := tot.w.own o; rw [hl4] at z; cases z
              have pR := pv5 (R, .lst (as.map V.ref)) (by simp)
              have tot3 := (tot.trans (Stp.lay tot.w hl4 (o := .lst []))).poke (p := R) (o := .lst (as.map V.ref ++ [.ref l])) hR pR.2.1 (no _ pR.2.2.1)
              have pa : ∀ a ∈ as, H4 a = some (.lst []) ∧ F4 a = none ∧ ¬ Own (wipe σV vs) (hide σ2 vs) a := fun a ha => by
                obtain ⟨k1, k2, k3, _⟩ := pv5 (a, .lst []) (by simp [ha])
                exact ⟨k1, k2, no _ k3⟩
              have nRl : R ≠ l := nl _ _ hR5
              rw [List.nodup_cons] at nd
              refine ⟨F4, hide σ2 vs, as ++ [l], xs', tot3, lei.trans turn.le, fun p hp => ?_, ?_, fun a ha => ?_, by simp; exact la, h5, by rw [← ha]; simp; omega⟩
              · rw [List.map_append, List.map_append] at hp
                rcases List.mem_cons.mp hp with rfl | hp
                · exact ⟨upd_same, pR.2.1, no _ pR.2.2.1, fun _ z => by cases z⟩
                rcases List.mem_append.mp hp with hp | hp
                · obtain ⟨a, ha', rfl⟩ := List.mem_map.mp hp
                  obtain ⟨k1, k2, k3⟩ := pa a ha'
                  exact ⟨by rw [upd_ne fun z => nd.1 (by rw [← z]; exact ha'), upd_ne (nl _ _ k1)]; exact k1, k2, k3, fun _ z => by cases z⟩
                · obtain rfl : p = (l, .lst []) := by simpa using hp
                  exact ⟨by rw [upd_ne nRl.symm, upd_same], fl4, nol, fun _ z => by cases z⟩
              · rw [List.nodup_cons, List.nodup_append]
                refine ⟨fun z => ?_, nd.2, by simp, fun a ha b hb => ?_⟩
                · rcases List.mem_append.mp z with z | z
                  · exact nd.1 z
                  · exact nRl (by simpa using z)
                · obtain rfl : b = l := by simpa using hb
                  exact nl _ _ (pa a ha).1
              · rcases List.mem_append.mp ha with ha | ha
                · exact nw a ha
                · obtain rfl : a = l := by simpa using ha
                  exact (sti.trans turn).there a hl4
            · cases hp
          · cases hp
        · rintro Hi ⟨Fi, σi, as, xs, sti, lei, pv, nd, nw, la, hp, ha⟩
          rw [List.drop_length] at hp
          simp only [lpC] at hp
          cases hp
          have tot := Stp.show w1 sti
          have hall : ∀ a ∈ R :: as, H1 a = none := fun a ha => by
            rcases List.mem_cons.mp ha with rfl | ha
            · exact hR
            · exact nw a ha
          refine q R as Hi Fi (st1.trans tot) (by simpa using ha) (fun p hp => ?_) nd fun a ha => st1.there a (hall a ha)
          obtain ⟨k1, k2, k3, k4⟩ := pv p hp
          refine ⟨k1, k2, own_shown w1 sti (hall _ ?_) k3, k4⟩
          rcases List.mem_cons.mp hp with rfl | hp
          · simp
          · obtain ⟨a, ha', rfl⟩ := List.mem_map.mp hp
            simp [ha']
      · cases e
    · cases e
  · cases e
end
end Ev
end

section
set_option Elab.async false
set_option linter.all false
/-! EvZ: rows laid under a name, rows added to. -/
namespace Ev
open PySem PySem.Spec L2
set_option autoImplicit false
def mRows (j : Nat) (it : MI) (T : Tg) (vs : List Nat) (n : Fr → List (List D) → Option (Fl × Fr)) : M Fl := fun σ => match mLc it T mYes (mC .non) vs σ with
  | some (.ls false xs, σ') => if okSet σ' j = true then n (σ'.set j (some .prv)) (xs.map fun _ => []) else none
  | _ => none
def uApp (mi me : M D) : MU (List (List D)) := fun σ r => match mi σ with
  | some (.int i, σ1) => (match me σ1 with
    | some (d, σ2) => (match ixN r.length i with
      | some k => (match r[k]? with
        | some l => if l.length < LIM then some (.nx, σ2, r.set k (l ++ [d])) else none
        | none => none)
      | none => none)
    | none => none)
  | _ => none
section
variable {X : Cx} {ct : Ct} {j : Nat} {pos spos apos ipos : Pos} {tg iter o k e : Expr} {rest : List Stmt} {scope : Scope} {own : List (Str × Nat)}
theorem rowsL_nil (as : List Addr) : rowsL as (as.map fun _ => []) = as.map fun a => (a, HO.lst []) := by
  unfold rowsL
  rw [List.map_map]
  induction as with
  | nil => rfl
  | cons a as ih => simp only [List.map_cons, List.zip_cons_cons, ih]; rfl
theorem sss_rows {y : Str} {py lpos : Pos} {it : MI} {T : Tg} {n : Fr → List (List D) → Option (Fl × Fr)} (hc : X.calm = true) (hN : X.N.Nodup) (hy : X.N[j]? = some y) (hyl : X.env.scope.names.lookup y = some .local)
    (hsw : swapsWith (.ListComp (.List [] lpos) [⟨tg, iter, [], 0⟩] scope pos) (some (.Name y py)) spos.line X.env = pure true) (hi : SI X ct tg iter it) (ok : BlkOk X.N X.env.scope scope own)
    (hg : ∀ (s : Shared) (H : Hp) (C : Addr) (cl : List (Str × Addr)) (fp : List Addr), SG (X.blk s H scope (compEnvC scope cl C X.env) fp) ct tg T) (hr : UXs X ct (IR X.K ct sh0) j rest n)
    (hT : ∀ i ∈ T.vs, i ∈ own.map (·.2) := by decide) (hs : ∀ x, foldedSetIterable iter X.env x = pure x := by intro _; rfl) :
    SSs X ct (.Assign [.Name y py] (.ListComp (.List [] lpos) [⟨tg, iter, [], 0⟩] scope pos) spos :: rest) (mRows j it T (own.map (·.2)) n) :=
  PSsimp (pss_cons (ps_setLc (wi := iRd X ct it) (g := gRd X.K ct T) (tt := rdT X ct mYes) (te := tE0) hc hN hy hyl hsw hi ok hg (fun _ _ _ _ _ => sts_nil (ct := ct)) (fun _ _ _ _ _ => pe_e0) hs) hr) fun D σV H ⟨F, σ, w, f, σ', e, q⟩ => by
  show tLc (iRd X ct it) (gRd X.K ct T) (rdT X ct mYes) tE0 (own.map (·.2)) σV H fun v H1 => rdX X ct (IR X.K ct sh0) j n D (σV.set j (some v)) H1
  refine rows_imp (X := X) (ct := ct) (it := it) (T := T) hT ?_
  unfold mRows at e
  split at e
  · rename_i xs σ1 h1
    split at e
    · rename_i ho
      refine ⟨F, σ, w, xs, σ1, h1, fun R as H1 F1 st1 hl pv nd nw => ?_⟩
      have hv : j < σV.length := Nat.lt_of_lt_of_le (okSet_lt ho) st1.w.ln
      refine ⟨F, H, σV, σ, F1, σ1.set j (some .prv), xs.map fun _ => [], (R, .lst (as.map V.ref)) :: rowsL as (as.map fun _ => []), ⟨st1.setP ho, fun p hp => ?_, fun p hp => ?_, ⟨[], R, as, as.map fun _ => [], rfl, rfl, ?_, ?_⟩, ?_, ?_⟩, f, σ', e, q⟩
      · rw [rowsL_nil] at hp
        obtain ⟨k1, k2, k3, k4⟩ := pv p hp
        exact ⟨k1, k2, fun o => k3 (own_setP o), k4⟩
      · rw [rowsL_nil] at hp
        rcases List.mem_cons.mp hp with rfl | hp
        · exact nw _ (by simp)
        · obtain ⟨a, ha, rfl⟩ := List.mem_map.mp hp
          exact nw _ (by simp [ha])
      · rw [List.map_cons, rows_keys (by simp)]; exact nd
      · refine ⟨by simp [hl], by simp [hl], fun i l e => ?_⟩
        rw [List.getElem?_map] at e
        cases q : xs[i]? with
        | none => rw [q] at e; cases e
        | some x =>
          rw [q] at e; cases e
          have hi : i < as.length := by rw [hl]; exact (List.getElem?_eq_some_iff.mp q).1
          exact ⟨[], by rw [List.getElem?_map, List.getElem?_eq_getElem hi]; rfl, rfl⟩
      · intro s hs'
        cases hio : s.io with
        | false => rfl
        | true =>
          obtain ⟨⟨s', e', io'⟩, _⟩ := st1.io j s hs' hio
          rw [okSet_io ho s' e'] at io'; cases io'
      · exact ⟨⟨.prv, by rw [List.getElem?_set_self (okSet_lt ho)], rfl⟩, R, by rw [List.getElem?_set_self hv], rfl⟩
    · cases e
  · cases e
theorem us_app {mi me : M D} {to : TE} {sh : Hp → Pv → Addr → Prop} (hm : ∀ F F' pre p, Le F F' → sh F pre p → sh F' pre p) (ho : PE X o to)
    (hrd : ∀ (F : Hp) (σV : St) (H : Hp) (pre : Pv) (p : Addr) (Q : VK), sh F pre p → (∀ q ∈ pre, H q.1 = some q.2) → (∃ a, σV[j]? = some (some (.ref a)) ∧ (pre ++ [(p, HO.lst [])]).head?.map (·.1) = some a) → Q (.ref p) H → to σV H Q)
    (hk : SE X ct k mi) (h : SE X ct e me) (hpx : PlainIx k)
    (hbase : attributeBase (.Subscript o k ipos) "append" X.env (eval (.Subscript o k ipos) X.env) = eval (.Subscript o k ipos) X.env := by rfl)
    (hfew : ((backTo pos (starEach [e] X.env)).all (fun x => !x.1) && (backToKw pos (keywordEach [] X.env)).all (fun x => x.1.isSome) && decide ([e].length + ([] : List Keyword).length + (if ([] : List Keyword).isEmpty then 0 else 1) < 30)) = true := by rfl)
    (hline : (apos.endLine == pos.line) = true := by rfl) (hs : starEach [e] X.env = (false, eval e X.env) :: starEach [] X.env := by rfl) (hplain : (backTo pos (starEach [] X.env)).any (·.1) = false := by rfl)
    (hsw : swapsWith (.Call (.Attribute (.Subscript o k ipos) "append" apos) [e] [] pos) none spos.line X.env = pure false := by rfl) :
    US X ct (IR X.K ct sh) j (.Expr (.Call (.Attribute (.Subscript o k ipos) "append" apos) [e] [] pos) spos) (uApp mi me) :=
  PSimp (ps_expr (pe_bm F.plainAttrs_list F.slot_list_append F.type_list_append mt_append (pe_ix ix_list ho hk hpx) (pa_cons h pa_nil hs) hbase hfew hline hs hplain) hsw) fun D σV H ⟨F0, H0, σV0, σ0, F, σ, r, L, u, f, σ', r', e, q⟩ => by
  have mono := IR.mono (K := X.K) (ct := ct) (sh := sh) hm
  unfold uApp at e
  split at e
  · rename_i i σ1 h1
    split at e
    · rename_i d σ2 h2
      split at e
      · rename_i n hn
        split at e
        · rename_i l hl
          split at e
          · rename_i hlen
            cases e
            obtain ⟨pre, p, as, vss, hsh, hL, nd, rw_⟩ := u.iv
            obtain ⟨_, a, ev, hh⟩ := u.rt
            have hpre : ∀ q ∈ pre, H q.1 = some q.2 := fun q hq => (u.pv q (by rw [hL]; simp [hq])).1
            refine hrd F σV H pre p _ hsh hpre ⟨a, ev, ?_⟩ ⟨F, σ, u.st.w, _, σ1, h1, fun iv H1 F1 st1 ri => ?_⟩
            · rw [hL] at hh
              cases pre with
              | nil => exact hh
              | cons x pre => exact hh
            have u1 := u.step mono st1
            obtain rfl : iv = .int i := ri
            have hp1 : H1 p = some (.lst (as.map V.ref)) := (u1.pv (p, _) (by rw [hL]; simp)).1
            obtain ⟨vs, hv, rl⟩ := rw_.at_ n l hl
            have hlt : n < as.length := by rw [rw_.la]; exact (List.getElem?_eq_some_iff.mp hl).1
            have han : as[n]? = some as[n] := List.getElem?_eq_getElem hlt
            have hmem : (as[n], HO.lst vs) ∈ L := by rw [hL]; simp [rows_get han hv]
            refine ⟨p, as.map V.ref, i, .ref as[n], rfl, rfl, SqL.of hp1, ?_, ?_⟩
            · show (ixN (as.map V.ref).length i).bind (fun j => (as.map V.ref)[j]?) = _
              rw [List.length_map, rw_.la, hn]
              show (as.map V.ref)[n]? = _
              rw [List.getElem?_map, han]; rfl
            refine ⟨.inl ⟨rfl, vs, SqL.of (u1.pv _ hmem).1⟩, F1, σ1, st1.w, d, _, h2, fun v H2 F2 st2 rv => ?_⟩
            have u2 := u1.step mono st2
            refine ⟨as[n], vs, v, rfl, rfl, (u2.pv _ hmem).1, by rw [← rl.length, ← LIM_eq]; exact hlen, ?_⟩
            have nd2 := nd
            rw [hL, List.map_append, List.map_cons, rows_keys (by rw [rw_.lv, rw_.la]), List.nodup_append] at nd2
            obtain ⟨nd3, nd4, nd5⟩ := nd2
            rw [List.nodup_cons] at nd4
            have le2 := st1.le.trans st2.le
            refine q .non σV _ F2 (pre ++ (p, .lst (as.map V.ref)) :: rowsL as (vss.set n (vs ++ [v]))) (u2.poke (o' := .lst (vs ++ [v])) hmem (fun _ z => by cases z) (fun x hx => ?_) ⟨pre, p, as, _, hm _ _ _ _ le2 hsh, rfl, ?_, ?_⟩ ?_) le2 rfl
            · rcases List.mem_append.mp hx with hx | hx
              · exact .inr ⟨by rw [hL]; simp [hx], fun z => nd5 _ (List.mem_map_of_mem hx) as[n] (by simp) z⟩
              rcases List.mem_cons.mp hx with rfl | hx
              · exact .inr ⟨by rw [hL]; simp, fun z => nd4.1 (by rw [show p = as[n] from z]; simp)⟩
              · obtain ⟨xa, xo⟩ := x
                obtain ⟨k', ws, e1, e2, e3⟩ := rows_of hx
                by_cases hk' : k' = n
                · subst hk'
                  rw [han] at e1; cases e1
                  rw [List.getElem?_set_self (by rw [rw_.lv, ← rw_.la]; exact hlt)] at e2; cases e2
                  exact .inl ⟨by simp_all, e3⟩
                · rw [List.getElem?_set_ne (Ne.symm hk')] at e2
                  refine .inr ⟨by rw [hL]; have := rows_get e1 e2; rw [← e3] at this; simp [this], fun z => hk' ?_⟩
                  rw [z, ← han] at e1
                  exact (List.getElem?_inj (List.getElem?_eq_some_iff.mp (e1.trans han)).1 nd4.2).mp e1
            · rw [List.map_append, List.map_cons, rows_keys (by rw [List.length_set, rw_.lv, rw_.la])]
              rw [hL, List.map_append, List.map_cons, rows_keys (by rw [rw_.lv, rw_.la])] at nd
              exact nd
            · refine ⟨by rw [List.length_set]; exact rw_.la, by rw [List.length_set, List.length_set]; exact rw_.lv, fun i' l' e' => ?_⟩
              by_cases hi : i' = n
              · subst hi
                rw [List.getElem?_set_self (List.getElem?_eq_some_iff.mp hl).1] at e'; cases e'
                exact ⟨_, by rw [List.getElem?_set_self (by rw [rw_.lv, ← rw_.la]; exact hlt)], DReps.append (DReps.mono le2 _ _ rl) (DReps.one rv)⟩
              · rw [List.getElem?_set_ne (Ne.symm hi)] at e'
                obtain ⟨ws, e1, r1⟩ := rw_.at_ i' l' e'
                exact ⟨ws, by rw [List.getElem?_set_ne (Ne.symm hi)]; exact e1, DReps.mono le2 _ _ r1⟩
            · rw [hL]
              cases pre with
              | nil => rfl
              | cons x pre => rfl
          · cases e
        · cases e
      · cases e
    · cases e
  · cases e
end
end Ev
end

section
set_option Elab.async false
set_option linter.all false
/-! EvT: {k: v for ..} with keys that are tuples: the block's walk for any kind of new dict (o0: how it begins, put: how one is added). -/
namespace Ev
open PySem PySem.Spec PyProof.Rows L2
set_option autoImplicit false
section
variable {X : Cx}
theorem d_addT {X : Cx} {pins : List (Addr × Obj)} {σ : L2.St} {H : Hp} {s : Shared} {E : Value → Shared → Prop} {A : Around} {R b : Addr} {kvs : List (List Key × V)} {k : List Key} {v : V} {r : Value} {Q : Unit → Shared → Prop} (hu : A.units < cLine) (I : Inv X pins σ H s) (hD : H R = some (.dT kvs)) (hz : kvs.length < sizeLine)
    (eb : H b = some (.tup (k.map kV))) (rv : RelV v r) (h : ∀ s', Inv X pins σ (upd H R (.dT (putK kvs k v))) s' → Q () s') : wpAny (model X.prog X.w) A (dictSet R (.ref b) r) Q E s := by
  obtain ⟨z, hd, xs, rel, dd⟩ := dt_of I.hok hD
  refine wpAny_dictSet_heap (hsz := by rw [← Paired.length rel]; exact z) (show (tupleKind (mixKind X.prog X.w)).room A from hu) (key_of I.hok eb) dd fun h' dd' hs => h _ ?_
  obtain ⟨q, es, ep, hq, h2, h3, h4, _, h5⟩ := dd'
  have le1 : (putK kvs k v).length ≤ sizeLine := Nat.le_trans (length_putK kvs k v) hz
  refine d_write I (by rw [hD]; trivial) hs ⟨q, hq⟩ ⟨le1, hd, _, (rel.put k eb rv).keeps fun c ys ec => ?_, q, es, ep, hq, h2, h3, h4, h5⟩
  rw [upd_ne (ne_of ec hD (fun z => nomatch z))]; exact ec
abbrev PutR := Addr → V → V → Hp → (Hp → Prop) → Prop
/-- the reading: o0 the new dict, put what a turn adds -/
def tDcG (o0 : HO) (put : PutR) (wi : TI) (g : TG) (tt : TT) (tk tv : TE) (vs : List Nat) : TE := fun σ H Q => wi σ H fun J H1 => ∀ R, H1 R = none → ∃ W : Nat → Nat → Hp → Prop, (∃ m, W 0 m (upd H1 R o0)) ∧ ∀ i m H, W i m H →
  (J.stop i H ∧ Q (.ref R) H) ∨ (J.go i H ∧ ∃ Nx : Hp → Prop, (∀ H', Nx H' → ∃ m', m' < m ∧ W (i + 1) m' H') ∧ ∀ x H', J.yld i H x H' → g x (wipe σ vs) H' fun σ2 H2 => wipe σ2 vs = wipe σ vs ∧ tt σ2 H2 fun b H3 =>
    if b = true then tk σ2 H3 fun y H4 => tv σ2 H4 fun z H5 => put R y z H5 Nx else Nx H3)
theorem pe_dcG {o0 : HO} {put : PutR} {kx vx tg iter : Expr} {ifs : List Expr} {scope : Scope} {own : List (Str × Nat)} {pos : Pos} {wi : TI} {g : TG} {tt : TT} {tk tv : TE} (hc : X.calm = true) (hN : X.N.Nodup) (hi : PI X tg iter wi) (ok : BlkOk X.N X.env.scope scope own)
    (hemp : ∀ (h : Heap) (H : Hp), sysModules < h.objs.size → ObjOk X.prog X.w H (h.push { cls := .type "dict", data := .dict #[] }) h.objs.size o0)
    (hput : ∀ (Y : Cx) (pins : List (Addr × Obj)) (σ : L2.St) (H : Hp) (s : Shared) (R : Addr) (y z : V) (u r : Value) (Nx : Hp → Prop) (Q : Unit → Shared → Prop) (E : Value → Shared → Prop), Y.prog = X.prog → Y.w = X.w → Y.A = X.A → Inv Y pins σ H s → put R y z H Nx → RelV y u → RelV z r → (∀ s' H', Inv Y pins σ H' s' → Nx H' → Q () s') → wpAny (model Y.prog Y.w) Y.A (dictSet R u r) Q E s)
    (hg : ∀ (s : Shared) (H : Hp) (C : Addr) (cl : List (Str × Addr)) (fp : List Addr), PG (X.blk s H scope (compEnvC scope cl C X.env) fp) tg g) (ht : ∀ (s : Shared) (H : Hp) (C : Addr) (cl : List (Str × Addr)) (fp : List Addr), PTs (X.blk s H scope (compEnvC scope cl C X.env) fp) ifs tt)
    (hk : ∀ (s : Shared) (H : Hp) (C : Addr) (cl : List (Str × Addr)) (fp : List Addr), PE (X.blk s H scope (compEnvC scope cl C X.env) fp) kx tk)
    (hv : ∀ (s : Shared) (H : Hp) (C : Addr) (cl : List (Str × Addr)) (fp : List Addr), PE (X.blk s H scope (compEnvC scope cl C X.env) fp) vx tv) (hs : ∀ x, foldedSetIterable iter X.env x = pure x) :
    PE X (.DictComp kx vx [⟨tg, iter, ifs, 0⟩] scope pos) (tDcG o0 put wi g tt tk tv (own.map (·.2))) := ⟨fun pins s σ H Q I h => by
  rw [arm_eval_DictComp]
  have cells : ∀ y ∈ scope.names, y.2 = .free → ∃ c, X.env.cells.lookup y.1 = some c := fun y hy e => (ok.free y hy e).elim (fun z => I.ok.has _ (.inl z)) fun z => I.ok.has _ (.inr z)
  refine wpAny_comprehension_free (use := none) rfl hs (closure_ok cells) ok.kind (fun y hy e => by rw [ok.uniq y hy, e]) (thn (hi.run pins s σ H _ I h) fun xv sa hx => thn hx fun itv sb hb => ?_)
  obtain ⟨it, fp, tn, J, Hb, rfl, Ib, T, tb, fb, q⟩ := hb
  refine wpAny_newObj_type (newEnv_comp ?_)
  have new0 : Hb sb.heap.objs.size = none := Ib.hok.fresh (Nat.le_refl _)
  obtain ⟨W, ⟨m0, w0⟩, turn⟩ := q _ new0
  generalize esc : ({ sb with heap := sb.heap.push { cls := .type "dict", data := .dict #[] } } : Shared) = sc
  have hc0 : sc.heap = sb.heap.push { cls := .type "dict", data := .dict #[] } := by rw [← esc]
  have Ic : Inv X pins σ (upd Hb sb.heap.objs.size o0) sc := by
    rw [← esc]
    exact Ib.laid (t' := sb.toks) (fun b o e => Heap.get?_push_of_some _ e) (Nat.le_refl _) (hemp sb.heap _ Ib.big)
  have fc : ∀ b ∈ fp, FpOk X pins (upd Hb sb.heap.objs.size o0) b ∧ b < sc.heap.objs.size := fun b hb => by
    obtain ⟨o, e, _⟩ := T.obj _ _ tb b hb
    have lt := Heap.lt_size e
    exact ⟨⟨by rw [upd_ne (Nat.ne_of_lt lt)]; exact (fb b hb).1, (fb b hb).2⟩, by rw [hc0, Heap.size_push]; exact Nat.lt_succ_of_lt lt⟩
  have tc : tn 0 sc.heap := T.keep _ _ _ tb fun b _ o e => by rw [hc0]; exact Heap.get?_push_of_some _ e
  generalize sb.heap.objs.size = R at new0 w0 turn Ic fc ⊢
  generalize upd Hb R o0 = Hc at w0 Ic fc
  have Id := block_start Ic ok hN fc
  have g1 := hg sc Hc sc.heap.objs.size (cellsFrom (sc.heap.objs.size + 1) scope.names (cloFrom X.env.cells scope.names [])) fp
  have g2 := ht sc Hc sc.heap.objs.size (cellsFrom (sc.heap.objs.size + 1) scope.names (cloFrom X.env.cells scope.names [])) fp
  have g3 := hk sc Hc sc.heap.objs.size (cellsFrom (sc.heap.objs.size + 1) scope.names (cloFrom X.env.cells scope.names [])) fp
  have g4 := hv sc Hc sc.heap.objs.size (cellsFrom (sc.heap.objs.size + 1) scope.names (cloFrom X.env.cells scope.names [])) fp
  show codeAny _ _ (.compStart (.DictComp kx vx [⟨tg, iter, ifs, 0⟩] scope pos) 0 (.ref it) (.ref R) (compEnvC scope (cellsFrom (sc.heap.objs.size + 1) scope.names (cloFrom X.env.cells scope.names [])) sc.heap.objs.size X.env)) (compPost (model X.prog X.w) X.A X.xe none (EP X pins σ Q) (.ref R) sc.heap.objs.size) { sc with heap := pushCells (sc.heap.push { cls := .type "dict", data := .dict #[] }) scope.names }
  generalize ece : compEnvC scope (cellsFrom (sc.heap.objs.size + 1) scope.names (cloFrom X.env.cells scope.names [])) sc.heap.objs.size X.env = ce at Id g1 g2 g3 g4 ⊢
  have locs : ce.locals = sc.heap.objs.size := by rw [← ece]; rfl
  generalize esd : ({ sc with heap := pushCells (sc.heap.push { cls := .type "dict", data := .dict #[] }) scope.names } : Shared) = sd at Id ⊢
  have td : tn 0 sd.heap := T.keep _ _ _ tc fun b _ o e => by rw [← esd]; exact pushCells_keeps _ _ _ _ (Heap.get?_push_of_some _ e)
  have own_ : ∀ {σ' : L2.St} {H' : Hp} {s' : Shared}, Inv (X.blk sc Hc scope ce fp) [] σ' H' s' → (∀ b ∈ fp, H' b = none) → ∀ b ∈ fp, FpOk (X.blk sc Hc scope ce fp) [] H' b := fun {σ' H' s'} J' n b hb =>
    ⟨n b hb, (J'.ok.exf b hb).1, J'.ok.exfs b hb, .inl hb, fun x c e => (J'.ok.exf b hb).2 x c e, fun p hp => by cases hp⟩
  have body : codeAny (model X.prog X.w) X.A (.compLoop (.DictComp kx vx [⟨tg, iter, ifs, 0⟩] scope pos) 0 (.ref it) (.ref R) ce) (compPost (model X.prog X.w) X.A X.xe none (EP X pins σ Q) (.ref R) sc.heap.objs.size) sd := by
    refine compLoop_anyD (fun n s' => ∃ i H', Inv (X.blk sc Hc scope ce fp) [] (wipe σ (own.map (·.2))) H' s' ∧ tn i s'.heap ∧ (∀ b ∈ fp, H' b = none) ∧ W i n H') ?_ m0 ⟨0, Hc, Id, td, fun b hb => (fc b hb).1.1, w0⟩
    intro n s1 ⟨i, H1, I1, t1, n1, w1⟩
    rcases turn i n H1 w1 with ⟨stop, qq⟩ | ⟨go, Nx, toNx, step⟩
    · refine thnF (T.done (X.blk sc Hc scope ce fp) rfl rfl rfl hc i [] s1 _ H1 (fun _ _ => False) I1 (own_ I1 n1) t1 stop) fun r s2 ⟨er, I2⟩ => ?_
      subst er
      have back : Inv X pins σ H1 s2 := Ic.call' (ch := fp) I2.os I2.base I2.hok I2.bare fun b hb => let z := (fc b hb).1.2; ⟨z.2.2.1, z.1, z.2.2.2.1, z.2.2.2.2⟩
      have freeL : H1 sc.heap.objs.size = none := locs ▸ I2.free
      obtain ⟨m, hns, _⟩ := I2.loc
      have hns : s2.heap.Ns ce.locals m := hns
      rw [locs] at hns
      obtain ⟨f0, f1, f2, f3, f4, f5⟩ := Ic.fpOk (Nat.le_refl _) freeL
      exact ⟨m, hns, fun h'' sb' => ⟨.ref R, H1, back.turned (t' := s2.toks) (fun b o hb e => (sb'.2 b hb).trans e) f0 f1 f3 f4 f5, rfl, qq⟩⟩
    · refine thnF (T.item (X.blk sc Hc scope ce fp) rfl rfl rfl hc i [] s1 _ H1 (fun _ _ => False) I1 (own_ I1 n1) t1 go) fun r s2 ⟨u, er, h2⟩ => ?_
      subst er
      refine thnF h2 fun _ s3 ⟨x, H3, I3, r3, y3, t3, n3⟩ => ?_
      refine thnF (g1.run _ s3 _ H3 x u _ (I3.pinned (own_ I3 n3) (T.obj _ _ t3)) r3 (step x H3 y3)) fun _ s4 ⟨σ4, H4, I4, w4, q4⟩ => ?_
      refine thnF (g2.run _ s4 σ4 H4 _ I4 q4) fun b s5 ⟨H5, I5, q5⟩ => ?_
      have over : ∀ (s' : Shared) (H' : Hp), Inv (X.blk sc Hc scope ce fp) ([] ++ pinsAt fp s3.heap) σ4 H' s' → Nx H' → ∃ m, m < n ∧ ∃ i H', Inv (X.blk sc Hc scope ce fp) [] (wipe σ (own.map (·.2))) H' s' ∧ tn i s'.heap ∧ (∀ b ∈ fp, H' b = none) ∧ W i m H' := fun s' H' J' nx => by
        obtain ⟨m', lt, w'⟩ := toNx H' nx
        have pin' : ∀ b ∈ fp, ∀ o, s3.heap.get? b = some o → s'.heap.get? b = some o ∧ H' b = none := fun b hb o e => by
          obtain ⟨z1, z2, _⟩ := J'.pin (b, o) (List.mem_append_right _ (List.mem_append_right _ (mem_pinsAt hb e)))
          exact ⟨z1, z2⟩
        refine ⟨m', lt, i + 1, H', (J'.unpinned (pins := [])).weak (by rw [← w4, wipe_length]) (fun j v e => (wipe_some (w4 ▸ e)).1), T.keep _ _ _ t3 fun b hb o e => (pin' b hb o e).1, fun b hb => ?_, w'⟩
        obtain ⟨o, e, _⟩ := T.obj _ _ t3 b hb
        exact (pin' b hb o e).2
      cases b with
      | false => exact over _ _ I5 q5
      | true =>
        refine thnF (g3.run _ s5 σ4 H5 _ I5 q5) fun k1 s6 ⟨y, H6, I6, r6, q6⟩ => ?_
        refine thnF (g4.run _ s6 σ4 H6 _ I6 q6) fun k2 s7 ⟨z, H7, I7, r7, q7⟩ => ?_
        exact hput (X.blk sc Hc scope ce fp) _ _ _ _ _ _ _ _ _ _ _ _ rfl rfl rfl I7 q7 r6 r7 over
  exact codeAny_compStart_dict body (T.self X.A 0 _ _ _ td body)⟩
end
end Ev
end

section
set_option Elab.async false
set_option linter.all false
/-! EvV: {tuple: v for ..}. -/
namespace Ev
open PySem PySem.Spec L2
set_option autoImplicit false
def lpDcT (T : Tg) (tt : M Bool) (tk tv : M D) (vs : List Nat) : List D → List (D × D) → Fr → Option (List (D × D) × Fr)
  | [], acc, σ => some (acc, σ)
  | d :: ds, acc, σ => match T.put d σ with
    | some σ1 => (match tt σ1 with
      | some (true, σ2) => (match tk σ2 with
        | some (k, σ3) => if keyOk true k = true then (match tv σ3 with
          | some (x, σ4) => lpDcT T tt tk tv vs ds (dPut acc k x) (hide σ4 vs)
          | none => none) else none
        | none => none)
      | some (false, σ2) => lpDcT T tt tk tv vs ds acc (hide σ2 vs)
      | none => none)
    | none => none
def mDcT (it : MI) (T : Tg) (tt : M Bool) (tk tv : M D) (vs : List Nat) : M S := fun σ => match it σ with
  | some (ds, σ1) => if ds.length ≤ LIM then (match lpDcT T tt tk tv vs ds [] (hide σ1 vs) with
    | some (xs, σ2) => some (.ds false true xs, shown σ2 σ1 vs)
    | none => none) else none
  | none => none

def putT : PutR := fun R y z H Nx => ∃ kvs k b, y = .ref b ∧ H b = some (.tup (k.map kV)) ∧ H R = some (.dT kvs) ∧ kvs.length < sizeLine ∧ Nx (upd H R (.dT (putK kvs k z)))
theorem hputT {X : Cx} (hu : X.A.units < cLine) : ∀ (Y : Cx) (pins : List (Addr × Obj)) (σ : St) (H : Hp) (s : Shared) (R : Addr) (y z : V) (u r : Value) (Nx : Hp → Prop) (Q : Unit → Shared → Prop) (E : Value → Shared → Prop), Y.prog = X.prog → Y.w = X.w → Y.A = X.A → Inv Y pins σ H s → putT R y z H Nx → RelV y u → RelV z r → (∀ s' H', Inv Y pins σ H' s' → Nx H' → Q () s') → wpAny (model Y.prog Y.w) Y.A (dictSet R u r) Q E s := fun Y pins σ H s R y z u r Nx Q E _ _ eA I ⟨kvs, k, b, ey, hb, hR, hz, nx⟩ ry rz q => by
  subst ey
  cases (show u = Value.ref b from ry)
  exact d_addT (by rw [eA]; exact hu) I hR hz hb rz fun s' I' => q s' _ I' nx
theorem keyT_of {d : D} (h : keyOk true d = true) : ∃ ks, d = kT ks := by
  cases d with
  | tup kb m =>
    cases kb with
    | true => cases h
    | false => obtain ⟨ks, e⟩ := isKs_of (show m.all D.isK = true from h); exact ⟨ks, by rw [e]⟩
  | _ => cases h
theorem keyT_rep {K : PySem.W.Frag} {ct : Ct} {F : Hp} {ks : List Key} {v : V} (r : DRep K ct F (kT ks) v) : ∃ b, v = .ref b ∧ F b = some (.tup (ks.map kV)) := by
  obtain ⟨a, vs, e, h, rs⟩ := r
  rw [kDs_rep rs] at h
  exact ⟨a, e, h⟩
section
variable {X : Cx} {ct : Ct} {pos spos : Pos} {elt tg iter : Expr} {ifs : List Expr} {scope : Scope} {own : List (Str × Nat)}
theorem dcT_imp {σV : St} {H : Hp} {Q : VK} {it : MI} {T : Tg} {tt : M Bool} {tk tv : M D} {vs : List Nat} (hT : ∀ i ∈ T.vs, i ∈ vs) (h : rdF X ct (mDcT it T tt tk tv vs) σV H Q) :
    tDcG (.dT []) putT (iRd X ct it) (gRd X.K ct T) (rdT X ct tt) (rdE X ct tk) (rdE X ct tv) vs σV H Q := by
  obtain ⟨F, σ, w, s, σ', e, q⟩ := h
  unfold mDcT at e
  split at e
  · rename_i ds σ1 h1
    split at e
    · rename_i hl
      split at e
      · rename_i all σe h2
        cases e
        refine ⟨F, σ, w, ds, σ1, h1, fun J H1 F1 st1 ⟨G, Y, wk, hG, hY⟩ D hD => ?_⟩
        have w1 := st1.w
        have wh : Wd X.K ct F1 H1 (wipe σV vs) (hide σ1 vs) := w1.hide
        have fD := w1.le.none hD
        have nD : ¬ Own (wipe σV vs) (hide σ1 vs) D := fun o => by obtain ⟨_, u, z, _⟩ := wh.own o; rw [hD] at z; cases z
        let Pv : Nat → Hp → Prop := fun i Hi => ∃ Fi σi accD accV, Stp X.K ct F1 H1 (wipe σV vs) (hide σ1 vs) Fi Hi (wipe σV vs) σi ∧ Le F1 Fi ∧ Hi D = some (.dT accV) ∧ Fi D = none ∧ ¬ Own (wipe σV vs) σi D ∧
          GKv X.K ct Fi kT accD accV ∧ accD.length ≤ i ∧ lpDcT T tt tk tv vs (ds.drop i) accD σi = some (all, σe)
        refine ⟨fun i m Hi => m = ds.length - i ∧ i ≤ ds.length ∧ Pv i Hi, ⟨ds.length, by simp, Nat.zero_le _, F1, hide σ1 vs, [], [], Stp.lay wh hD, Le.refl F1, upd_same, fD, nD, rfl, Nat.le_refl 0, h2⟩, ?_⟩
        rintro i m Hi ⟨rfl, hi', Fi, σi, accD, accV, sti, lei, hDi, fDi, nDi, ra, la, hp⟩
        by_cases hlt : i < ds.length
        · refine .inr ⟨wk.goes i Hi hlt (hG Hi (lei.trans sti.w.le)), Pv (i + 1), fun H' p' => ⟨ds.length - (i + 1), by omega, rfl, hlt, p'⟩, fun x H' y => ?_⟩
          obtain ⟨F3, d, gr, hd, rd⟩ := hY Fi i Hi x H' lei sti.w.le hlt (wk.yields i Hi x H' hlt (hG Hi (lei.trans sti.w.le)) y)
          rw [drop_at hd] at hp
          have g3 := gr.stp sti.w
          simp only [lpDcT] at hp
          split at hp
          · rename_i σ2 hp2
            refine ⟨F3, σi, d, σ2, g3.w, rd, hp2, fun σV2 st2 c2 => ?_⟩
            have ew : wipe σV2 vs = wipe σV vs := by rw [wipe_chg c2 hT, wipe_wipe]
            refine ⟨ew, ?_⟩
            split at hp
            · rename_i σ3 h3
              refine ⟨F3, σ2, st2.w, _, _, h3, fun H4 F4 st4 => iteT ?_⟩
              split at hp
              · rename_i k σ4 h4
                split at hp
                · rename_i hk'
                  split at hp
                  · rename_i z σ5 h5
                    refine ⟨F4, σ3, st4.w, k, σ4, h4, fun u H5 F5 st5 ru => ⟨F5, σ4, st5.w, z, σ5, h5, fun v H6 F6 st6 rv => ?_⟩⟩
                    obtain ⟨kk, rfl⟩ := keyT_of hk'
                    have turn := ((g3.trans (st2.trans st4)).trans st5).trans st6
                    obtain ⟨hD5, fD5, nD5⟩ := turn.apart hDi fDi nDi
                    have tot := (sti.trans turn).forget ew
                    have nD6 : ¬ Own (wipe σV vs) (hide σ5 vs) D := fun o => nD5 (Own.of_hide (vs := vs) (ew ▸ o))
                    have ra' := gkv_T.mp (DTv.mono turn.le _ _ (gkv_T.mpr ra))
                    obtain ⟨b, rfl, hb⟩ := keyT_rep (DRep.mono st6.le _ _ ru)
                    refine ⟨accV, kk, b, rfl, st6.w.le _ _ hb, hD5, ?_, F6, hide σ5 vs, dPut accD (kT kk) z, putK accV kk v, tot.poke hD fD5 nD6, lei.trans turn.le, upd_same, fD5, nD6, put_G eqv_keys rv ra', ?_, hp⟩
                    · rw [← len_G ra]
                      have : ds.length ≤ sizeLine := by rw [← LIM_eq]; exact hl
                      omega
                    · have := dPut_len accD (kT kk) z; omega
                  · cases hp
                · cases hp
              · cases hp
            · rename_i σ3 h3
              refine ⟨F3, σ2, st2.w, _, _, h3, fun H4 F4 st4 => iteF ?_⟩
              have turn := g3.trans (st2.trans st4)
              obtain ⟨hD5, fD5, nD5⟩ := turn.apart hDi fDi nDi
              have tot := (sti.trans turn).forget ew
              have nD6 : ¬ Own (wipe σV vs) (hide σ3 vs) D := fun o => nD5 (Own.of_hide (vs := vs) (ew ▸ o))
              exact ⟨F4, hide σ3 vs, accD, accV, tot, lei.trans turn.le, hD5, fD5, nD6, gkv_T.mp (DTv.mono turn.le _ _ (gkv_T.mpr ra)), Nat.le_succ_of_le la, hp⟩
            · cases hp
          · cases hp
        · have ei : i = ds.length := by omega
          subst ei
          refine .inl ⟨wk.stops Hi (hG Hi (lei.trans sti.w.le)), ?_⟩
          rw [List.drop_length] at hp
          simp only [lpDcT] at hp
          cases hp
          have tot := Stp.show w1 sti
          refine q _ Hi Fi (st1.trans tot) ⟨rfl, ⟨D, _, rfl, fDi, hDi, .inr ⟨rfl, _, rfl, gkv_T.mpr ra⟩⟩, fun a ea => ?_⟩
          cases ea
          refine ⟨fun o => ?_, .inl (st1.there D hD)⟩
          obtain ⟨j, t, ej, to, aj⟩ := o
          by_cases hj : j ∈ vs
          · rw [shown_get (by rw [sti.len, hide_len]), if_pos (by simpa using hj)] at ej
            obtain ⟨_, u, z2, _⟩ := w1.own ⟨j, t, ej, to, aj⟩; rw [hD] at z2; cases z2
          · rw [shown_get (by rw [sti.len, hide_len]), if_neg (by simpa using hj)] at ej
            exact nDi ⟨j, t, ej, to, by rw [wipe_out hj]; exact aj⟩
      · cases e
    · cases e
  · cases e
theorem sf_dcT (hu : X.A.units < cLine) {kx vx : Expr} {it : MI} {T : Tg} {tt : M Bool} {tk tv : M D} (hc : X.calm = true) (hN : X.N.Nodup) (hi : SI X ct tg iter it) (ok : BlkOk X.N X.env.scope scope own)
    (hg : ∀ (s : Shared) (H : Hp) (C : Addr) (cl : List (Str × Addr)) (fp : List Addr), SG (X.blk s H scope (compEnvC scope cl C X.env) fp) ct tg T) (ht : ∀ (s : Shared) (H : Hp) (C : Addr) (cl : List (Str × Addr)) (fp : List Addr), STs (X.blk s H scope (compEnvC scope cl C X.env) fp) ct ifs tt)
    (hk : ∀ (s : Shared) (H : Hp) (C : Addr) (cl : List (Str × Addr)) (fp : List Addr), SE (X.blk s H scope (compEnvC scope cl C X.env) fp) ct kx tk)
    (hv : ∀ (s : Shared) (H : Hp) (C : Addr) (cl : List (Str × Addr)) (fp : List Addr), SE (X.blk s H scope (compEnvC scope cl C X.env) fp) ct vx tv) (hT : ∀ i ∈ T.vs, i ∈ own.map (·.2) := by decide) (hs : ∀ x, foldedSetIterable iter X.env x = pure x := by intro _; rfl) :
    SF X ct (.DictComp kx vx [⟨tg, iter, ifs, 0⟩] scope pos) (mDcT it T tt tk tv (own.map (·.2))) := PEimp (pe_dcG (o0 := .dT []) (put := putT) hc hN hi ok (fun h H hb => dt_empty h hb) (hputT hu) hg ht hk hv hs) fun σV H Q h => dcT_imp hT h
end
end Ev
end

section
set_option Elab.async false
set_option linter.all false
/-! EvS: found.setdefault(key, []).append(x), keys tuples. -/
namespace Ev
open PySem PySem.Spec PyProof.Rows L2
set_option autoImplicit false
def rSetT : V → List V → Hp → VK → Prop := fun x vs H Q => ∃ (a b : Addr) (kvs : List (List Key × V)) (k : List Key) (v : V), x = .ref a ∧ vs = [.ref b, v] ∧ H b = some (.tup (k.map kV)) ∧ H a = some (.dT kvs) ∧ kvs.length < sizeLine ∧
  (∀ u, valV kvs k = some u → Q u H) ∧ (valV kvs k = none → Q v (upd H a (.dT (putK kvs k v))))
theorem mt_setT {X : Cx} (hu : X.A.units + 1 < cLine) : MtR X "dict.setdefault" rSetT := fun pins s σ H x vs v us Q I rx rv ⟨a, b, kvs, k, d, ex, evs, hb, ha, hz, w1, w2⟩ => by
  subst ex evs
  obtain rfl : v = Value.ref a := rx
  cases rv with
  | cons r1 rv => cases rv with
    | cons r2 rv =>
      cases rv
      cases (show _ = Value.ref b from r1)
      obtain ⟨z, hd, xs, rel, dd⟩ := dt_of I.hok ha
      refine call_setdefault_heap (knd := tupleKind (mixKind X.prog X.w)) (tupleKind_room_in1 hu) (key_of I.hok hb) hd dd (fun p hp => ?_) (fun hn h' dd' hs => ?_) (by rw [← Paired.length rel]; exact z)
      · have rr := rel.val k
        rw [hp] at rr
        cases hv : valV kvs k with
        | none => rw [hv] at rr; exact rr.elim
        | some y => rw [hv] at rr; exact ⟨y, H, I.tok _, rr, w1 y hv⟩
      · have rr := rel.val k
        rw [hn] at rr
        cases hv : valV kvs k with
        | some y => rw [hv] at rr; exact rr.elim
        | none =>
          obtain ⟨q, es, ep, hq, h2, h3, h4, _, h5⟩ := dd'
          have le1 : (putK kvs k d).length ≤ sizeLine := Nat.le_trans (length_putK kvs k d) hz
          refine ⟨d, upd H a (.dT (putK kvs k d)), d_write I (by rw [ha]; trivial) hs ⟨q, hq⟩ ⟨le1, hd, _, (rel.put k hb r2).keeps fun c ys ec => ?_, q, es, ep, hq, h2, h3, h4, h5⟩, r2, w2 hv⟩
          rw [upd_ne (ne_of ec ha (fun z => nomatch z))]; exact ec
/-! ### the lists behind keys -/
def rIdx : List (D × List D) → D → Option Nat
  | [], _ => none
  | q :: r, k => if D.eqv q.1 k = true then some 0 else (rIdx r k).map (· + 1)
def rNew (r : List (D × List D)) (k : D) : List (D × List D) := match rIdx r k with
  | some _ => r
  | none => r ++ [(k, [])]
def uSda (mk me : M D) : MU (List (D × List D)) := fun σ r => match mk σ with
  | some (k, σ1) => if (keyOk true k && decide (r.length < LIM)) = true then (match me σ1 with
    | some (d, σ2) => (match rIdx (rNew r k) k with
      | some i => (match (rNew r k)[i]? with
        | some q => if q.2.length < LIM then some (.nx, σ2, (rNew r k).set i (q.1, q.2 ++ [d])) else none
        | none => none)
      | none => none)
    | none => none) else none
  | none => none
theorem idx_val : ∀ {r : List (D × List D)} {es : List (List Key × V)} {as : List Addr}, r.map (·.1) = es.map (fun q => kT q.1) → es.map (·.2) = as.map V.ref → ∀ x,
    (∀ u, valV es x = some u → ∃ i a, rIdx r (kT x) = some i ∧ as[i]? = some a ∧ u = .ref a) ∧ (valV es x = none → rIdx r (kT x) = none)
  | [], [], _, _, _, x => ⟨(fun u h => by cases h), fun _ => rfl⟩
  | [], _ :: _, _, h, _, _ => by simp at h
  | _ :: _, [], _, h, _, _ => by simp at h
  | q :: r, p :: es, [], _, h, _ => by simp at h
  | q :: r, p :: es, a :: as, h, h2, x => by
    rw [List.map_cons, List.map_cons, List.cons.injEq] at h h2
    obtain ⟨k1, k2⟩ := idx_val h.2 h2.2 x
    have e : D.eqv q.1 (kT x) = decide (p.1 = x) := by rw [h.1]; exact eqv_keys p.1 x
    by_cases hx : p.1 = x
    · have v1 : valV (p :: es) x = some p.2 := by unfold valV; simp [List.find?, hx]
      rw [v1]
      refine ⟨fun u hu => ?_, fun z => by cases z⟩
      cases hu
      exact ⟨0, a, by unfold rIdx; rw [e, if_pos (decide_eq_true hx)], rfl, h2.1⟩
    · have v1 : valV (p :: es) x = valV es x := by unfold valV; simp [List.find?, hx]
      rw [v1]
      have r1 : rIdx (q :: r) (kT x) = (rIdx r (kT x)).map (· + 1) := by rw [rIdx, e, if_neg (by simp [hx])]
      rw [r1]
      refine ⟨fun u hu => ?_, fun z => by rw [k2 z]; rfl⟩
      obtain ⟨i, b, z1, z2, z3⟩ := k1 u hu
      exact ⟨i + 1, b, by rw [z1]; rfl, z2, z3⟩
theorem putK_new {es : List (List Key × V)} {x : List Key} {v : V} (h : valV es x = none) : putK es x v = es ++ [(x, v)] := by
  unfold putK
  rw [if_neg]
  unfold valV at h
  rw [Option.map_eq_none_iff, List.find?_eq_none] at h
  simp only [List.any_eq_true, not_exists, not_and]
  exact fun q hq => h q hq
theorem rIdx_app {k : D} {l : List D} (hk : D.eqv k k = true) : ∀ {r : List (D × List D)}, rIdx r k = none → rIdx (r ++ [(k, l)]) k = some r.length
  | [], _ => by show (if D.eqv k k = true then some 0 else _) = _; rw [if_pos hk]; rfl
  | q :: r, h => by
    rw [rIdx] at h
    split at h
    · cases h
    · rename_i hq
      rw [List.cons_append, rIdx, if_neg hq, rIdx_app hk (by simpa using h)]; rfl
def IK (K : PySem.W.Frag) (ct : Ct) (F : Hp) (r : List (D × List D)) (L : Pv) : Prop := ∃ p es as vss, L = (p, .dT es) :: rowsL as vss ∧ (L.map (·.1)).Nodup ∧ r.map (·.1) = es.map (fun q => kT q.1) ∧ es.map (·.2) = as.map V.ref ∧ RwOk K ct F (r.map (·.2)) as vss
theorem IK.mono {K : PySem.W.Frag} {ct : Ct} : ∀ F F' r L, Le F F' → IK K ct F r L → IK K ct F' r L := fun F F' r L le ⟨p, es, as, vss, h1, h2, h3, h4, h5⟩ => ⟨p, es, as, vss, h1, h2, h3, h4, h5.mono le⟩
theorem RwOk.put {K : PySem.W.Frag} {ct : Ct} {F : Hp} {r : List (List D)} {as : List Addr} {vss : List (List V)} (h : RwOk K ct F r as vss) {i : Nat} {l : List D} {vs : List V} {d : D} {v : V} (hl : r[i]? = some l) (hv : vss[i]? = some vs) (rl : DReps K ct F l vs) (rv : DRep K ct F d v) :
    RwOk K ct F (r.set i (l ++ [d])) as (vss.set i (vs ++ [v])) := by
  refine ⟨by rw [List.length_set]; exact h.la, by rw [List.length_set, List.length_set]; exact h.lv, fun i' l' e' => ?_⟩
  by_cases hi : i' = i
  · subst hi
    rw [List.getElem?_set_self (List.getElem?_eq_some_iff.mp hl).1] at e'; cases e'
    exact ⟨_, by rw [List.getElem?_set_self (List.getElem?_eq_some_iff.mp hv).1], DReps.append rl (DReps.one rv)⟩
  · rw [List.getElem?_set_ne (Ne.symm hi)] at e'
    obtain ⟨ws, e1, r1⟩ := h.at_ i' l' e'
    exact ⟨ws, by rw [List.getElem?_set_ne (Ne.symm hi)]; exact e1, r1⟩
/-- the entries behind a change of one row -/
theorem rows_put {as : List Addr} {vss : List (List V)} {n : Nat} {a : Addr} {vs : List V} {o : HO} {ws : List V} (nd : as.Nodup) (han : as[n]? = some a) (hv : vss[n]? = some vs) {x : Addr × HO} (hx : x ∈ rowsL as (vss.set n ws)) : (x.1 = a ∧ x.2 = .lst ws) ∨ (x ∈ rowsL as vss ∧ x.1 ≠ a) := by
  obtain ⟨xa, xo⟩ := x
  obtain ⟨k', us, e1, e2, e3⟩ := rows_of hx
  by_cases hk' : k' = n
  · subst hk'
    rw [han] at e1; cases e1
    rw [List.getElem?_set_self (List.getElem?_eq_some_iff.mp hv).1] at e2; cases e2
    exact .inl ⟨rfl, e3⟩
  · rw [List.getElem?_set_ne (Ne.symm hk')] at e2
    refine .inr ⟨by have := rows_get e1 e2; rw [← e3] at this; exact this, fun z => hk' ?_⟩
    have z : xa = a := z
    subst z
    exact (List.getElem?_inj (List.getElem?_eq_some_iff.mp e1).1 nd).mp (e1.trans han.symm)
end Ev
end

section
set_option Elab.async false
set_option linter.all false
/-! EvSb: the statement found.setdefault(key, []).append(x). -/
namespace Ev
open PySem PySem.Spec PyProof.Rows L2
set_option autoImplicit false
section
variable {K : PySem.W.Frag} {ct : Ct} {F0 H0 F H F' H' : Hp} {σV0 σV σV' : L2.St} {σ0 σ σ' : Fr} {R : Type} {I : Hp → R → Pv → Prop} {L : Pv} {r : R} {j : Nat}
/-- one is changed, others that stand are taken in -/
theorem UW.poke2 (u : UW K ct I j F0 H0 σV0 σ0 F H σV σ r L) {a : Addr} {o o' : HO} {r' : R} {L' : Pv} (ha : (a, o) ∈ L) (hn : ∀ xs, o' ≠ .tup xs)
    (hL : ∀ p ∈ L', (p.1 = a ∧ p.2 = o') ∨ (p ∈ L ∧ p.1 ≠ a) ∨ (p.1 ≠ a ∧ H p.1 = some p.2 ∧ F p.1 = none ∧ (¬ Own σV σ p.1) ∧ (∀ xs, p.2 ≠ .tup xs) ∧ H0 p.1 = none)) (hI : I F r' L') (hh : L'.head?.map (·.1) = L.head?.map (·.1)) :
    UW K ct I j F0 H0 σV0 σ0 F (upd H a o') σV σ r' L' := by
  obtain ⟨h1, h2, h3, h4⟩ := u.pv _ ha
  refine ⟨u.st.poke (u.nw _ ha) h2 h3, fun p hp => ?_, fun p hp => ?_, hI, u.nb, ?_⟩
  · rcases hL p hp with ⟨e1, e2⟩ | ⟨hp, ne⟩ | ⟨ne, k1, k2, k3, k4, _⟩
    · rw [e1, e2]; exact ⟨upd_same, h2, h3, hn⟩
    · obtain ⟨k1, k2, k3, k4⟩ := u.pv p hp
      exact ⟨by rw [upd_ne ne]; exact k1, k2, k3, k4⟩
    · exact ⟨by rw [upd_ne ne]; exact k1, k2, k3, k4⟩
  · rcases hL p hp with ⟨e1, e2⟩ | ⟨hp, ne⟩ | ⟨_, _, _, _, _, k5⟩
    · rw [e1]; exact u.nw _ ha
    · exact u.nw p hp
    · exact k5
  · rw [hh]; exact u.rt
end
section
variable {X : Cx} {ct : Ct} {j : Nat} {pos spos apos : Pos} {rc e : Expr} {mk me : M D}
theorem us_sda (hin : PE X rc (tBM X.K "dict" rSetT (tVar j) (tCons (rdE X ct mk) (tCons tE0 tNil)))) (h : SE X ct e me)
    (hbase : attributeBase rc "append" X.env (eval rc X.env) = eval rc X.env := by rfl)
    (hfew : ((backTo pos (starEach [e] X.env)).all (fun x => !x.1) && (backToKw pos (keywordEach [] X.env)).all (fun x => x.1.isSome) && decide ([e].length + ([] : List Keyword).length + (if ([] : List Keyword).isEmpty then 0 else 1) < 30)) = true := by rfl)
    (hline : (apos.endLine == pos.line) = true := by rfl) (hs : starEach [e] X.env = (false, eval e X.env) :: starEach [] X.env := by rfl) (hplain : (backTo pos (starEach [] X.env)).any (·.1) = false := by rfl)
    (hsw : swapsWith (.Call (.Attribute rc "append" apos) [e] [] pos) none spos.line X.env = pure false := by rfl) :
    US X ct (IK X.K ct) j (.Expr (.Call (.Attribute rc "append" apos) [e] [] pos) spos) (uSda mk me) :=
  PSimp (ps_expr (pe_bm F.plainAttrs_list F.slot_list_append F.type_list_append mt_append hin (pa_cons h pa_nil hs) hbase hfew hline hs hplain) hsw) fun D σV H ⟨F0, H0, σV0, σ0, F, σ, r, L, u, f, σ', r', e, q⟩ => by
  unfold uSda at e
  split at e
  case h_2 => cases e
  rename_i k σ1 h1
  split at e
  case isFalse => cases e
  rename_i hk'
  rw [Bool.and_eq_true, decide_eq_true_eq] at hk'
  split at e
  case h_2 => cases e
  rename_i d σ2 h2
  split at e
  case h_2 => cases e
  rename_i i hi
  split at e
  case h_2 => cases e
  rename_i rq hq
  split at e
  case isFalse => cases e
  rename_i hlen
  cases e
  obtain ⟨p, es, as, vss, hL, nd, hk1, hk2, rw_⟩ := u.iv
  obtain ⟨_, a0, ev, hh⟩ := u.rt
  rw [hL] at hh
  obtain rfl : p = a0 := by simpa using hh
  have hp : H p = some (.dT es) := (u.pv (p, _) (by rw [hL]; simp)).1
  have hes : es.length = r.length := by have := congrArg List.length hk1; simpa using this.symm
  refine ⟨.ref p, ev, .inr (.inr (.inl ⟨rfl, .inr ⟨es, hp⟩⟩)), F, σ, u.st.w, k, σ1, h1, fun y H1 F1 st1 ry l hl1 => ?_⟩
  obtain ⟨ks, rfl⟩ := keyT_of hk'.1
  obtain ⟨b, rfl, hb⟩ := keyT_rep ry
  have u1 := u.step IK.mono st1
  have u2 := u1.lay (a := l) (o' := .lst []) (r' := r) (L' := L) hl1 (fun _ z => by cases z) (fun x hx => .inr hx) u1.iv rfl
  have hp2 := (u2.pv (p, .dT es) (by rw [hL]; simp)).1
  -- from where the list is known
  have fin : ∀ {Hc : Hp} {es1 : List (List Key × V)} {as1 : List Addr} {vss1 : List (List V)} {a : Addr}, UW X.K ct (IK X.K ct) j F0 H0 σV0 σ0 F1 Hc σV σ1 (rNew r (kT ks)) ((p, .dT es1) :: rowsL as1 vss1) → (((p, HO.dT es1) :: rowsL as1 vss1).map (·.1)).Nodup →
      (rNew r (kT ks)).map (·.1) = es1.map (fun q => kT q.1) → es1.map (·.2) = as1.map V.ref → RwOk X.K ct F1 ((rNew r (kT ks)).map (·.2)) as1 vss1 → as1[i]? = some a →
      tyV X.K "list" (.ref a) Hc ∧ tCons (rdE X ct me) tNil σV Hc fun xs H3 => rAppend (.ref a) xs H3 fun _ H4 => D.nx σV H4 := fun {Hc es1 as1 vss1 a} u3 nd3 e1 e2 rw3 han => by
    have hq2 : ((rNew r (kT ks)).map (·.2))[i]? = some rq.2 := by rw [List.getElem?_map, hq]; rfl
    obtain ⟨vs, hv, rl⟩ := rw3.at_ i _ hq2
    have hmem : (a, HO.lst vs) ∈ (p, HO.dT es1) :: rowsL as1 vss1 := List.mem_cons_of_mem _ (rows_get han hv)
    refine ⟨.inl ⟨rfl, vs, SqL.of (u3.pv _ hmem).1⟩, F1, σ1, u3.st.w, d, _, h2, fun v H2 F2 st2 rv => ?_⟩
    have u4 := u3.step IK.mono st2
    refine ⟨a, vs, v, rfl, rfl, (u4.pv _ hmem).1, by rw [← rl.length, ← LIM_eq]; exact hlen, ?_⟩
    have nd4 := nd3
    have hvl : vss1.length = as1.length := by rw [rw3.lv, rw3.la]
    rw [List.map_cons, rows_keys hvl, List.nodup_cons] at nd4
    have pa : p ≠ a := fun z => nd4.1 (by rw [show p = a from z]; exact List.mem_of_getElem? han)
    have rw5 := (rw3.mono st2.le).put hq2 hv (DReps.mono st2.le _ _ rl) rv
    have hset : ((rNew r (kT ks)).set i (rq.1, rq.2 ++ [d])).map (·.2) = ((rNew r (kT ks)).map (·.2)).set i (rq.2 ++ [d]) := by rw [List.map_set]
    have hset1 : ((rNew r (kT ks)).set i (rq.1, rq.2 ++ [d])).map (·.1) = (rNew r (kT ks)).map (·.1) := by
      rw [List.map_set]
      refine List.ext_getElem? fun n => ?_
      by_cases hn : n = i
      · subst hn
        have q1 : ((rNew r (kT ks)).map (·.1))[n]? = some rq.1 := by rw [List.getElem?_map, hq]; rfl
        rw [List.getElem?_set_self (List.getElem?_eq_some_iff.mp q1).1, q1]
      · rw [List.getElem?_set_ne (Ne.symm hn)]
    refine q .non σV _ F2 ((p, .dT es1) :: rowsL as1 (vss1.set i (vs ++ [v]))) (u4.poke (o' := .lst (vs ++ [v])) hmem (fun _ z => by cases z) (fun x hx => ?_) ⟨p, es1, as1, _, rfl, ?_, by rw [hset1]; exact e1, e2, by rw [hset]; exact rw5⟩ rfl) (st1.le.trans st2.le) rfl
    · rcases List.mem_cons.mp hx with rfl | hx
      · exact .inr ⟨by simp, pa⟩
      · rcases rows_put (o := .lst vs) nd4.2 han hv hx with z | ⟨z1, z2⟩
        · exact .inl z
        · exact .inr ⟨List.mem_cons_of_mem _ z1, z2⟩
    · rw [List.map_cons, rows_keys (by rw [List.length_set, hvl])]
      rw [List.map_cons, rows_keys hvl] at nd3
      exact nd3
  obtain ⟨f1, f2⟩ := idx_val hk1 hk2 ks
  refine ⟨p, b, es, ks, .ref l, rfl, rfl, u2.st.w.le _ _ hb, hp2, by rw [hes, ← LIM_eq]; exact hk'.2, fun uu huu => ?_, fun hno => ?_⟩
  · obtain ⟨i', a, z1, z2, rfl⟩ := f1 uu huu
    have hr : rNew r (kT ks) = r := by unfold rNew; rw [z1]
    rw [hr, z1] at hi
    cases hi
    refine fin (a := a) (es1 := es) (as1 := as) (vss1 := vss) ?_ ?_ ?_ hk2 ?_ z2
    · rw [hr, ← hL]; exact u2
    · rw [← hL]; exact nd
    · rw [hr]; exact hk1
    · rw [hr]; exact rw_.mono st1.le
  · have z0 := f2 hno
    have hr : rNew r (kT ks) = r ++ [(kT ks, [])] := by unfold rNew; rw [z0]
    have hi' := hi
    rw [hr, rIdx_app (by rw [eqv_keys]; simp) z0] at hi'
    cases hi'
    rw [putK_new hno]
    have nl : ∀ x ∈ L, x.1 ≠ l := fun x hx z => by
      have := (u1.pv x hx).1
      rw [z, hl1] at this; cases this
    have fl : F1 l = none := st1.w.le.none hl1
    have nol : ¬ Own σV σ1 l := fun o => by obtain ⟨_, x, z, _⟩ := st1.w.own o; rw [hl1] at z; cases z
    have hvl : vss.length = as.length := by rw [rw_.lv, rw_.la]
    have hra : as.length = r.length := by rw [rw_.la]; simp
    have rws : rowsL (as ++ [l]) (vss ++ [[]]) = rowsL as vss ++ [(l, .lst [])] := by
      unfold rowsL
      rw [List.map_append, List.zip_append (by simp [hvl])]; rfl
    have nd5 : (((p, HO.dT (es ++ [(ks, V.ref l)])) :: rowsL (as ++ [l]) (vss ++ [[]])).map (·.1)).Nodup := by
      rw [List.map_cons, rows_keys (by simp [hvl])]
      rw [hL, List.map_cons, rows_keys hvl, List.nodup_cons] at nd
      have lp : l ≠ p := fun z => nl (p, .dT es) (by rw [hL]; simp) z.symm
      have la : l ∉ as := fun z => by
        obtain ⟨n, hn⟩ := List.mem_iff_getElem?.mp z
        have hn2 : n < vss.length := by rw [hvl]; exact (List.getElem?_eq_some_iff.mp hn).1
        exact nl (l, .lst vss[n]) (by rw [hL]; exact List.mem_cons_of_mem _ (rows_get hn (List.getElem?_eq_getElem hn2))) rfl
      rw [List.nodup_cons, List.nodup_append]
      refine ⟨fun z => ?_, nd.2, by simp, fun x hx y hy => ?_⟩
      · rcases List.mem_append.mp z with z | z
        · exact nd.1 z
        · exact lp (show p = l by simpa using z).symm
      · obtain rfl : y = l := by simpa using hy
        exact fun z => la (z ▸ hx)
    have k1 : (rNew r (kT ks)).map (·.1) = (es ++ [(ks, V.ref l)]).map (fun q => kT q.1) := by rw [hr, List.map_append, List.map_append, hk1]; rfl
    have k2 : (es ++ [(ks, V.ref l)]).map (·.2) = (as ++ [l]).map V.ref := by rw [List.map_append, List.map_append, hk2]; rfl
    have k3 : RwOk X.K ct F1 ((rNew r (kT ks)).map (·.2)) (as ++ [l]) (vss ++ [[]]) := by
      have r1 := rw_.mono st1.le
      have e0 : (r.map (·.2)).length = r.length := by simp
      rw [hr, List.map_append]
      refine ⟨by simp [hra], by simp [hvl, hra], fun n m hm => ?_⟩
      rw [List.getElem?_append] at hm
      split at hm
      · rename_i hlt
        obtain ⟨ws, w1, w2⟩ := r1.at_ n m hm
        exact ⟨ws, by rw [List.getElem?_append_left (List.getElem?_eq_some_iff.mp w1).1]; exact w1, w2⟩
      · rename_i hge
        have : n - (r.map (·.2)).length = 0 := by
          cases hn : n - (r.map (·.2)).length with
          | zero => rfl
          | succ n' => rw [hn] at hm; simp at hm
        rw [this] at hm
        obtain rfl : [] = m := by simpa using hm
        have hn : n = vss.length := by rw [rw_.lv]; omega
        exact ⟨[], by rw [hn]; simp, rfl⟩
    refine fin (a := l) ?_ nd5 k1 k2 k3 (by rw [← hra]; simp)
    refine u2.poke2 (a := p) (o := .dT es) (by rw [hL]; simp) (fun _ z => by cases z) (fun x hx => ?_) ⟨p, _, _, _, rfl, nd5, k1, k2, k3⟩ (by rw [hL]; rfl)
    rcases List.mem_cons.mp hx with rfl | hx
    · exact .inl ⟨rfl, rfl⟩
    rw [rws] at hx
    rcases List.mem_append.mp hx with hx | hx
    · refine .inr (.inl ⟨by rw [hL]; exact List.mem_cons_of_mem _ hx, fun z => ?_⟩)
      rw [hL, List.map_cons, List.nodup_cons] at nd
      exact nd.1 (List.mem_map.mpr ⟨x, hx, z⟩)
    · obtain rfl : x = (l, .lst []) := by simpa using hx
      exact .inr (.inr ⟨fun z => nl (p, .dT es) (by rw [hL]; simp) z.symm, upd_same, fl, nol, (fun _ z => by cases z), u1.st.there l hl1⟩)
end
end Ev
end

section
set_option Elab.async false
set_option linter.all false
/-! EvSc: a local dict of own lists: begun, told. -/
namespace Ev
open PySem PySem.Spec PyProof.Rows L2
set_option autoImplicit false
def mKey (j : Nat) (n : Fr → List (D × List D) → Option (Fl × Fr)) : M Fl := fun σ => if okSet σ j = true then n (σ.set j (some .prv)) [] else none
def xRetK (j : Nat) : Fr → List (D × List D) → Option (Fl × Fr) := fun σ r => match σ[j]? with
  | some (some .prv) => some (.rt (.imm (.dct true (r.map fun q => (q.1, D.lst q.2)))), σ)
  | _ => none
theorem keyed_rep {K : PySem.W.Frag} {ct : Ct} {F : Hp} : ∀ {r : List (D × List D)} {es : List (List Key × V)} {as : List Addr} {vss : List (List V)}, r.map (·.1) = es.map (fun q => kT q.1) → es.map (·.2) = as.map V.ref → RwOk K ct F (r.map (·.2)) as vss → (∀ p ∈ rowsL as vss, F p.1 = some p.2) →
    DTv K ct F (r.map fun q => (q.1, D.lst q.2)) es
  | [], [], _, _, _, _, _, _ => rfl
  | [], _ :: _, _, _, h, _, _, _ => by simp at h
  | _ :: _, [], _, _, h, _, _, _ => by simp at h
  | q :: r, p :: es, [], _, _, h, _, _ => by simp at h
  | q :: r, p :: es, a :: as, vss, h, h2, w, hf => by
    rw [List.map_cons, List.map_cons, List.cons.injEq] at h h2
    obtain ⟨vs, e, rr⟩ := w.at_ 0 q.2 rfl
    cases vss with
    | nil => simp at e
    | cons ws vss =>
      obtain rfl : ws = vs := by simpa using e
      refine ⟨p.1, p.2, es, rfl, h.1, ⟨a, ws, h2.1, hf (a, .lst ws) (by simp [rowsL]), rr⟩, ?_⟩
      refine keyed_rep (r := r) (as := as) (vss := vss) h.2 h2.2 ⟨by have := w.la; simpa using this, by have := w.lv; simpa using this, fun i l' e' => ?_⟩ fun x hx => hf x (by simp only [rowsL, List.map_cons, List.zip_cons_cons, List.mem_cons]; exact .inr hx)
      obtain ⟨us, e1, r1⟩ := w.at_ (i + 1) l' (by simpa using e')
      exact ⟨us, by simpa using e1, r1⟩
section
variable {X : Cx} {ct : Ct} {j : Nat} {pos spos apos : Pos} {e : Expr} {rest : List Stmt}
theorem sss_key {y : Str} {n : Fr → List (D × List D) → Option (Fl × Fr)} {py dp : Pos} (hN : X.N.Nodup) (hy : X.N[j]? = some y) (hyl : Loc X.env.scope y) (hr : UXs X ct (IK X.K ct) j rest n)
    (hs : swapsWith (.Dict [] [] dp) (some (.Name y py)) spos.line X.env = pure false := by rfl) (hf : X.fn y = true ∨ X.env.scope.names.lookup y = some .local := by first | exact .inl rfl | exact .inr rfl | assumption) : SSs X ct (.Assign [.Name y py] (.Dict [] [] dp) spos :: rest) (mKey j n) :=
  PSsimp (pss_cons (ps_set hN hy hyl pe_dnewT hs hf) hr) fun D σV H ⟨F, σ, w, f, σ', e, q⟩ p hp => by
  unfold mKey at e
  split at e
  · rename_i ho
    have hv : j < σV.length := Nat.lt_of_lt_of_le (okSet_lt ho) w.ln
    have st := Stp.lay w hp (o := .dT [])
    have no : ¬ Own σV σ p := fun o => by obtain ⟨_, u, z, _⟩ := w.own o; rw [hp] at z; cases z
    refine ⟨F, H, σV, σ, F, σ.set j (some .prv), [], [(p, .dT [])], ⟨st.setP ho, fun x hx => ?_, fun x hx => ?_, ⟨p, [], [], [], rfl, by simp, rfl, rfl, ⟨rfl, rfl, fun i l e => by simp at e⟩⟩, fun s hs' => okSet_io ho s hs', ⟨.prv, by rw [List.getElem?_set_self (okSet_lt ho)], rfl⟩, p, by rw [List.getElem?_set_self hv], rfl⟩, f, σ', e, q⟩
    · obtain rfl : x = (p, .dT []) := by simpa using hx
      exact ⟨upd_same, w.le.none hp, fun o => no (own_setP o), fun _ z => by cases z⟩
    · obtain rfl : x = (p, .dT []) := by simpa using hx
      exact hp
  · cases e
theorem uxs_retK (h : PE X e (tVar j)) : UXs X ct (IK X.K ct) j [.Return (some e) pos] (xRetK j) := PSsimp (pss_one (ps_ret (pe_lk h))) fun D σV H ⟨F0, H0, σV0, σ0, F, σ, r, L, u, f, σ', e, q⟩ => by
  unfold xRetK at e
  split at e
  · cases e
    obtain ⟨p, es, as, vss, hL, nd, hk1, hk2, rw_⟩ := u.iv
    obtain ⟨_, a0, ev, hh⟩ := u.rt
    rw [hL] at hh
    obtain rfl : p = a0 := by simpa using hh
    have hmem : (p, HO.dT es) ∈ L := by rw [hL]; simp
    obtain ⟨h1, h2, h3, h4⟩ := u.pv _ hmem
    refine ⟨.ref p, ev, .inr ⟨p, .dT es, h1, True.intro, fun od => ?_⟩⟩
    have st1 := u.st.poke (o := .frz od (.dT es)) (show H0 p = none from u.nw (p, .dT es) hmem) h2 h3
    have nd' := nd
    rw [hL, List.map_cons, List.nodup_cons] at nd'
    have pv1 : PvOk F (upd H p (.frz od (.dT es))) σV σ ((p, .frz od (.dT es)) :: rowsL as vss) := fun x hx => by
      rcases List.mem_cons.mp hx with rfl | hx
      · exact ⟨upd_same, h2, h3, fun _ z => by cases z⟩
      · obtain ⟨k1, k2, k3, k4⟩ := u.pv x (by rw [hL]; exact List.mem_cons_of_mem _ hx)
        exact ⟨by rw [upd_ne fun z => nd'.1 (List.mem_map.mpr ⟨x, hx, z⟩)]; exact k1, k2, k3, k4⟩
    obtain ⟨F', st', le, all⟩ := Stp.frzL st1 pv1 (fun x hx => by
      rcases List.mem_cons.mp hx with rfl | hx
      · exact u.nw (p, .dT es) hmem
      · exact u.nw x (by rw [hL]; exact List.mem_cons_of_mem _ hx)) (by rw [hL] at nd; exact nd)
    exact q (.ref p) σV _ F' st' ⟨p, od, .dT es, rfl, all (p, .frz od (.dT es)) (by simp), .inr ⟨rfl, es, rfl, keyed_rep hk1 hk2 (rw_.mono le) fun x hx => all x (by simp [hx])⟩⟩
  · cases e
end
end Ev
end

section
set_option Elab.async false
set_option linter.all false
/-! EvWb: __init__ of the class Web: fields stored, rows filled, frozen. -/
namespace Ev
open PySem PySem.Spec PyProof.Rows L2
set_option autoImplicit false
theorem pss_ex {X : Cx} {l : List Stmt} {α : Type} {t : α → TS} (h : ∀ a, PSs X l (t a)) : PSs X l (fun D σ H => ∃ a, t a D σ H) := ⟨fun pins s σ H D I ⟨a, q⟩ => (h a).run pins s σ H D I q⟩
theorem UW.pokeI {K : PySem.W.Frag} {ct : Ct} {F0 H0 F H : Hp} {σV0 σV : L2.St} {σ0 σ : Fr} {R R' : Type} {I : Hp → R → Pv → Prop} {I' : Hp → R' → Pv → Prop} {L L' : Pv} {r : R} {r' : R'} {j : Nat} (u : UW K ct I j F0 H0 σV0 σ0 F H σV σ r L) {a : Addr} {o o' : HO} (ha : (a, o) ∈ L) (hn : ∀ xs, o' ≠ .tup xs)
    (hL : ∀ p ∈ L', (p.1 = a ∧ p.2 = o') ∨ (p ∈ L ∧ p.1 ≠ a) ∨ (p.1 ≠ a ∧ H p.1 = some p.2 ∧ F p.1 = none ∧ (¬ Own σV σ p.1) ∧ (∀ xs, p.2 ≠ .tup xs) ∧ H0 p.1 = none)) (hI : I' F r' L') (hh : L'.head?.map (·.1) = L.head?.map (·.1)) :
    UW K ct I' j F0 H0 σV0 σ0 F (upd H a o') σV σ r' L' := by
  obtain ⟨h1, h2, h3, h4⟩ := u.pv _ ha
  have k := (UW.poke2 (I := fun _ _ _ => True) (r := ()) (r' := ()) (L := L) (L' := L') ⟨u.st, u.pv, u.nw, True.intro, u.nb, u.rt⟩ ha hn hL True.intro hh)
  exact ⟨k.st, k.pv, k.nw, hI, k.nb, k.rt⟩
/-- what ends with the thing at x made: d -/
def rdW (X : Cx) (ct : Ct) {R : Type} (I : Hp → R → Pv → Prop) (x : Addr) (m : Fr → R → Option D) : TS := fun D σV H => ∃ F0 H0 σV0 σ0 F σ r L, UW X.K ct I 0 F0 H0 σV0 σ0 F H σV σ r L ∧ ∃ d, m σ r = some d ∧
  ∀ σV' σ' H' F', Stp X.K ct F0 H0 σV0 σ0 F' H' σV' σ' → DRep X.K ct F' d (.ref x) → D.nx σV' H'
abbrev UWs (X : Cx) (ct : Ct) {R : Type} (I : Hp → R → Pv → Prop) (x : Addr) (st : List Stmt) (m : Fr → R → Option D) : Prop := PSs X st (rdW X ct I x m)
def wSeq {R : Type} (m : MU R) (n : Fr → R → Option D) : Fr → R → Option D := fun σ r => match m σ r with
  | some (.nx, σ', r') => n σ' r'
  | _ => none
section
variable {R : Type} {X : Cx} {ct : Ct} {I : Hp → R → Pv → Prop} {st : Stmt} {rest : List Stmt} {x dx C : Addr}
theorem uws_cons {m : MU R} {n : Fr → R → Option D} (h : US X ct I 0 st m) (hs : UWs X ct I x rest n) : UWs X ct I x (st :: rest) (wSeq m n) := PSsimp (pss_cons h hs) fun D σV H ⟨F0, H0, σV0, σ0, F, σ, r, L, u, d, e, q⟩ => by
  unfold wSeq at e
  split at e
  · rename_i σ1 r1 h1
    exact ⟨F0, H0, σV0, σ0, F, σ, r, L, u, _, _, _, h1, fun v σV1 H1 F1 L1 u1 le1 _ => ⟨F0, H0, σV0, σ0, F1, σ1, r1, L1, u1, d, e, q⟩⟩
  · cases e
/-! ### the fields -/
def pT : Str := "tops"
def W0 (C x dx : Addr) : Hp → Unit → Pv → Prop := fun _ _ L => L = [(x, .ins C dx []), (dx, .own x)]
def W1 (K : PySem.W.Frag) (ct : Ct) (C x dx : Addr) : Hp → D → Pv → Prop := fun F d L => ∃ v, L = [(x, .ins C dx [("tops", v)]), (dx, .own x)] ∧ DRep K ct F d v
def W2 (K : PySem.W.Frag) (ct : Ct) (C x dx : Addr) (d : D) : Hp → Pv → Addr → Prop := fun F pre p => ∃ v, pre = [(x, .ins C dx [("tops", v), ("lots", .ref p)]), (dx, .own x)] ∧ DRep K ct F d v
def W3 (K : PySem.W.Frag) (ct : Ct) (C x dx : Addr) (d k : D) : Hp → Pv → Addr → Prop := fun F pre p => ∃ v u, pre = [(x, .ins C dx [("tops", v), ("lots", .ref p), ("known", u)]), (dx, .own x)] ∧ DRep K ct F d v ∧ DRep K ct F k u
theorem W0.mono : ∀ F F' r L, Le F F' → W0 C x dx F r L → W0 C x dx F' r L := fun _ _ _ _ _ h => h
theorem W1.mono {K : PySem.W.Frag} : ∀ F F' r L, Le F F' → W1 K ct C x dx F r L → W1 K ct C x dx F' r L := fun _ _ _ _ le ⟨v, h, r⟩ => ⟨v, h, r.mono le⟩
theorem W2.mono {K : PySem.W.Frag} {d : D} : ∀ F F' pre p, Le F F' → W2 K ct C x dx d F pre p → W2 K ct C x dx d F' pre p := fun _ _ _ _ le ⟨v, h, r⟩ => ⟨v, h, r.mono le⟩
theorem W3.mono {K : PySem.W.Frag} {d k : D} : ∀ F F' pre p, Le F F' → W3 K ct C x dx d k F pre p → W3 K ct C x dx d k F' pre p := fun _ _ _ _ le ⟨v, u, h, r, r2⟩ => ⟨v, u, h, r.mono le, r2.mono le⟩
theorem tl : ¬ (("tops" : Str) = "lots") := by decide +kernel
theorem tk : ¬ (("tops" : Str) = "known") := by decide +kernel
theorem lk : ¬ (("lots" : Str) = "known") := by decide +kernel
theorem put_l (v u : V) : putF "lots" u [("tops", v)] = [(("tops" : Str), v), ("lots", u)] := by
  show (if ("tops" : Str) = "lots" then (("tops" : Str), u) :: [] else (("tops" : Str), v) :: putF "lots" u []) = _
  rw [if_neg tl]; rfl
theorem put_k (v u w : V) : putF "known" w [("tops", v), ("lots", u)] = [(("tops" : Str), v), ("lots", u), ("known", w)] := by
  show (if ("tops" : Str) = "known" then (("tops" : Str), w) :: [("lots", u)] else (("tops" : Str), v) :: (if ("lots" : Str) = "known" then (("lots" : Str), w) :: [] else (("lots" : Str), u) :: putF "known" w [])) = _
  rw [if_neg tk, if_neg lk]; rfl
theorem look_l (v u : V) : ([(("tops" : Str), v), (("lots" : Str), u)] : List (Str × V)).lookup ("lots" : Str) = some u := by
  rw [← put_l, lookup_putF, if_pos rfl]
variable {o e : Expr} {p1 pos : Pos}
/-- self.tops = e -/
theorem uws_tops {m : M D} {n : D → Fr → Option D} (hC : Cls X.K C) (hno : NoAttr X.K C "tops") (ho : PE X o (tVar 0)) (he : SE X ct e m) (hxd : dx ≠ x) (hs : UWs X ct (W1 X.K ct C x dx) x rest (fun σ d => n d σ))
    (hsw : swapsWith e (some (.Attribute o "tops" p1)) pos.line X.env = pure false := by rfl) :
    UWs X ct (W0 C x dx) x (.Assign [.Attribute o "tops" p1] e pos :: rest) (fun σ _ => match m σ with
      | some (d, σ') => n d σ'
      | none => none) := PSsimp (pss_cons (ps_fld ho he hsw) hs) fun D σV H ⟨F0, H0, σV0, σ0, F, σ, r, L, u, d, e, q⟩ => by
  have e : (match m σ with
      | some (d, σ') => n d σ'
      | none => none) = some d := e
  split at e
  case h_2 => cases e
  rename_i d1 σ1 h1
  refine ⟨F, σ, u.st.w, d1, σ1, h1, fun v H1 F1 st1 rv => ?_⟩
  have u1 := u.step W0.mono st1
  have hL : L = [(x, .ins C dx []), (dx, .own x)] := u1.iv
  subst hL
  obtain ⟨_, a, ev, ha⟩ := u1.rt
  cases ha
  refine ⟨.ref x, ev, x, C, dx, [], rfl, (u1.pv (x, _) (by simp)).1, hC, hno, by decide, ?_⟩
  refine ⟨F0, H0, σV0, σ0, F1, σ1, d1, [(x, .ins C dx [("tops", v)]), (dx, .own x)], u1.pokeI (a := x) (o := .ins C dx []) (by simp) (fun _ z => by cases z) (fun y hy => ?_) ⟨v, rfl, rv⟩ rfl, d, e, q⟩
  rcases List.mem_cons.mp hy with rfl | hy
  · exact .inl ⟨rfl, rfl⟩
  · obtain rfl : y = (dx, .own x) := by simpa using hy
    exact .inr (.inl ⟨by simp, hxd⟩)
/-- self.known = e, the rows below -/
theorem uws_known {m : M D} {n : D → Fr → List (List D) → Option D} {d0 : D} (hC : Cls X.K C) (hno : NoAttr X.K C "known") (ho : PE X o (tVar 0)) (he : SE X ct e m) (hs : ∀ k, UWs X ct (IR X.K ct (W3 X.K ct C x dx d0 k)) x rest (n k))
    (hsw : swapsWith e (some (.Attribute o "known" p1)) pos.line X.env = pure false := by rfl) :
    UWs X ct (IR X.K ct (W2 X.K ct C x dx d0)) x (.Assign [.Attribute o "known" p1] e pos :: rest) (fun σ r => match m σ with
      | some (d, σ') => n d σ' r
      | none => none) := PSsimp (pss_cons (ps_fld ho he hsw) (pss_ex hs)) fun D σV H ⟨F0, H0, σV0, σ0, F, σ, r, L, u, d, e, q⟩ => by
  have e : (match m σ with
      | some (d, σ') => n d σ' r
      | none => none) = some d := e
  split at e
  case h_2 => cases e
  rename_i d1 σ1 h1
  refine ⟨F, σ, u.st.w, d1, σ1, h1, fun v H1 F1 st1 rv => ?_⟩
  have u1 := u.step (IR.mono W2.mono) st1
  obtain ⟨pre, p, as, vss, ⟨w, hpre, rw0⟩, hL, nd, rws⟩ := u1.iv
  subst hpre
  rw [List.cons_append, List.cons_append, List.nil_append] at hL
  obtain ⟨_, a, ev, ha⟩ := u1.rt
  rw [hL] at ha
  cases ha
  refine ⟨.ref x, ev, x, C, dx, _, rfl, (u1.pv (x, .ins C dx [("tops", w), ("lots", .ref p)]) (by rw [hL]; simp)).1, hC, hno, (by show 2 < 1000; decide), ?_⟩
  rw [put_k]
  have nd' := nd
  rw [hL, List.map_cons, List.nodup_cons] at nd'
  refine ⟨d1, F0, H0, σV0, σ0, F1, σ1, r, _, u1.pokeI (a := x) (o := .ins C dx [("tops", w), ("lots", .ref p)]) (o' := .ins C dx [("tops", w), ("lots", .ref p), ("known", v)]) (L' := (x, .ins C dx [("tops", w), ("lots", .ref p), ("known", v)]) :: (dx, .own x) :: (p, .lst (as.map V.ref)) :: rowsL as vss) (by rw [hL]; simp) (fun _ z => by cases z) (fun y hy => ?_) ⟨[(x, .ins C dx [("tops", w), ("lots", .ref p), ("known", v)]), (dx, .own x)], p, as, vss, ⟨w, v, rfl, rw0, rv⟩, rfl, ?_, rws⟩ (by rw [hL]; rfl), d, e, q⟩
  · rcases List.mem_cons.mp hy with rfl | hy
    · exact .inl ⟨rfl, rfl⟩
    · exact .inr (.inl ⟨by rw [hL]; exact List.mem_cons_of_mem _ hy, fun z => nd'.1 (List.mem_map.mpr ⟨y, hy, z⟩)⟩)
  · rw [hL] at nd; exact nd
/-- all frozen; then what looks at the thing -/
def wFz (d k : D) (m : M Fl) : Fr → List (List D) → Option D := fun σ r => match m (σ.set 0 (some (.imm (.ins 0 [d, .lst (r.map D.lst), k])))) with
  | some (.nx, _) => some (.ins 0 [d, .lst (r.map D.lst), k])
  | _ => none
theorem uws_fz {m : M Fl} {d0 k : D} (h : SSs X ct rest m) (hct : ct 0 = (C, (["tops", "lots", "known"] : List Str))) : UWs X ct (IR X.K ct (W3 X.K ct C x dx d0 k)) x rest (wFz d0 k m) := PSsimp h fun D σV H ⟨F0, H0, σV0, σ0, F, σ, r, L, u, d, e, q⟩ => by
  unfold wFz at e
  split at e
  case h_2 => cases e
  rename_i σ1 h1
  cases e
  obtain ⟨pre, p, as, vss, ⟨w, kv, hpre, rw0, rk⟩, hL, nd, rws⟩ := u.iv
  subst hpre
  rw [List.cons_append, List.cons_append, List.nil_append] at hL
  obtain ⟨⟨s0, es, _⟩, a, ev, ha⟩ := u.rt
  rw [hL] at ha
  cases ha
  obtain ⟨F', st', le, all⟩ := Stp.frzL u.st u.pv u.nw nd
  rw [hL] at all
  have rp : DRep X.K ct F' (.ins 0 [d0, .lst (r.map Ev.D.lst), k]) (.ref x) := by
    refine ⟨x, dx, [("tops", w), ("lots", .ref p), ("known", kv)], rfl, ?_, all (dx, .own x) (by simp), ?_, ?_⟩
    · rw [hct]; exact all (x, .ins C dx [("tops", w), ("lots", .ref p), ("known", kv)]) (by simp)
    · rw [hct]; rfl
    · exact ⟨w, _, rfl, rw0.mono le, .ref p, _, rfl, ⟨p, _, rfl, all (p, .lst (as.map V.ref)) (by simp), rows_reps (rws.mono le) fun y hy => all y (by simp [hy])⟩, kv, [], rfl, rk.mono le, rfl⟩
  have st2 := st'.unP (d := .ins 0 [d0, .lst (r.map Ev.D.lst), k]) u.nb es ev rp
  refine ⟨F', _, st2.w, _, _, h1, fun v σV2 H2 F2 st3 rr => q σV2 σ1 H2 F2 (st2.trans st3) (rp.mono st3.le)⟩
/-- self.lots = [[] for ..] -/
theorem uws_lots {it : MI} {T : Tg} {n : D → Fr → List (List D) → Option D} {tg iter : Expr} {scope : Scope} {own : List (Str × Nat)} {lpos cpos : Pos} (hC : Cls X.K C) (hno : NoAttr X.K C "lots") (ho : PE X o (tVar 0)) (hc : X.calm = true) (hN : X.N.Nodup) (hi : SI X ct tg iter it) (ok : BlkOk X.N X.env.scope scope own)
    (hg : ∀ (s : Shared) (H : Hp) (C : Addr) (cl : List (Str × Addr)) (fp : List Addr), SG (X.blk s H scope (compEnvC scope cl C X.env) fp) ct tg T) (hs : ∀ d, UWs X ct (IR X.K ct (W2 X.K ct C x dx d)) x rest (n d)) (hxd : dx ≠ x)
    (hT : ∀ i ∈ T.vs, i ∈ own.map (·.2) := by decide) (hf : ∀ x, foldedSetIterable iter X.env x = pure x := by intro _; rfl)
    (hsw : swapsWith (.ListComp (.List [] lpos) [⟨tg, iter, [], 0⟩] scope cpos) (some (.Attribute o "lots" p1)) pos.line X.env = pure false := by rfl) :
    UWs X ct (W1 X.K ct C x dx) x (.Assign [.Attribute o "lots" p1] (.ListComp (.List [] lpos) [⟨tg, iter, [], 0⟩] scope cpos) pos :: rest) (fun σ d => match mLc it T mYes (mC .non) (own.map (·.2)) σ with
      | some (.ls false xs, σ') => n d σ' (xs.map fun _ => [])
      | _ => none) :=
  PSsimp (pss_cons (ps_fld ho (PEimp (pe_lc (wi := iRd X ct it) (g := gRd X.K ct T) (tt := rdT X ct mYes) (te := tE0) hc hN hi ok hg (fun _ _ _ _ _ => sts_nil (ct := ct)) (fun _ _ _ _ _ => pe_e0) hf) fun σV H Q h => rows_imp hT h) hsw) (pss_ex hs)) fun D σV H ⟨F0, H0, σV0, σ0, F, σ, r, L, u, d, e, q⟩ => by
  have e : (match mLc it T mYes (mC .non) (own.map (·.2)) σ with
      | some (.ls false xs, σ') => n r σ' (xs.map fun _ => [])
      | _ => none) = some d := e
  split at e
  case h_2 => cases e
  rename_i xs σ1 h1
  refine ⟨F, σ, u.st.w, xs, σ1, h1, fun R as H1 F1 st1 hl pv nd nw => ?_⟩
  have u1 := u.step W1.mono st1
  obtain ⟨w, hL, rw0⟩ := u1.iv
  subst hL
  obtain ⟨_, a, ev, ha⟩ := u1.rt
  cases ha
  have hx1 := (u1.pv (x, .ins C dx [("tops", w)]) (by simp)).1
  have hd1 := (u1.pv (dx, .own x) (by simp)).1
  refine ⟨.ref x, ev, x, C, dx, _, rfl, hx1, hC, hno, (by show 1 < 1000; decide), ?_⟩
  rw [put_l]
  -- what stood there stood ahead
  have hx0 := (u.pv (x, .ins C dx [("tops", w)]) (by simp)).1
  have hd0 := (u.pv (dx, .own x) (by simp)).1
  have far : ∀ b ∈ R :: as, b ≠ x ∧ b ≠ dx := fun b hb => ⟨(fun z => by have := nw b hb; rw [z, hx0] at this; cases this), (fun z => by have := nw b hb; rw [z, hd0] at this; cases this)⟩
  have all1 : ∀ p ∈ (R, HO.lst (as.map V.ref)) :: rowsL as (as.map fun _ => []), p.1 ∈ R :: as ∧ H1 p.1 = some p.2 ∧ F1 p.1 = none ∧ (¬ Own σV σ1 p.1) ∧ (∀ xs, p.2 ≠ .tup xs) := fun p hp => by
    rw [rowsL_nil] at hp
    obtain ⟨k1, k2, k3, k4⟩ := pv p hp
    refine ⟨?_, k1, k2, k3, k4⟩
    rcases List.mem_cons.mp hp with rfl | hp
    · simp
    · obtain ⟨a, ha, rfl⟩ := List.mem_map.mp hp; simp [ha]
  refine ⟨r, F0, H0, σV0, σ0, F1, σ1, xs.map fun _ => [], _, u1.pokeI (a := x) (o := .ins C dx [("tops", w)]) (o' := .ins C dx [("tops", w), ("lots", .ref R)]) (L' := (x, .ins C dx [("tops", w), ("lots", .ref R)]) :: (dx, .own x) :: (R, .lst (as.map V.ref)) :: rowsL as (as.map fun _ => [])) (by simp) (fun _ z => by cases z) (fun y hy => ?_) ⟨[(x, .ins C dx [("tops", w), ("lots", .ref R)]), (dx, .own x)], R, as, as.map fun _ => [], ⟨w, rfl, rw0⟩, rfl, ?_, ?_⟩ rfl, d, e, q⟩
  · rcases List.mem_cons.mp hy with rfl | hy
    · exact .inl ⟨rfl, rfl⟩
    rcases List.mem_cons.mp hy with rfl | hy
    · exact .inr (.inl ⟨by simp, hxd⟩)
    · obtain ⟨k0, k1, k2, k3, k4⟩ := all1 y hy
      exact .inr (.inr ⟨(far _ k0).1, k1, k2, k3, k4, u.st.there _ (nw _ k0)⟩)
  · rw [List.map_cons, List.map_cons, List.map_cons, rows_keys (by simp), List.nodup_cons, List.nodup_cons]
    refine ⟨fun z => ?_, fun z => (far _ z).2 rfl, nd⟩
    rcases List.mem_cons.mp z with z | z
    · exact hxd z.symm
    · exact (far _ z).1 rfl
  · refine ⟨by simp [hl], by simp [hl], fun i l e => ?_⟩
    rw [List.getElem?_map] at e
    cases q : xs[i]? with
    | none => rw [q] at e; cases e
    | some y =>
      rw [q] at e; cases e
      have hi : i < as.length := by rw [hl]; exact (List.getElem?_eq_some_iff.mp q).1
      exact ⟨[], by rw [List.getElem?_map, List.getElem?_eq_getElem hi]; rfl, rfl⟩
theorem hrdW {K : PySem.W.Frag} {d : D} (hC : Cls K C) (hno : NoAttr K C "lots") : ∀ (F : Hp) (σV : L2.St) (H : Hp) (pre : Pv) (p : Addr) (Q : VK), W2 K ct C x dx d F pre p → (∀ q ∈ pre, H q.1 = some q.2) → (∃ a, σV[0]? = some (some (.ref a)) ∧ (pre ++ [(p, HO.lst [])]).head?.map (·.1) = some a) → Q (.ref p) H → tFld K (tVar 0) "lots" σV H Q := fun F σV H pre p Q ⟨w, hp, _⟩ hH ⟨a, ev, ha⟩ q => by
  subst hp
  cases ha
  exact ⟨.ref x, ev, x, C, dx, _, .ref p, rfl, hH (x, .ins C dx [("tops", w), ("lots", .ref p)]) (by simp), hC, hno, look_l _ _, q⟩
end
end Ev
end

section
set_option Elab.async false
set_option linter.all false
/-! EvWc: the promise of Web's __init__, Web(..) as a value. -/
namespace Ev
open PySem PySem.Spec PyProof.Rows L2
set_option autoImplicit false
def runW (n : Nat) (m : Fr → Unit → Option D) : List D → Option D
  | [d] => m (some .prv :: some (.imm d) :: List.replicate (n - 2) none) ()
  | _ => none
def spInit (K : PySem.W.Frag) (C : Addr) (g : List D → Option D) : Sp := fun vs H Q _ => ∃ F H0 x dx v d s, vs = [.ref x, v] ∧ H = upd (upd H0 dx (.own x)) x (.ins C dx []) ∧ H0 x = none ∧ H0 dx = none ∧ dx ≠ x ∧ Le F H0 ∧ DRep K (ctW C) F d v ∧ g [d] = some s ∧
  ∀ F' H', Grw F H0 F' H' → DRep K (ctW C) F' s (.ref x) → Q .non H'
structure WebOk (P : Program) (w : World) (K : PySem.W.Frag) (mg : Str → Option Value) (base : Heap) (C : Addr) (k : Nat) (g : List D → Option D) : Prop where
  ex : ∃ (f : Addr) (fd : FuncData), Mk K C f ∧ FnOk P w K mg base CX0 k f fd ["self", "tops"] (spInit K C g) ∧ mg "Web" = some (.ref C) ∧ Binds K fd ["self", "tops"] []
section
variable {P : Program} {w : World} {K : PySem.W.Frag} {mg : Str → Option Value} {base : Heap} {x qual : Str} {params : Arguments} {body : List Stmt} {scope : Scope} {f : Addr} {fd : FuncData} {N : List Str} {k : Nat} {C : Addr} {m : Fr → Unit → Option D}
theorem fokW (Fd : FunD K x qual params body scope [] [] f fd) (S : FnScope N ["self", "tops"] scope)
    (hb : ∀ (cdv : Value) (A : Around) (outer : List Env) (s : Shared) (H : Hp) (E : XK) (x dx : Addr), dx ≠ x → Room k (A.deeper (envOfC qual scope s.heap.objs.size f cdv)) → UWs (cxOf CX0 P w K mg base N qual scope f cdv A outer s H E).nox (ctW C) (W0 C x dx) x body m) :
    FnOk P w K mg base CX0 (k + 1) f fd ["self", "tops"] (spInit K C (runW N.length m)) := by
  refine Fd.ok S (fun vs H Q E ⟨_, _, _, _, _, _, _, e, _⟩ => by rw [e]; rfl) fun cdv A outer s H vs Q E hr h => ?_
  obtain ⟨F, H0, x, dx, v, d, r, rfl, rfl, hx, hdx, ne, le, rd, hg, q⟩ := h
  refine ⟨_, PSs.nox (hb cdv A outer s _ E x dx ne hr), ?_⟩
  have hn : 2 ≤ N.length := by have := congrArg List.length S.pre; simp at this; omega
  have hV : L2.start N [.ref x, v] = some (.ref x) :: some v :: List.replicate (N.length - 2) none := rfl
  rw [hV]
  generalize hm : N.length - 2 = n
  have no : ∀ (s0 : Option Ev.S), (s0 = none ∨ s0 = some .prv) → ∀ a, ¬ Own (some (V.ref x) :: some v :: List.replicate n none) (s0 :: some (.imm d) :: List.replicate n none) a := fun s0 h0 a ⟨i, t, e, to, _⟩ => by
    cases i with
    | zero => rcases h0 with rfl | rfl <;> cases e; cases to
    | succ i =>
      cases i with
      | zero => cases e; cases to
      | succ i =>
        rw [List.getElem?_cons_succ, List.getElem?_cons_succ, List.getElem?_replicate] at e
        split at e <;> cases e
  have w0 : Wd K (ctW C) F H0 (some (V.ref x) :: some v :: List.replicate n none) (none :: some (.imm d) :: List.replicate n none) := by
    refine ⟨le, fun i t e => ?_, fun i j t t' a ei ej so so' ai aj => absurd ⟨i, t, ei, so, ai⟩ (no none (.inl rfl) a), by simp⟩
    cases i with
    | zero => cases e
    | succ i =>
      cases i with
      | zero => cases e; exact ⟨v, rfl, rd⟩
      | succ i =>
        rw [List.getElem?_cons_succ, List.getElem?_cons_succ, List.getElem?_replicate] at e
        split at e <;> cases e
  have st1 := Stp.lay w0 hdx (o := .own x)
  have hx1 : upd H0 dx (.own x) x = none := by rw [upd_ne (Ne.symm ne)]; exact hx
  have st2 := st1.trans (Stp.lay st1.w hx1 (o := .ins C dx []))
  have st3 := st2.setP (i := 0) (a := x) rfl
  have h : m (some .prv :: some (.imm d) :: List.replicate n none) () = some r := by rw [← hm]; exact hg
  refine ⟨F, H0, _, _, F, some .prv :: some (.imm d) :: List.replicate n none, (), [(x, .ins C dx []), (dx, .own x)], ⟨st3, fun p hp => ?_, fun p hp => ?_, rfl, (fun s e => by cases e), ⟨.prv, rfl, rfl⟩, x, rfl, rfl⟩, r, h, fun σV' σ' H' F' st rr => q F' H' (stp_grw st (no none (.inl rfl))) rr⟩
  · rcases List.mem_cons.mp hp with rfl | hp
    · exact ⟨upd_same, le.none hx, no _ (.inr rfl) _, (fun _ z => by cases z)⟩
    · obtain rfl : p = (dx, .own x) := by simpa using hp
      exact ⟨by rw [upd_ne ne, upd_same], le.none hdx, no _ (.inr rfl) _, (fun _ z => by cases z)⟩
  · rcases List.mem_cons.mp hp with rfl | hp
    · exact hx
    · obtain rfl : p = (dx, .own x) := by simpa using hp
      exact hdx
end
section
variable {X : Cx} {C : Addr} {k j : Nat} {g : List D → Option D} {p pos : Pos} {e : Expr} {ms : List (M D)}
theorem sf_web (W : WebOk X.prog X.w X.K X.mg X.base C k g) (hr : Room j X.A) (hj : k + 1 ≤ j) (hg : Gl X "Web") (ha : SEs X (ctW C) [e] ms)
    (he : starEach [e] X.env = (false, eval e X.env) :: starEach [] X.env := by rfl) (hpl : (backTo pos (starEach [] X.env)).any (·.1) = false := by rfl) :
    SF X (ctW C) (.Call (.Name "Web" p) [e] [] pos) (mCall 1 (fun ds => (g ds).map .imm) ms) := by
  obtain ⟨f, fd, M, Fk, hm, hb⟩ := W.ex
  refine PEimp (pe_make (E := E0) M Fk (hr.mono hj) hg hm hb .nil (fun _ _ _ _ _ _ _ h => h.elim) ha (by decide) he hpl) fun σV H Q ⟨F, σ, w, s, σ', e, q⟩ => ?_
  unfold mCall at e
  split at e
  · rename_i ds σ1 h1
    split at e
    · rename_i hl
      split at e
      · rename_i s' hg'
        cases e
        refine tL_ok (F := F) (H := H) w h1 fun vs H1 F1 st rs x dx hx hdx ne => ?_
        match ds, hl, rs with
        | [d], _, rs =>
          obtain ⟨v, t, rfl, rd, ht⟩ := rs
          obtain rfl : t = [] := ht
          obtain ⟨s0, e0, e1⟩ := Option.map_eq_some_iff.mp hg'
          subst e1
          exact ⟨F1, H1, x, dx, v, d, s0, rfl, rfl, hx, hdx, ne, st.w.le, rd, e0, fun F2 H2 gr rr => ⟨rfl, q _ H2 F2 (st.trans (gr.stp st.w)) rr⟩⟩
      · cases e
    · cases e
  · cases e
end
end Ev
end

section
set_option Elab.async false
set_option linter.all false
/-! EvWd: the mirrors of Web's stores, by names. -/
namespace Ev
open PySem PySem.Spec PyProof.Rows L2
set_option autoImplicit false
def wTops (m : M D) (n : Fr → D → Option D) : Fr → Unit → Option D := fun σ _ => match m σ with
  | some (d, σ') => n σ' d
  | none => none
def wLots (it : MI) (T : Tg) (vs : List Nat) (n : D → Fr → List (List D) → Option D) : Fr → D → Option D := fun σ d => match mLc it T mYes (mC .non) vs σ with
  | some (.ls false xs, σ') => n d σ' (xs.map fun _ => [])
  | _ => none
def wKnown (m : M D) (n : D → Fr → List (List D) → Option D) : Fr → List (List D) → Option D := fun σ r => match m σ with
  | some (d, σ') => n d σ' r
  | none => none
section
variable {X : Cx} {ct : Ct} {rest : List Stmt} {x dx C : Addr} {o e : Expr} {p1 pos : Pos}
theorem uws_tops' {m : M D} {n : Fr → D → Option D} (hC : Cls X.K C) (hno : NoAttr X.K C "tops") (ho : PE X o (tVar 0)) (he : SE X ct e m) (hxd : dx ≠ x) (hs : UWs X ct (W1 X.K ct C x dx) x rest n)
    (hsw : swapsWith e (some (.Attribute o "tops" p1)) pos.line X.env = pure false := by rfl) : UWs X ct (W0 C x dx) x (.Assign [.Attribute o "tops" p1] e pos :: rest) (wTops m n) := uws_tops (n := fun d σ => n σ d) hC hno ho he hxd hs hsw
theorem uws_known' {m : M D} {n : D → Fr → List (List D) → Option D} {d0 : D} (hC : Cls X.K C) (hno : NoAttr X.K C "known") (ho : PE X o (tVar 0)) (he : SE X ct e m) (hs : ∀ k, UWs X ct (IR X.K ct (W3 X.K ct C x dx d0 k)) x rest (n k))
    (hsw : swapsWith e (some (.Attribute o "known" p1)) pos.line X.env = pure false := by rfl) : UWs X ct (IR X.K ct (W2 X.K ct C x dx d0)) x (.Assign [.Attribute o "known" p1] e pos :: rest) (wKnown m n) := uws_known hC hno ho he hs hsw
theorem uws_lots' {it : MI} {T : Tg} {n : D → Fr → List (List D) → Option D} {tg iter : Expr} {scope : Scope} {own : List (Str × Nat)} {lpos cpos : Pos} (hC : Cls X.K C) (hno : NoAttr X.K C "lots") (ho : PE X o (tVar 0)) (hc : X.calm = true) (hN : X.N.Nodup) (hi : SI X ct tg iter it) (ok : BlkOk X.N X.env.scope scope own)
    (hg : ∀ (s : Shared) (H : Hp) (C : Addr) (cl : List (Str × Addr)) (fp : List Addr), SG (X.blk s H scope (compEnvC scope cl C X.env) fp) ct tg T) (hs : ∀ d, UWs X ct (IR X.K ct (W2 X.K ct C x dx d)) x rest (n d)) (hxd : dx ≠ x)
    (hT : ∀ i ∈ T.vs, i ∈ own.map (·.2) := by decide) (hf : ∀ x, foldedSetIterable iter X.env x = pure x := by intro _; rfl)
    (hsw : swapsWith (.ListComp (.List [] lpos) [⟨tg, iter, [], 0⟩] scope cpos) (some (.Attribute o "lots" p1)) pos.line X.env = pure false := by rfl) :
    UWs X ct (W1 X.K ct C x dx) x (.Assign [.Attribute o "lots" p1] (.ListComp (.List [] lpos) [⟨tg, iter, [], 0⟩] scope cpos) pos :: rest) (wLots it T (own.map (·.2)) n) := uws_lots hC hno ho hc hN hi ok hg hs hxd hT hf hsw
end
end Ev
end

section
set_option Elab.async false
set_option linter.all false
set_option maxRecDepth 100000
set_option maxHeartbeats 0
namespace Hd
open PySem PySem.Spec PyProof.Rows L2
def top (i : Nat) : Stmt := PySem.Challenge.pw_fillorgauge_k59_whole_rings_led_round_ri.main.body.getD i (.Pass ⟨0, 0, 0, 0⟩)
abbrev s_is_integer : Stmt := top 1
def d_is_integer : He.DefD := ⟨("is_integer", none), "is_integer", "is_integer", defArgs s_is_integer, defBody s_is_integer, defScope s_is_integer, [], []⟩
abbrev s_is_number : Stmt := top 2
def d_is_number : He.DefD := ⟨("is_number", none), "is_number", "is_number", defArgs s_is_number, defBody s_is_number, defScope s_is_number, [], []⟩
abbrev s_is_from_nought : Stmt := top 3
def d_is_from_nought : He.DefD := ⟨("is_from_nought", none), "is_from_nought", "is_from_nought", defArgs s_is_from_nought, defBody s_is_from_nought, defScope s_is_from_nought, [], []⟩
abbrev s_is_modulus : Stmt := top 4
def d_is_modulus : He.DefD := ⟨("is_modulus", none), "is_modulus", "is_modulus", defArgs s_is_modulus, defBody s_is_modulus, defScope s_is_modulus, [], []⟩
abbrev s_is_pair : Stmt := top 5
def d_is_pair : He.DefD := ⟨("is_pair", none), "is_pair", "is_pair", defArgs s_is_pair, defBody s_is_pair, defScope s_is_pair, [], []⟩
abbrev s_is_ascending : Stmt := top 6
def d_is_ascending : He.DefD := ⟨("is_ascending", none), "is_ascending", "is_ascending", defArgs s_is_ascending, defBody s_is_ascending, defScope s_is_ascending, [], []⟩
abbrev s_TooMany_init : Stmt := inClass (top 16) 0
abbrev s_is_side_form : Stmt := top 21
def d_is_side_form : He.DefD := ⟨("is_side_form", none), "is_side_form", "is_side_form", defArgs s_is_side_form, defBody s_is_side_form, defScope s_is_side_form, [], []⟩
abbrev s_parts_of : Stmt := top 22
def d_parts_of : He.DefD := ⟨("parts_of", none), "parts_of", "parts_of", defArgs s_parts_of, defBody s_parts_of, defScope s_parts_of, [], []⟩
abbrev s_walls_of : Stmt := top 23
def d_walls_of : He.DefD := ⟨("walls_of", none), "walls_of", "walls_of", defArgs s_walls_of, defBody s_walls_of, defScope s_walls_of, [], []⟩
abbrev s_is_within : Stmt := top 24
def d_is_within : He.DefD := ⟨("is_within", none), "is_within", "is_within", defArgs s_is_within, defBody s_is_within, defScope s_is_within, [], []⟩
abbrev s_Web_init : Stmt := inClass (top 25) 0
def d_Web_init : He.DefD := ⟨("Web", some "__init__"), "__init__", "Web.__init__", defArgs s_Web_init, defBody s_Web_init, defScope s_Web_init, [], []⟩
abbrev s_Web_eq : Stmt := inClass (top 25) 1
def d_Web_eq : He.DefD := ⟨("Web", some "__eq__"), "__eq__", "Web.__eq__", defArgs s_Web_eq, defBody s_Web_eq, defScope s_Web_eq, [], []⟩
abbrev s_check_tops : Stmt := top 26
def d_check_tops : He.DefD := ⟨("check_tops", none), "check_tops", "check_tops", defArgs s_check_tops, defBody s_check_tops, defScope s_check_tops, [], []⟩
abbrev s_check_walls : Stmt := top 27
def d_check_walls : He.DefD := ⟨("check_walls", none), "check_walls", "check_walls", defArgs s_check_walls, defBody s_check_walls, defScope s_check_walls, [], []⟩
abbrev s_degree_asked : Stmt := top 28
def d_degree_asked : He.DefD := ⟨("degree_asked", none), "degree_asked", "degree_asked", defArgs s_degree_asked, defBody s_degree_asked, defScope s_degree_asked, [], []⟩
abbrev s_sides_of : Stmt := top 29
def d_sides_of : He.DefD := ⟨("sides_of", none), "sides_of", "sides_of", defArgs s_sides_of, defBody s_sides_of, defScope s_sides_of, [], []⟩
abbrev s_modulus_asked : Stmt := top 31
def d_modulus_asked : He.DefD := ⟨("modulus_asked", none), "modulus_asked", "modulus_asked", defArgs s_modulus_asked, defBody s_modulus_asked, defScope s_modulus_asked, [], []⟩
abbrev s_is_worth : Stmt := top 32
def d_is_worth : He.DefD := ⟨("is_worth", none), "is_worth", "is_worth", defArgs s_is_worth, defBody s_is_worth, defScope s_is_worth, [], []⟩
abbrev s_is_sum_of_sides : Stmt := top 33
def d_is_sum_of_sides : He.DefD := ⟨("is_sum_of_sides", none), "is_sum_of_sides", "is_sum_of_sides", defArgs s_is_sum_of_sides, defBody s_is_sum_of_sides, defScope s_is_sum_of_sides, [], []⟩
abbrev s_chain_asked : Stmt := top 34
def d_chain_asked : He.DefD := ⟨("chain_asked", none), "chain_asked", "chain_asked", defArgs s_chain_asked, defBody s_chain_asked, defScope s_chain_asked, [], []⟩
abbrev s_chain_of : Stmt := top 35
def d_chain_of : He.DefD := ⟨("chain_of", none), "chain_of", "chain_of", defArgs s_chain_of, defBody s_chain_of, defScope s_chain_of, [], []⟩
abbrev s_corners_once : Stmt := top 37
def d_corners_once : He.DefD := ⟨("corners_once", none), "corners_once", "corners_once", defArgs s_corners_once, defBody s_corners_once, defScope s_corners_once, [], []⟩
abbrev s_in_order : Stmt := top 38
def d_in_order : He.DefD := ⟨("in_order", none), "in_order", "in_order", defArgs s_in_order, defBody s_in_order, defScope s_in_order, [], []⟩
abbrev s_has_form_of_map : Stmt := top 39
def d_has_form_of_map : He.DefD := ⟨("has_form_of_map", none), "has_form_of_map", "has_form_of_map", defArgs s_has_form_of_map, defBody s_has_form_of_map, defScope s_has_form_of_map, [], []⟩
abbrev s_maps : Stmt := top 40
def d_maps : He.DefD := ⟨("maps", none), "maps", "maps", defArgs s_maps, defBody s_maps, defScope s_maps, [], []⟩
abbrev s_is_map : Stmt := top 41
def d_is_map : He.DefD := ⟨("is_map", none), "is_map", "is_map", defArgs s_is_map, defBody s_is_map, defScope s_is_map, [], []⟩
abbrev s_map_asked : Stmt := top 42
def d_map_asked : He.DefD := ⟨("map_asked", none), "map_asked", "map_asked", defArgs s_map_asked, defBody s_map_asked, defScope s_map_asked, [], []⟩
abbrev s_put_row : Stmt := top 43
def d_put_row : He.DefD := ⟨("put_row", none), "put_row", "put_row", defArgs s_put_row, defBody s_put_row, defScope s_put_row, [], []⟩
abbrev s_led : Stmt := top 44
def d_led : He.DefD := ⟨("led", none), "led", "led", defArgs s_led, defBody s_led, defScope s_led, [], []⟩
abbrev s_led_chain : Stmt := top 45
def d_led_chain : He.DefD := ⟨("led_chain", none), "led_chain", "led_chain", defArgs s_led_chain, defBody s_led_chain, defScope s_led_chain, [], []⟩
abbrev s_behind : Stmt := top 46
def d_behind : He.DefD := ⟨("behind", none), "behind", "behind", defArgs s_behind, defBody s_behind, defScope s_behind, [], []⟩
abbrev s_tops_by_wall : Stmt := top 48
def d_tops_by_wall : He.DefD := ⟨("tops_by_wall", none), "tops_by_wall", "tops_by_wall", defArgs s_tops_by_wall, defBody s_tops_by_wall, defScope s_tops_by_wall, [], []⟩
abbrev s_sign_in : Stmt := top 49
def d_sign_in : He.DefD := ⟨("sign_in", none), "sign_in", "sign_in", defArgs s_sign_in, defBody s_sign_in, defScope s_sign_in, [], []⟩
abbrev s_mates_of : Stmt := top 50
def d_mates_of : He.DefD := ⟨("mates_of", none), "mates_of", "mates_of", defArgs s_mates_of, defBody s_mates_of, defScope s_mates_of, [], []⟩
abbrev s_walked_from_first : Stmt := top 51
def d_walked_from_first : He.DefD := ⟨("walked_from_first", none), "walked_from_first", "walked_from_first", defArgs s_walked_from_first, defBody s_walked_from_first, defScope s_walked_from_first, [], []⟩
abbrev s_is_sheet : Stmt := top 52
def d_is_sheet : He.DefD := ⟨("is_sheet", none), "is_sheet", "is_sheet", defArgs s_is_sheet, defBody s_is_sheet, defScope s_is_sheet, [], []⟩
abbrev s_sheet_asked : Stmt := top 53
def d_sheet_asked : He.DefD := ⟨("sheet_asked", none), "sheet_asked", "sheet_asked", defArgs s_sheet_asked, defBody s_sheet_asked, defScope s_sheet_asked, [], []⟩
abbrev s_rim_walls : Stmt := top 54
def d_rim_walls : He.DefD := ⟨("rim_walls", none), "rim_walls", "rim_walls", defArgs s_rim_walls, defBody s_rim_walls, defScope s_rim_walls, [], []⟩
abbrev s_way_back : Stmt := top 55
def d_way_back : He.DefD := ⟨("way_back", none), "way_back", "way_back", defArgs s_way_back, defBody s_way_back, defScope s_way_back, [], []⟩
abbrev s_turned_ring : Stmt := top 56
def d_turned_ring : He.DefD := ⟨("turned_ring", none), "turned_ring", "turned_ring", defArgs s_turned_ring, defBody s_turned_ring, defScope s_turned_ring, [], []⟩
abbrev s_told_signs : Stmt := top 57
def d_told_signs : He.DefD := ⟨("told_signs", none), "told_signs", "told_signs", defArgs s_told_signs, defBody s_told_signs, defScope s_told_signs, [], []⟩
abbrev s_whole_chain : Stmt := top 58
def d_whole_chain : He.DefD := ⟨("whole_chain", none), "whole_chain", "whole_chain", defArgs s_whole_chain, defBody s_whole_chain, defScope s_whole_chain, [], []⟩
abbrev s_closed_sheet_asked : Stmt := top 59
def d_closed_sheet_asked : He.DefD := ⟨("closed_sheet_asked", none), "closed_sheet_asked", "closed_sheet_asked", defArgs s_closed_sheet_asked, defBody s_closed_sheet_asked, defScope s_closed_sheet_asked, [], []⟩
abbrev s_turns_sign : Stmt := top 60
def d_turns_sign : He.DefD := ⟨("turns_sign", none), "turns_sign", "turns_sign", defArgs s_turns_sign, defBody s_turns_sign, defScope s_turns_sign, [], []⟩
abbrev s_led_sign : Stmt := top 61
def d_led_sign : He.DefD := ⟨("led_sign", none), "led_sign", "led_sign", defArgs s_led_sign, defBody s_led_sign, defScope s_led_sign, [], []⟩
abbrev s_degree_of : Stmt := top 62
def d_degree_of : He.DefD := ⟨("degree_of", none), "degree_of", "degree_of", defArgs s_degree_of, defBody s_degree_of, defScope s_degree_of, [], []⟩
abbrev s_law_hand : Stmt := top 64
def d_law_hand : He.DefD := ⟨("_law_hand", none), "_law_hand", "_law_hand", defArgs s_law_hand, defBody s_law_hand, defScope s_law_hand, [], []⟩
abbrev s_law_draw : Stmt := top 65
def d_law_draw : He.DefD := ⟨("_law_draw", none), "_law_draw", "_law_draw", defArgs s_law_draw, defBody s_law_draw, defScope s_law_draw, [], []⟩
abbrev s_law_parts : Stmt := top 66
def d_law_parts : He.DefD := ⟨("_law_parts", none), "_law_parts", "_law_parts", defArgs s_law_parts, defBody s_law_parts, defScope s_law_parts, [], []⟩
abbrev s_law_web : Stmt := top 67
def d_law_web : He.DefD := ⟨("_law_web", none), "_law_web", "_law_web", defArgs s_law_web, defBody s_law_web, defScope s_law_web, [], []⟩
abbrev s_law_rims : Stmt := top 68
def d_law_rims : He.DefD := ⟨("_law_rims", none), "_law_rims", "_law_rims", defArgs s_law_rims, defBody s_law_rims, defScope s_law_rims, [], []⟩
abbrev s_law_chain : Stmt := top 69
def d_law_chain : He.DefD := ⟨("_law_chain", none), "_law_chain", "_law_chain", defArgs s_law_chain, defBody s_law_chain, defScope s_law_chain, [], []⟩
abbrev s_law_sum : Stmt := top 70
def d_law_sum : He.DefD := ⟨("_law_sum", none), "_law_sum", "_law_sum", defArgs s_law_sum, defBody s_law_sum, defScope s_law_sum, [], []⟩
abbrev s_law_ring : Stmt := top 71
def d_law_ring : He.DefD := ⟨("_law_ring", none), "_law_ring", "_law_ring", defArgs s_law_ring, defBody s_law_ring, defScope s_law_ring, [], []⟩
abbrev s_law_walk : Stmt := top 72
def d_law_walk : He.DefD := ⟨("_law_walk", none), "_law_walk", "_law_walk", defArgs s_law_walk, defBody s_law_walk, defScope s_law_walk, [], []⟩
abbrev s_law_round : Stmt := top 73
def d_law_round : He.DefD := ⟨("_law_round", none), "_law_round", "_law_round", defArgs s_law_round, defBody s_law_round, defScope s_law_round, [], []⟩
abbrev s_law_up : Stmt := top 74
def d_law_up : He.DefD := ⟨("_law_up", none), "_law_up", "_law_up", defArgs s_law_up, defBody s_law_up, defScope s_law_up, [], []⟩
abbrev s_law : Stmt := top 75
def d_law : He.DefD := ⟨("law", none), "law", "law", defArgs s_law, defBody s_law, defScope s_law, [], []⟩
def fn : List He.DefD := [d_is_integer, d_is_number, d_is_from_nought, d_is_modulus, d_is_pair, d_is_ascending, d_is_side_form, d_parts_of, d_walls_of, d_is_within, d_Web_init, d_Web_eq, d_check_tops, d_check_walls, d_degree_asked, d_sides_of, d_modulus_asked, d_is_worth, d_is_sum_of_sides, d_chain_asked, d_chain_of, d_corners_once, d_in_order, d_has_form_of_map, d_maps, d_is_map, d_map_asked, d_put_row, d_led, d_led_chain, d_behind, d_tops_by_wall, d_sign_in, d_mates_of, d_walked_from_first, d_is_sheet, d_sheet_asked, d_rim_walls, d_way_back, d_turned_ring, d_told_signs, d_whole_chain, d_closed_sheet_asked, d_turns_sign, d_led_sign, d_degree_of, d_law_hand, d_law_draw, d_law_parts, d_law_web, d_law_rims, d_law_chain, d_law_sum, d_law_ring, d_law_walk, d_law_round, d_law_up, d_law]
def fa : List He.Fa := [.glo "is_integer", .glo "is_number", .glo "is_from_nought", .glo "is_modulus", .glo "is_pair", .glo "is_ascending", .int "MOST_CORNER" 999, .int "MOST_CORNERS" 7, .int "MOST_SIDES" 600, .glo "is_side_form", .glo "parts_of", .glo "walls_of", .glo "is_within", .glo "check_tops", .glo "check_walls", .glo "degree_asked", .glo "sides_of", .glo "modulus_asked", .glo "is_worth", .glo "is_sum_of_sides", .glo "chain_asked", .glo "chain_of", .glo "corners_once", .glo "in_order", .glo "has_form_of_map", .glo "maps", .glo "is_map", .glo "map_asked", .glo "put_row", .glo "led", .glo "led_chain", .glo "behind", .glo "tops_by_wall", .glo "sign_in", .glo "mates_of", .glo "walked_from_first", .glo "is_sheet", .glo "sheet_asked", .glo "rim_walls", .glo "way_back", .glo "turned_ring", .glo "told_signs", .glo "whole_chain", .glo "closed_sheet_asked", .glo "turns_sign", .glo "led_sign", .glo "degree_of", .glo "_law_hand", .glo "_law_draw", .glo "_law_parts", .glo "_law_web", .glo "_law_rims", .glo "_law_chain", .glo "_law_sum", .glo "_law_ring", .glo "_law_walk", .glo "_law_round", .glo "_law_up", .glo "law", .free "ValueError", .free "abs", .free "all", .free "any", .free "bool", .free "dict", .free "enumerate", .free "int", .free "isinstance", .free "len", .free "range", .free "sorted", .free "super", .free "tuple", .free "zip", .glo "Web", .cls "Web", .mkr "Web", .noat "Web" "tops", .noat "Web" "lots", .noat "Web" "known"]
def lo0 : List PySem.Str := ["is_integer", "is_number", "is_from_nought", "is_modulus", "is_pair", "is_ascending", "WebError", "BadWeb", "NoDegree", "NoModulus", "NoChain", "NoMap", "NoSheet", "NoSigns", "TooMany", "MOST_CORNER", "MOST_CORNERS", "MOST_SIDES", "is_side_form", "parts_of", "walls_of", "is_within", "Web", "check_tops", "check_walls", "degree_asked", "sides_of", "modulus_asked", "is_worth", "is_sum_of_sides"]
def lo1 : List PySem.Str := ["chain_asked", "chain_of", "corners_once", "in_order", "has_form_of_map", "maps", "is_map", "map_asked", "put_row", "led", "led_chain", "behind", "tops_by_wall", "sign_in", "mates_of", "walked_from_first", "is_sheet", "sheet_asked", "rim_walls", "way_back", "turned_ring", "told_signs", "whole_chain", "closed_sheet_asked", "turns_sign", "led_sign", "degree_of", "_law_hand", "_law_draw", "_law_parts"]
def lo2 : List PySem.Str := ["_law_web", "_law_rims", "_law_chain", "_law_sum", "_law_ring", "_law_walk", "_law_round", "_law_up"]
def loose : List PySem.Str := lo0 ++ lo1 ++ lo2
abbrev R : PySem.W.OpenRow := PySem.W.OpenLaw.row PySem.Challenge.rw_fillorgauge_k59_whole_rings_led_round_ri
def exB (K : PySem.W.Frag) : Bool := He.eqO (PySem.W.findIn K (.ref (He.ga K "Web")) "__class__") (some (some (.builtin "object.__class__"))) && (He.eqO (PySem.W.specialIn K (.builtin "object.__class__") "__get__") (some (some (.builtin "getset_descriptor.__get__"))) &&
  (decide (PySem.W.takesIn K (.builtin "object.__class__") = some true) && (decide (PySem.W.mroIn K (He.ga K "Web") (.type "object") = some true) && decide (PySem.W.kitOne K (.ref (He.ga K "Web")) (.ref (He.ga K "Web")) = some true))))
abbrev hk : PySem.W.Hook := He.hookX 5 fa fn [] [] exB
def ob (s : PySem.W.SharedT) : He.AlX := He.obsX 5 fa fn [] [] exB (HandSHeadRun.getT s)
theorem ob_eq (s : PySem.W.SharedT) : ob s = hk.obs s.abs := He.obsX_eq (HandSHeadRun.getT_eq s)
theorem run (w : World) : HandSHeadRun.RunEq R (PySem.W.view R.prog [75]) hk ob 4000 loose w := by
  intro os
  kernel_rfl
end Hd
end

section
set_option Elab.async false
set_option linter.all false
set_option maxRecDepth 100000
set_option maxHeartbeats 0
namespace Wk
open PySem PySem.Spec L2 Ev Hd
/-! ### what the program text gives -/
structure Fx (K : PySem.W.Frag) (mg : Str → Option Value) (C : Addr) : Prop where
  n_abs : mg "abs" = none
  n_all : mg "all" = none
  n_any : mg "any" = none
  n_bool : mg "bool" = none
  n_dict : mg "dict" = none
  n_enumerate : mg "enumerate" = none
  n_int : mg "int" = none
  n_isinstance : mg "isinstance" = none
  n_len : mg "len" = none
  n_range : mg "range" = none
  n_sorted : mg "sorted" = none
  n_tuple : mg "tuple" = none
  n_zip : mg "zip" = none
  i_MOST_CORNER : ∃ t, mg "MOST_CORNER" = some (.int 999 t)
  i_MOST_CORNERS : ∃ t, mg "MOST_CORNERS" = some (.int 7 t)
  i_MOST_SIDES : ∃ t, mg "MOST_SIDES" = some (.int 600 t)
  cls : Cls K C
  no_tops : NoAttr K C "tops"
  no_lots : NoAttr K C "lots"
  no_known : NoAttr K C "known"
  Web : C8.InsC K C ∧ mg "Web" = some (.ref C) ∧ PySem.W.keepIn K (.ref C) = true
/-! ### walls_of -/
def m_walls_of : M Fl :=
  (mSeq (mIf (mT (m2 fEq (.val (mFz (m1 fLen (.pk 0)))) (.val (mC (.int 1))))) (mRet (mLst [])) mNx) (mRet (mLc (itR1 (mFz (m1 fLen (.pk 0)))) (.nm 1) mYes (mFz (m2 fAdd (.val (mFz (mSl (.pk 0) .no (.at_ (mV 1))))) (.val (mFz (mSl (.pk 0) (.at_ (mFz (m2 fAdd (.pk 1) (.val (mC (.int 1)))))) .no))))) [1])))
def g_walls_of : List D → Option S := runV 2 m_walls_of
theorem sc_walls_of : FnScope ["side", "at"] ["side"] (defScope s_walls_of) := ⟨rfl, rfl, rfl, by decide +kernel, rfl, by decide +kernel, by decide +kernel⟩
theorem ok_walls_of {P : Program} {w : World} {K : PySem.W.Frag} {mg : Str → Option Value} {base : Heap} {C f : Addr} {fd : FuncData} (U : Fx K mg C) (F : FunD K "walls_of" "walls_of" (defArgs s_walls_of) (defBody s_walls_of) (defScope s_walls_of) [] [] f fd) (hm : mg "walls_of" = some (.ref f)) :
    CalV P w K mg base (ctW C) 1 "walls_of" 1 g_walls_of := by
  have S := sc_walls_of
  exact mkV (k := 0) F hm S rfl (fun _ _ _ _ _ _ us hl => match us, hl with | [_], _ => rfl) fun cdv A outer s H E hr =>
    (sss_cons (ss_if (st_cmp (op_eqD (roomU64 hr)) k_eq (ae_v (SF.toE (sf_b1 cr_len k_len rfl U.n_len (by decide +kernel) (ae_p (pv 0))))) (ae_v se_int) rfl) (sss_one (ss_ret (sf_lst ses_nil))) sss_nil) (sss_one (ss_ret (sf_lc (own := [("at", 1)]) rfl S.nd (si_r1 rfl U.n_range (SF.toE (sf_b1 cr_len k_len rfl U.n_len (by decide +kernel) (ae_p (pv 0))))) (blkOk_by (by kernel_rfl)) (fun _ _ _ _ _ => (sg_nm (i := 1) S.nd rfl (by first | exact .inl rfl | exact .inr rfl))) (fun _ _ _ _ _ => sts_nil) (fun _ _ _ _ _ => (SF.toE (sf_bin op_addAny k_add (ae_v (SF.toE (sf_sl (ae_p (pv 0)) so_no (so_at (se_var (pv 1)))))) (ae_v (SF.toE (sf_sl (ae_p (pv 0)) (so_at (SF.toE (sf_bin op_addAny k_add (ae_p (pv 1)) (ae_v se_int)))) so_no))))))))))
/-! ### check_walls -/
def m_check_walls : M Fl :=
  (mSeq (mSet 1 (mDcT (itD (mFld 0 0 (mV 0))) (.nm 3) mYes (mV 3) (mC (.bl true)) [3])) (mFor (itD (mFld 0 2 (mV 0))) (.nm 2) (mIf (mTru (.val (mFz (m1 fAny (.val (mFz (mLc (itD (mFz (mCall 1 g_walls_of [(mV 2)]))) (.nm 4) mYes (mFz (m2 (fInA false) (.pk 4) (.pk 1))) [4]))))))) mNo mNx)))
def g_check_walls : List D → Option S := runV 5 m_check_walls
theorem sc_check_walls : FnScope ["web", "tops", "side", "top", "wall"] ["web"] (defScope s_check_walls) := ⟨rfl, rfl, rfl, by decide +kernel, rfl, by decide +kernel, by decide +kernel⟩
theorem ok_check_walls {P : Program} {w : World} {K : PySem.W.Frag} {mg : Str → Option Value} {base : Heap} {C f : Addr} {fd : FuncData} (U : Fx K mg C) (F : FunD K "check_walls" "check_walls" (defArgs s_check_walls) (defBody s_check_walls) (defScope s_check_walls) [] [] f fd) (hm : mg "check_walls" = some (.ref f)) (c_walls_of : CalV P w K mg base (ctW C) 1 "walls_of" 1 g_walls_of) :
    CalV P w K mg base (ctW C) 2 "check_walls" 1 g_check_walls := by
  have S := sc_check_walls
  exact mkV (k := 1) F hm S rfl (fun _ _ _ _ _ _ us hl => match us, hl with | [_], _ => rfl) fun cdv A outer s H E hr =>
    (sss_cons (ss_set (i := 1) S.nd rfl (by first | exact .inl rfl | exact .inr rfl) (sf_dcT (own := [("top", 3)]) hr.units0 rfl S.nd (si_d (se_fld (i := 0) (j := 0) U.cls U.no_tops rfl (ctw_lt (by decide)) (se_var (pv 0)))) (blkOk_by (by kernel_rfl)) (fun _ _ _ _ _ => (sg_nm (i := 3) S.nd rfl (by first | exact .inl rfl | exact .inr rfl))) (fun _ _ _ _ _ => sts_nil) (fun _ _ _ _ _ => (se_var (pv 3))) (fun _ _ _ _ _ => se_bl))) (sss_one (ss_for PassesOwn.never rfl (si_d (se_fld (i := 0) (j := 2) U.cls U.no_known rfl (ctw_lt (by decide)) (se_var (pv 0)))) (sg_nm (i := 2) S.nd rfl (by first | exact .inl rfl | exact .inr rfl)) (sss_one (ss_if (st_tru (ae_v (SF.toE (sf_b1 (cr_any rfl) k_any rfl U.n_any (by decide +kernel) (ae_v (SF.toE (sf_lc (own := [("wall", 4)]) rfl S.nd (si_d (SF.toE (sf_cl c_walls_of hr (by decide) rfl (ses_cons (se_var (pv 2)) ses_nil)))) (blkOk_by (by kernel_rfl)) (fun _ _ _ _ _ => (sg_nm (i := 4) S.nd rfl (by first | exact .inl rfl | exact .inr rfl))) (fun _ _ _ _ _ => sts_nil) (fun _ _ _ _ _ => (SF.toE (sf_cmp (op_inAny (roomU hr)) k_in (ae_p (pv 4)) (ae_p (pv 1)) rfl)))))))))) (sss_one ss_no) sss_nil)))))
/-! ### is_ascending -/
def m_is_ascending : M Fl :=
  (mRet (m1 fAll (.val (mFz (mLc (itR2 (mC (.int 1)) (mFz (m1 fLen (.pk 0)))) (.nm 1) mYes (mFz (m2 fLt (.val (mFz (m2 fIx (.pk 0) (.val (mFz (m2 (fI2 fun i j => .int (i - j)) (.pk 1) (.val (mC (.int 1))))))))) (.val (mFz (m2 fIx (.pk 0) (.pk 1)))))) [1])))))
def g_is_ascending : List D → Option S := runV 2 m_is_ascending
theorem sc_is_ascending : FnScope ["thing", "at"] ["thing"] (defScope s_is_ascending) := ⟨rfl, rfl, rfl, by decide +kernel, rfl, by decide +kernel, by decide +kernel⟩
theorem ok_is_ascending {P : Program} {w : World} {K : PySem.W.Frag} {mg : Str → Option Value} {base : Heap} {C f : Addr} {fd : FuncData} (U : Fx K mg C) (F : FunD K "is_ascending" "is_ascending" (defArgs s_is_ascending) (defBody s_is_ascending) (defScope s_is_ascending) [] [] f fd) (hm : mg "is_ascending" = some (.ref f)) :
    CalV P w K mg base (ctW C) 1 "is_ascending" 1 g_is_ascending := by
  have S := sc_is_ascending
  exact mkV (k := 0) F hm S rfl (fun _ _ _ _ _ _ us hl => match us, hl with | [_], _ => rfl) fun cdv A outer s H E hr =>
    (sss_one (ss_ret (sf_b1 (cr_all rfl) k_all rfl U.n_all (by decide +kernel) (ae_v (SF.toE (sf_lc (own := [("at", 1)]) rfl S.nd (si_r2 rfl U.n_range se_int (SF.toE (sf_b1 cr_len k_len rfl U.n_len (by decide +kernel) (ae_p (pv 0))))) (blkOk_by (by kernel_rfl)) (fun _ _ _ _ _ => (sg_nm (i := 1) S.nd rfl (by first | exact .inl rfl | exact .inr rfl))) (fun _ _ _ _ _ => sts_nil) (fun _ _ _ _ _ => (SF.toE (sf_cmp (op_ltAny hr.units0) k_ltA (ae_v (SF.toE (sf_ix (ix_any (roomU1 hr)) k_ix (ae_p (pv 0)) (ae_v (SF.toE (sf_bin op_sub k_sub (ae_p (pv 1)) (ae_v se_int)))) fun _ _ => rfl))) (ae_v (SF.toE (sf_ix (ix_any (roomU1 hr)) k_ix (ae_p (pv 0)) (ae_p (pv 1)) fun _ _ => rfl))) rfl)))))))))
/-! ### parts_of -/
def m_parts_of : M Fl :=
  (mSeq (mSet 1 (mLst [(mFz (mTup []))])) (mSeq (mFor (itD (mV 0)) (.nm 2) (mSet 1 (m2 fAdd (.pk 1) (.val (mFz (mLc (itD (mV 1)) (.nm 3) mYes (mFz (m2 fAdd (.pk 3) (.val (mFz (mTup [(mV 2)]))))) [3])))))) (mRet (mLc (itD (mV 1)) (.nm 3) (mTru (.pk 3)) (mV 3) [3]))))
def g_parts_of : List D → Option S := runV 4 m_parts_of
theorem sc_parts_of : FnScope ["side", "found", "corner", "part"] ["side"] (defScope s_parts_of) := ⟨rfl, rfl, rfl, by decide +kernel, rfl, by decide +kernel, by decide +kernel⟩
theorem ok_parts_of {P : Program} {w : World} {K : PySem.W.Frag} {mg : Str → Option Value} {base : Heap} {C f : Addr} {fd : FuncData} (U : Fx K mg C) (F : FunD K "parts_of" "parts_of" (defArgs s_parts_of) (defBody s_parts_of) (defScope s_parts_of) [] [] f fd) (hm : mg "parts_of" = some (.ref f)) :
    CalV P w K mg base (ctW C) 1 "parts_of" 1 g_parts_of := by
  have S := sc_parts_of
  exact mkV (k := 0) F hm S rfl (fun _ _ _ _ _ _ us hl => match us, hl with | [_], _ => rfl) fun cdv A outer s H E hr =>
    (sss_cons (ss_set (i := 1) S.nd rfl (by first | exact .inl rfl | exact .inr rfl) (sf_lst (ses_cons (SF.toE (sf_tup ses_nil)) ses_nil))) (sss_cons (ss_for PassesOwn.never rfl (si_d (se_var (pv 0))) (sg_nm (i := 2) S.nd rfl (by first | exact .inl rfl | exact .inr rfl)) (sss_one (ss_set (i := 1) S.nd rfl (by first | exact .inl rfl | exact .inr rfl) (sf_bin op_addAny k_add (ae_p (pv 1)) (ae_v (SF.toE (sf_lc (own := [("part", 3)]) rfl S.nd (si_d (se_var (pv 1))) (blkOk_by (by kernel_rfl)) (fun _ _ _ _ _ => (sg_nm (i := 3) S.nd rfl (by first | exact .inl rfl | exact .inr rfl))) (fun _ _ _ _ _ => sts_nil) (fun _ _ _ _ _ => (SF.toE (sf_bin op_addAny k_add (ae_p (pv 3)) (ae_v (SF.toE (sf_tup (ses_cons (se_var (pv 2)) ses_nil)))))))))))))) (sss_one (ss_ret (sf_lc (own := [("part", 3)]) rfl S.nd (si_d (se_var (pv 1))) (blkOk_by (by kernel_rfl)) (fun _ _ _ _ _ => (sg_nm (i := 3) S.nd rfl (by first | exact .inl rfl | exact .inr rfl))) (fun _ _ _ _ _ => (sts_one (st_tru (ae_p (pv 3))))) (fun _ _ _ _ _ => (se_var (pv 3))))))))
/-! ### is_integer -/
def m_is_integer : M Fl :=
  (mRet (mAnd (m1 (fun d => fIsi .int d d) (.pk 0)) (mNot (m1 (fun d => fIsi .bl d d) (.pk 0)))))
def g_is_integer : List D → Option S := runV 1 m_is_integer
theorem sc_is_integer : FnScope ["thing"] ["thing"] (defScope s_is_integer) := ⟨rfl, rfl, rfl, by decide +kernel, rfl, by decide +kernel, by decide +kernel⟩
theorem ok_is_integer {P : Program} {w : World} {K : PySem.W.Frag} {mg : Str → Option Value} {base : Heap} {C f : Addr} {fd : FuncData} (U : Fx K mg C) (F : FunD K "is_integer" "is_integer" (defArgs s_is_integer) (defBody s_is_integer) (defScope s_is_integer) [] [] f fd) (hm : mg "is_integer" = some (.ref f)) :
    CalV P w K mg base (ctW C) 1 "is_integer" 1 g_is_integer := by
  have S := sc_is_integer
  exact mkV (k := 0) F hm S rfl (fun _ _ _ _ _ _ us hl => match us, hl with | [_], _ => rfl) fun cdv A outer s H E hr =>
    (sss_one (ss_ret (sf_and (sf_isi rfl U.n_isinstance rfl U.n_int (by decide +kernel) (ae_p (pv 0))) (sf_one (sf_not (sf_isi rfl U.n_isinstance rfl U.n_bool (by decide +kernel) (ae_p (pv 0))))))))
/-! ### is_number -/
def m_is_number : M Fl :=
  (mRet (mAnd (mCall 1 g_is_integer [(mV 0)]) (mChn (fI2 fun i j => .bl (decide (i ≤ j))) (fI2 fun i j => .bl (decide (i ≤ j))) (mC (.int 0)) (mV 0) (mV 1))))
def g_is_number : List D → Option S := runV 2 m_is_number
theorem sc_is_number : FnScope ["thing", "most"] ["thing", "most"] (defScope s_is_number) := ⟨rfl, rfl, rfl, by decide +kernel, rfl, by decide +kernel, by decide +kernel⟩
theorem ok_is_number {P : Program} {w : World} {K : PySem.W.Frag} {mg : Str → Option Value} {base : Heap} {C f : Addr} {fd : FuncData} (U : Fx K mg C) (F : FunD K "is_number" "is_number" (defArgs s_is_number) (defBody s_is_number) (defScope s_is_number) [] [] f fd) (hm : mg "is_number" = some (.ref f)) (c_is_integer : CalV P w K mg base (ctW C) 1 "is_integer" 1 g_is_integer) :
    CalV P w K mg base (ctW C) 2 "is_number" 2 g_is_number := by
  have S := sc_is_number
  exact mkV (k := 1) F hm S rfl (fun _ _ _ _ _ _ us hl => match us, hl with | [_, _], _ => rfl) fun cdv A outer s H E hr =>
    (sss_one (ss_ret (sf_and (sf_cl c_is_integer hr (by decide) rfl (ses_cons (se_var (pv 0)) ses_nil)) (sf_one (sf_chn op_le op_le k_le k_le se_int (se_var (pv 0)) (se_var (pv 1)))))))
/-! ### is_side_form -/
def m_is_side_form : M Fl :=
  (mSeq (mIf (bOr (bNot (mTru (.val (mFz (m1 (fun d => fIsi .tup d d) (.pk 0)))))) (bNot (mT (mChn (fI2 fun i j => .bl (decide (i ≤ j))) (fI2 fun i j => .bl (decide (i ≤ j))) (mC (.int 1)) (mFz (m1 fLen (.pk 0))) (mC (.int 7)))))) (mRet (mIm (mC (.bl false)))) mNx) (mRet (mAnd (m1 fAll (.val (mFz (mLc (itD (mV 0)) (.nm 1) mYes (mFz (mCall 2 g_is_number [(mV 1), (mC (.int 999))])) [1])))) (mCall 1 g_is_ascending [(mV 0)]))))
def g_is_side_form : List D → Option S := runV 2 m_is_side_form
theorem sc_is_side_form : FnScope ["thing", "corner"] ["thing"] (defScope s_is_side_form) := ⟨rfl, rfl, rfl, by decide +kernel, rfl, by decide +kernel, by decide +kernel⟩
theorem ok_is_side_form {P : Program} {w : World} {K : PySem.W.Frag} {mg : Str → Option Value} {base : Heap} {C f : Addr} {fd : FuncData} (U : Fx K mg C) (F : FunD K "is_side_form" "is_side_form" (defArgs s_is_side_form) (defBody s_is_side_form) (defScope s_is_side_form) [] [] f fd) (hm : mg "is_side_form" = some (.ref f)) (c_is_ascending : CalV P w K mg base (ctW C) 1 "is_ascending" 1 g_is_ascending) (c_is_number : CalV P w K mg base (ctW C) 2 "is_number" 2 g_is_number) :
    CalV P w K mg base (ctW C) 3 "is_side_form" 1 g_is_side_form := by
  have S := sc_is_side_form
  exact mkV (k := 2) F hm S rfl (fun _ _ _ _ _ _ us hl => match us, hl with | [_], _ => rfl) fun cdv A outer s H E hr =>
    (sss_cons (ss_if (SW.t (sw_or (st_not (st_tru (ae_v (SF.toE (sf_isi rfl U.n_isinstance rfl U.n_tuple (by decide +kernel) (ae_p (pv 0))))))) (sw_or1 (st_not (st_chn op_le op_le k_le k_le se_int (SF.toE (sf_b1 cr_len k_len rfl U.n_len (by decide +kernel) (ae_p (pv 0)))) (se_gint rfl U.i_MOST_CORNERS)))))) (sss_one (ss_ret (SE.toF se_bl))) sss_nil) (sss_one (ss_ret (sf_and (sf_b1 (cr_all rfl) k_all rfl U.n_all (by decide +kernel) (ae_v (SF.toE (sf_lc (own := [("corner", 1)]) rfl S.nd (si_d (se_var (pv 0))) (blkOk_by (by kernel_rfl)) (fun _ _ _ _ _ => (sg_nm (i := 1) S.nd rfl (by first | exact .inl rfl | exact .inr rfl))) (fun _ _ _ _ _ => sts_nil) (fun _ _ _ _ _ => (SF.toE (sf_cl c_is_number hr (by decide) rfl (ses_cons (se_var (pv 1)) (ses_cons (se_gint rfl U.i_MOST_CORNER) ses_nil))))))))) (sf_one (sf_cl c_is_ascending hr (by decide) rfl (ses_cons (se_var (pv 0)) ses_nil)))))))
/-! ### is_within -/
def m_is_within : M Fl :=
  (mRet (m1 fAll (.val (mFz (mLc (itD (mV 0)) (.nm 2) mYes (mFz (m2 (fInA false) (.pk 2) (.pk 1))) [2])))))
def g_is_within : List D → Option S := runV 3 m_is_within
theorem sc_is_within : FnScope ["part", "side", "corner"] ["part", "side"] (defScope s_is_within) := ⟨rfl, rfl, rfl, by decide +kernel, rfl, by decide +kernel, by decide +kernel⟩
theorem ok_is_within {P : Program} {w : World} {K : PySem.W.Frag} {mg : Str → Option Value} {base : Heap} {C f : Addr} {fd : FuncData} (U : Fx K mg C) (F : FunD K "is_within" "is_within" (defArgs s_is_within) (defBody s_is_within) (defScope s_is_within) [] [] f fd) (hm : mg "is_within" = some (.ref f)) :
    CalV P w K mg base (ctW C) 1 "is_within" 2 g_is_within := by
  have S := sc_is_within
  exact mkV (k := 0) F hm S rfl (fun _ _ _ _ _ _ us hl => match us, hl with | [_, _], _ => rfl) fun cdv A outer s H E hr =>
    (sss_one (ss_ret (sf_b1 (cr_all rfl) k_all rfl U.n_all (by decide +kernel) (ae_v (SF.toE (sf_lc (own := [("corner", 2)]) rfl S.nd (si_d (se_var (pv 0))) (blkOk_by (by kernel_rfl)) (fun _ _ _ _ _ => (sg_nm (i := 2) S.nd rfl (by first | exact .inl rfl | exact .inr rfl))) (fun _ _ _ _ _ => sts_nil) (fun _ _ _ _ _ => (SF.toE (sf_cmp (op_inAny (roomU hr)) k_in (ae_p (pv 2)) (ae_p (pv 1)) rfl)))))))))
/-! ### check_tops -/
def m_check_tops : M Fl :=
  (mFor (itD (mV 0)) (.nm 1) (mFor (itD (mV 0)) (.nm 2) (mIf (bAnd (mT (m2 fLt (.val (mFz (m1 fLen (.pk 1)))) (.val (mFz (m1 fLen (.pk 2)))))) (mTru (.val (mFz (mCall 2 g_is_within [(mV 1), (mV 2)]))))) mNo mNx)))
def g_check_tops : List D → Option S := runV 3 m_check_tops
theorem sc_check_tops : FnScope ["tops", "top", "other"] ["tops"] (defScope s_check_tops) := ⟨rfl, rfl, rfl, by decide +kernel, rfl, by decide +kernel, by decide +kernel⟩
theorem ok_check_tops {P : Program} {w : World} {K : PySem.W.Frag} {mg : Str → Option Value} {base : Heap} {C f : Addr} {fd : FuncData} (U : Fx K mg C) (F : FunD K "check_tops" "check_tops" (defArgs s_check_tops) (defBody s_check_tops) (defScope s_check_tops) [] [] f fd) (hm : mg "check_tops" = some (.ref f)) (c_is_within : CalV P w K mg base (ctW C) 1 "is_within" 2 g_is_within) :
    CalV P w K mg base (ctW C) 2 "check_tops" 1 g_check_tops := by
  have S := sc_check_tops
  exact mkV (k := 1) F hm S rfl (fun _ _ _ _ _ _ us hl => match us, hl with | [_], _ => rfl) fun cdv A outer s H E hr =>
    (sss_one (ss_for PassesOwn.never rfl (si_d (se_var (pv 0))) (sg_nm (i := 1) S.nd rfl (by first | exact .inl rfl | exact .inr rfl)) (sss_one (ss_for PassesOwn.never rfl (si_d (se_var (pv 0))) (sg_nm (i := 2) S.nd rfl (by first | exact .inl rfl | exact .inr rfl)) (sss_one (ss_if (SW.t (sw_and (st_cmp (op_ltAny hr.units0) k_ltA (ae_v (SF.toE (sf_b1 cr_len k_len rfl U.n_len (by decide +kernel) (ae_p (pv 1))))) (ae_v (SF.toE (sf_b1 cr_len k_len rfl U.n_len (by decide +kernel) (ae_p (pv 2))))) rfl) (sw_and1 (st_tru (ae_v (SF.toE (sf_cl c_is_within hr (by decide) rfl (ses_cons (se_var (pv 1)) (ses_cons (se_var (pv 2)) ses_nil))))))))) (sss_one ss_no) sss_nil))))))
/-! ### Web.__init__ -/
def m_Web : Fr → Unit → Option D :=
  (wSeq (uL (mIf (bOr (bNot (mTru (.val (mFz (m1 (fun d => fIsi .tup d d) (.pk 1)))))) (bOr (bNot (mTru (.val (mFz (m1 fAll (.val (mFz (mLc (itD (mV 1)) (.nm 3) mYes (mFz (mCall 1 g_is_side_form [(mV 3)])) [3])))))))) (bNot (mTru (.val (mFz (mCall 1 g_is_ascending [(mV 1)]))))))) mNo mNx)) (wSeq (uL (mSet 2 (mNew true))) (wSeq (uL (mFor (itD (mV 1)) (.nm 3) (mFor (itD (mFz (mCall 1 g_parts_of [(mV 3)]))) (.nm 5) (mSeq (mPut 2 (mV 5) (mC (.bl true))) (mIf (mT (m2 (fI2 fun i j => .bl (decide (j < i))) (.val (mFz (m1 fLen (.pk 2)))) (.val (mC (.int 600))))) (mSeq (mDrop (mCall 1 g_check_tops [(mV 1)])) mNo) mNx))))) (wTops (mV 1) (wLots (itR1 (mC (.int 7))) (.nm 6) [6] fun d => (wSeq (uFor (itD (mFz (m1 fSort (.pk 2)))) (.nm 4) (uApp (mFz (m2 (fI2 fun i j => .int (i - j)) (.val (mFz (m1 fLen (.pk 4)))) (.val (mC (.int 1))))) (mV 4))) (wKnown (mV 2) fun k => wFz d k (mDrop (mCall 1 g_check_walls [(mV 0)])))))))))
def w_Web : List D → Option D := runW 7 m_Web
def g_Web : List D → Option S := fun ds => (w_Web ds).map .imm
theorem sc_Web : FnScope ["self", "tops", "found", "top", "side", "part", "degree"] ["self", "tops"] (defScope s_Web_init) := ⟨rfl, rfl, rfl, by decide +kernel, rfl, by decide +kernel, by decide +kernel⟩
theorem ok_Web {P : Program} {w : World} {K : PySem.W.Frag} {mg : Str → Option Value} {base : Heap} {C f : Addr} {fd : FuncData} (U : Fx K mg C) (M : Mk K C f) (F : FunD K "__init__" "Web.__init__" (defArgs s_Web_init) (defBody s_Web_init) (defScope s_Web_init) [] [] f fd) (c_check_tops : CalV P w K mg base (ctW C) 2 "check_tops" 1 g_check_tops) (c_check_walls : CalV P w K mg base (ctW C) 2 "check_walls" 1 g_check_walls) (c_is_ascending : CalV P w K mg base (ctW C) 1 "is_ascending" 1 g_is_ascending) (c_is_side_form : CalV P w K mg base (ctW C) 3 "is_side_form" 1 g_is_side_form) (c_parts_of : CalV P w K mg base (ctW C) 1 "parts_of" 1 g_parts_of) :
    WebOk P w K mg base C 4 w_Web := by
  have S := sc_Web
  exact ⟨f, fd, M, fokW (k := 3) F S fun cdv A outer s H E x dx hxd hr =>
    (uws_cons (us_lift W0.mono (ss_if (SW.t (sw_or (st_not (st_tru (ae_v (SF.toE (sf_isi rfl U.n_isinstance rfl U.n_tuple (by decide +kernel) (ae_p (pv 1))))))) (sw_or (st_not (st_tru (ae_v (SF.toE (sf_b1 (cr_all rfl) k_all rfl U.n_all (by decide +kernel) (ae_v (SF.toE (sf_lc (own := [("top", 3)]) rfl S.nd (si_d (se_var (pv 1))) (blkOk_by (by kernel_rfl)) (fun _ _ _ _ _ => (sg_nm (i := 3) S.nd rfl (by first | exact .inl rfl | exact .inr rfl))) (fun _ _ _ _ _ => sts_nil) (fun _ _ _ _ _ => (SF.toE (sf_cl c_is_side_form hr (by decide) rfl (ses_cons (se_var (pv 3)) ses_nil)))))))))))) (sw_or1 (st_not (st_tru (ae_v (SF.toE (sf_cl c_is_ascending hr (by decide) rfl (ses_cons (se_var (pv 1)) ses_nil)))))))))) (sss_one ss_no) sss_nil)) (uws_cons (us_lift W0.mono (ss_set (i := 2) S.nd rfl (by first | exact .inl rfl | exact .inr rfl) (sf_new (t := true)))) (uws_cons (us_lift W0.mono (ss_for PassesOwn.never rfl (si_d (se_var (pv 1))) (sg_nm (i := 3) S.nd rfl (by first | exact .inl rfl | exact .inr rfl)) (sss_one (ss_for PassesOwn.never rfl (si_d (SF.toE (sf_cl c_parts_of hr (by decide) rfl (ses_cons (se_var (pv 3)) ses_nil)))) (sg_nm (i := 5) S.nd rfl (by first | exact .inl rfl | exact .inr rfl)) (sss_cons (ss_put (roomU1 hr) (pv 2) (se_var (pv 5)) se_bl) (sss_one (ss_if (st_cmp op_gt k_gt (ae_v (SF.toE (sf_b1 cr_len k_len rfl U.n_len (by decide +kernel) (ae_p (pv 2))))) (ae_v (se_gint rfl U.i_MOST_SIDES)) rfl) (sss_cons (ss_expr (sf_cl c_check_tops hr (by decide) rfl (ses_cons (se_var (pv 1)) ses_nil))) (sss_one ss_no)) sss_nil))))))) (uws_tops' U.cls U.no_tops (pv 0) (se_var (pv 1)) hxd (uws_lots' (own := [("degree", 6)]) U.cls U.no_lots (pv 0) rfl S.nd (si_r1 rfl U.n_range (se_gint rfl U.i_MOST_CORNERS)) (blkOk_by (by kernel_rfl)) (fun _ _ _ _ _ => (sg_nm (i := 6) S.nd rfl (by first | exact .inl rfl | exact .inr rfl))) (fun d => (uws_cons (us_for (IR.mono W2.mono) PassesOwn.never rfl (si_d (SF.toE (sf_b1 (cr_sort rfl (roomU64 hr)) k_sort rfl U.n_sorted (by decide +kernel) (ae_p (pv 2))))) (sg_nm (i := 4) S.nd rfl (by first | exact .inl rfl | exact .inr rfl)) (uss_one (us_app (j := 0) W2.mono (pe_fld (pv 0) rfl) (hrdW U.cls U.no_lots) (SF.toE (sf_bin op_sub k_sub (ae_v (SF.toE (sf_b1 cr_len k_len rfl U.n_len (by decide +kernel) (ae_p (pv 4))))) (ae_v se_int))) (se_var (pv 4)) fun _ _ => rfl))) (uws_known' U.cls U.no_known (pv 0) (se_var (pv 2)) fun k => uws_fz (sss_one (ss_expr (sf_cl c_check_walls hr (by decide) rfl (ses_cons (se_var (pv 0)) ses_nil)))) rfl))) hxd))))), U.Web.2.1, F.bindsN fun _ _ _ _ _ _ us hl => match us, hl with | [_, _], _ => rfl⟩
/-! ### is_from_nought -/
def m_is_from_nought : M Fl :=
  (mRet (mAnd (mCall 1 g_is_integer [(mV 0)]) (m2 (fI2 fun i j => .bl (decide (j ≤ i))) (.pk 0) (.val (mC (.int 0))))))
def g_is_from_nought : List D → Option S := runV 1 m_is_from_nought
theorem sc_is_from_nought : FnScope ["thing"] ["thing"] (defScope s_is_from_nought) := ⟨rfl, rfl, rfl, by decide +kernel, rfl, by decide +kernel, by decide +kernel⟩
theorem ok_is_from_nought {P : Program} {w : World} {K : PySem.W.Frag} {mg : Str → Option Value} {base : Heap} {C f : Addr} {fd : FuncData} (U : Fx K mg C) (F : FunD K "is_from_nought" "is_from_nought" (defArgs s_is_from_nought) (defBody s_is_from_nought) (defScope s_is_from_nought) [] [] f fd) (hm : mg "is_from_nought" = some (.ref f)) (c_is_integer : CalV P w K mg base (ctW C) 1 "is_integer" 1 g_is_integer) :
    CalV P w K mg base (ctW C) 2 "is_from_nought" 1 g_is_from_nought := by
  have S := sc_is_from_nought
  exact mkV (k := 1) F hm S rfl (fun _ _ _ _ _ _ us hl => match us, hl with | [_], _ => rfl) fun cdv A outer s H E hr =>
    (sss_one (ss_ret (sf_and (sf_cl c_is_integer hr (by decide) rfl (ses_cons (se_var (pv 0)) ses_nil)) (sf_one (sf_cmp op_ge k_ge (ae_p (pv 0)) (ae_v se_int) rfl)))))
/-! ### is_modulus -/
def m_is_modulus : M Fl :=
  (mRet (mAnd (mCall 2 g_is_number [(mV 0), (mC (.int 1000))]) (m2 fNe (.pk 0) (.val (mC (.int 1))))))
def g_is_modulus : List D → Option S := runV 1 m_is_modulus
theorem sc_is_modulus : FnScope ["thing"] ["thing"] (defScope s_is_modulus) := ⟨rfl, rfl, rfl, by decide +kernel, rfl, by decide +kernel, by decide +kernel⟩
theorem ok_is_modulus {P : Program} {w : World} {K : PySem.W.Frag} {mg : Str → Option Value} {base : Heap} {C f : Addr} {fd : FuncData} (U : Fx K mg C) (F : FunD K "is_modulus" "is_modulus" (defArgs s_is_modulus) (defBody s_is_modulus) (defScope s_is_modulus) [] [] f fd) (hm : mg "is_modulus" = some (.ref f)) (c_is_number : CalV P w K mg base (ctW C) 2 "is_number" 2 g_is_number) :
    CalV P w K mg base (ctW C) 3 "is_modulus" 1 g_is_modulus := by
  have S := sc_is_modulus
  exact mkV (k := 2) F hm S rfl (fun _ _ _ _ _ _ us hl => match us, hl with | [_], _ => rfl) fun cdv A outer s H E hr =>
    (sss_one (ss_ret (sf_and (sf_cl c_is_number hr (by decide) rfl (ses_cons (se_var (pv 0)) (ses_cons se_int ses_nil))) (sf_one (sf_cmp (op_neD (roomU64 hr)) k_ne (ae_p (pv 0)) (ae_v se_int) rfl)))))
/-! ### is_pair -/
def m_is_pair : M Fl :=
  (mRet (mAnd (m1 (fun d => fIsi .tup d d) (.pk 0)) (m2 fEq (.val (mFz (m1 fLen (.pk 0)))) (.val (mC (.int 2))))))
def g_is_pair : List D → Option S := runV 1 m_is_pair
theorem sc_is_pair : FnScope ["thing"] ["thing"] (defScope s_is_pair) := ⟨rfl, rfl, rfl, by decide +kernel, rfl, by decide +kernel, by decide +kernel⟩
theorem ok_is_pair {P : Program} {w : World} {K : PySem.W.Frag} {mg : Str → Option Value} {base : Heap} {C f : Addr} {fd : FuncData} (U : Fx K mg C) (F : FunD K "is_pair" "is_pair" (defArgs s_is_pair) (defBody s_is_pair) (defScope s_is_pair) [] [] f fd) (hm : mg "is_pair" = some (.ref f)) :
    CalV P w K mg base (ctW C) 1 "is_pair" 1 g_is_pair := by
  have S := sc_is_pair
  exact mkV (k := 0) F hm S rfl (fun _ _ _ _ _ _ us hl => match us, hl with | [_], _ => rfl) fun cdv A outer s H E hr =>
    (sss_one (ss_ret (sf_and (sf_isi rfl U.n_isinstance rfl U.n_tuple (by decide +kernel) (ae_p (pv 0))) (sf_one (sf_cmp (op_eqD (roomU64 hr)) k_eq (ae_v (SF.toE (sf_b1 cr_len k_len rfl U.n_len (by decide +kernel) (ae_p (pv 0))))) (ae_v se_int) rfl)))))
/-! ### degree_asked -/
def m_degree_asked : M Fl :=
  (mIf (bNot (mTru (.val (mFz (mCall 1 g_is_from_nought [(mV 0)]))))) mNo mNx)
def g_degree_asked : List D → Option S := runV 1 m_degree_asked
theorem sc_degree_asked : FnScope ["degree"] ["degree"] (defScope s_degree_asked) := ⟨rfl, rfl, rfl, by decide +kernel, rfl, by decide +kernel, by decide +kernel⟩
theorem ok_degree_asked {P : Program} {w : World} {K : PySem.W.Frag} {mg : Str → Option Value} {base : Heap} {C f : Addr} {fd : FuncData} (U : Fx K mg C) (F : FunD K "degree_asked" "degree_asked" (defArgs s_degree_asked) (defBody s_degree_asked) (defScope s_degree_asked) [] [] f fd) (hm : mg "degree_asked" = some (.ref f)) (c_is_from_nought : CalV P w K mg base (ctW C) 2 "is_from_nought" 1 g_is_from_nought) :
    CalV P w K mg base (ctW C) 3 "degree_asked" 1 g_degree_asked := by
  have S := sc_degree_asked
  exact mkV (k := 2) F hm S rfl (fun _ _ _ _ _ _ us hl => match us, hl with | [_], _ => rfl) fun cdv A outer s H E hr =>
    (sss_one (ss_if (st_not (st_tru (ae_v (SF.toE (sf_cl c_is_from_nought hr (by decide) rfl (ses_cons (se_var (pv 0)) ses_nil)))))) (sss_one ss_no) sss_nil))
/-! ### sides_of -/
def m_sides_of : M Fl :=
  (mRet (mIf (mT (m2 fLt (.pk 1) (.val (mC (.int 7))))) (m2 fIx (.val (mFld 0 1 (mV 0))) (.pk 1)) (mLst [])))
def g_sides_of : List D → Option S := runV 2 m_sides_of
theorem sc_sides_of : FnScope ["web", "degree"] ["web", "degree"] (defScope s_sides_of) := ⟨rfl, rfl, rfl, by decide +kernel, rfl, by decide +kernel, by decide +kernel⟩
theorem ok_sides_of {P : Program} {w : World} {K : PySem.W.Frag} {mg : Str → Option Value} {base : Heap} {C f : Addr} {fd : FuncData} (U : Fx K mg C) (F : FunD K "sides_of" "sides_of" (defArgs s_sides_of) (defBody s_sides_of) (defScope s_sides_of) [] [] f fd) (hm : mg "sides_of" = some (.ref f)) :
    CalV P w K mg base (ctW C) 1 "sides_of" 2 g_sides_of := by
  have S := sc_sides_of
  exact mkV (k := 0) F hm S rfl (fun _ _ _ _ _ _ us hl => match us, hl with | [_, _], _ => rfl) fun cdv A outer s H E hr =>
    (sss_one (ss_ret (sf_if (st_cmp (op_ltAny hr.units0) k_ltA (ae_p (pv 1)) (ae_v (se_gint rfl U.i_MOST_CORNERS)) rfl) (sf_ix (ix_any (roomU1 hr)) k_ix (ae_v (se_fld (i := 0) (j := 1) U.cls U.no_lots rfl (ctw_lt (by decide)) (se_var (pv 0)))) (ae_p (pv 1)) fun _ _ => rfl) (sf_lst ses_nil))))
/-! ### modulus_asked -/
def m_modulus_asked : M Fl :=
  (mIf (bNot (mTru (.val (mFz (mCall 1 g_is_modulus [(mV 0)]))))) mNo mNx)
def g_modulus_asked : List D → Option S := runV 1 m_modulus_asked
theorem sc_modulus_asked : FnScope ["n"] ["n"] (defScope s_modulus_asked) := ⟨rfl, rfl, rfl, by decide +kernel, rfl, by decide +kernel, by decide +kernel⟩
theorem ok_modulus_asked {P : Program} {w : World} {K : PySem.W.Frag} {mg : Str → Option Value} {base : Heap} {C f : Addr} {fd : FuncData} (U : Fx K mg C) (F : FunD K "modulus_asked" "modulus_asked" (defArgs s_modulus_asked) (defBody s_modulus_asked) (defScope s_modulus_asked) [] [] f fd) (hm : mg "modulus_asked" = some (.ref f)) (c_is_modulus : CalV P w K mg base (ctW C) 3 "is_modulus" 1 g_is_modulus) :
    CalV P w K mg base (ctW C) 4 "modulus_asked" 1 g_modulus_asked := by
  have S := sc_modulus_asked
  exact mkV (k := 3) F hm S rfl (fun _ _ _ _ _ _ us hl => match us, hl with | [_], _ => rfl) fun cdv A outer s H E hr =>
    (sss_one (ss_if (st_not (st_tru (ae_v (SF.toE (sf_cl c_is_modulus hr (by decide) rfl (ses_cons (se_var (pv 0)) ses_nil)))))) (sss_one ss_no) sss_nil))
/-! ### is_worth -/
def m_is_worth : M Fl :=
  (mRet (mAnd (mCall 1 g_is_integer [(mV 0)]) (mAnd (m2 fNe (.pk 0) (.val (mC (.int 0)))) (mOr (m2 fEq (.pk 1) (.val (mC (.int 0)))) (mChn (fI2 fun i j => .bl (decide (i ≤ j))) fLt (mC (.int 1)) (mV 0) (mV 1))))))
def g_is_worth : List D → Option S := runV 2 m_is_worth
theorem sc_is_worth : FnScope ["thing", "n"] ["thing", "n"] (defScope s_is_worth) := ⟨rfl, rfl, rfl, by decide +kernel, rfl, by decide +kernel, by decide +kernel⟩
theorem ok_is_worth {P : Program} {w : World} {K : PySem.W.Frag} {mg : Str → Option Value} {base : Heap} {C f : Addr} {fd : FuncData} (U : Fx K mg C) (F : FunD K "is_worth" "is_worth" (defArgs s_is_worth) (defBody s_is_worth) (defScope s_is_worth) [] [] f fd) (hm : mg "is_worth" = some (.ref f)) (c_is_integer : CalV P w K mg base (ctW C) 1 "is_integer" 1 g_is_integer) :
    CalV P w K mg base (ctW C) 2 "is_worth" 2 g_is_worth := by
  have S := sc_is_worth
  exact mkV (k := 1) F hm S rfl (fun _ _ _ _ _ _ us hl => match us, hl with | [_, _], _ => rfl) fun cdv A outer s H E hr =>
    (sss_one (ss_ret (sf_and (sf_cl c_is_integer hr (by decide) rfl (ses_cons (se_var (pv 0)) ses_nil)) (sf_and (sf_cmp (op_neD (roomU64 hr)) k_ne (ae_p (pv 0)) (ae_v se_int) rfl) (sf_one (sf_or (sf_cmp (op_eqD (roomU64 hr)) k_eq (ae_p (pv 1)) (ae_v se_int) rfl) (sf_one (sf_chn op_le (op_ltAny hr.units0) k_le k_ltA se_int (se_var (pv 0)) (se_var (pv 1))))))))))
/-! ### is_sum_of_sides -/
def m_is_sum_of_sides : M Fl :=
  (mSeq (mIf (bOr (bNot (mTru (.val (mFz (m1 (fun d => fIsi .tup d d) (.pk 3)))))) (bNot (mTru (.val (mFz (m1 fAll (.val (mFz (mLc (itD (mV 3)) (.nm 6) mYes (mFz (mCall 1 g_is_pair [(mV 6)])) [6]))))))))) (mRet (mIm (mC (.bl false)))) mNx) (mSeq (mFor (itD (mV 3)) (.tp [(.nm 4), (.nm 5)]) (mIf (bOr (bNot (mTru (.val (mFz (mCall 1 g_is_side_form [(mV 4)]))))) (bOr (mT (m2 fNe (.val (mFz (m1 fLen (.pk 4)))) (.val (mFz (m2 fAdd (.pk 1) (.val (mC (.int 1)))))))) (bOr (mT (m2 (fInA true) (.pk 4) (.val (mFld 0 2 (mV 0))))) (bNot (mTru (.val (mFz (mCall 2 g_is_worth [(mV 5), (mV 2)])))))))) (mRet (mIm (mC (.bl false)))) mNx)) (mRet (mCall 1 g_is_ascending [(mFz (m1 fTup (.val (mFz (mLc (itD (mV 3)) (.tp [(.nm 4), (.nm 5)]) mYes (mV 4) [4, 5])))))]))))
def g_is_sum_of_sides : List D → Option S := runV 7 m_is_sum_of_sides
theorem sc_is_sum_of_sides : FnScope ["web", "degree", "n", "thing", "side", "worth", "pair"] ["web", "degree", "n", "thing"] (defScope s_is_sum_of_sides) := ⟨rfl, rfl, rfl, by decide +kernel, rfl, by decide +kernel, by decide +kernel⟩
theorem ok_is_sum_of_sides {P : Program} {w : World} {K : PySem.W.Frag} {mg : Str → Option Value} {base : Heap} {C f : Addr} {fd : FuncData} (U : Fx K mg C) (F : FunD K "is_sum_of_sides" "is_sum_of_sides" (defArgs s_is_sum_of_sides) (defBody s_is_sum_of_sides) (defScope s_is_sum_of_sides) [] [] f fd) (hm : mg "is_sum_of_sides" = some (.ref f)) (c_is_ascending : CalV P w K mg base (ctW C) 1 "is_ascending" 1 g_is_ascending) (c_is_pair : CalV P w K mg base (ctW C) 1 "is_pair" 1 g_is_pair) (c_is_side_form : CalV P w K mg base (ctW C) 3 "is_side_form" 1 g_is_side_form) (c_is_worth : CalV P w K mg base (ctW C) 2 "is_worth" 2 g_is_worth) :
    CalV P w K mg base (ctW C) 4 "is_sum_of_sides" 4 g_is_sum_of_sides := by
  have S := sc_is_sum_of_sides
  exact mkV (k := 3) F hm S rfl (fun _ _ _ _ _ _ us hl => match us, hl with | [_, _, _, _], _ => rfl) fun cdv A outer s H E hr =>
    (sss_cons (ss_if (SW.t (sw_or (st_not (st_tru (ae_v (SF.toE (sf_isi rfl U.n_isinstance rfl U.n_tuple (by decide +kernel) (ae_p (pv 3))))))) (sw_or1 (st_not (st_tru (ae_v (SF.toE (sf_b1 (cr_all rfl) k_all rfl U.n_all (by decide +kernel) (ae_v (SF.toE (sf_lc (own := [("pair", 6)]) rfl S.nd (si_d (se_var (pv 3))) (blkOk_by (by kernel_rfl)) (fun _ _ _ _ _ => (sg_nm (i := 6) S.nd rfl (by first | exact .inl rfl | exact .inr rfl))) (fun _ _ _ _ _ => sts_nil) (fun _ _ _ _ _ => (SF.toE (sf_cl c_is_pair hr (by decide) rfl (ses_cons (se_var (pv 6)) ses_nil))))))))))))))) (sss_one (ss_ret (SE.toF se_bl))) sss_nil) (sss_cons (ss_for PassesOwn.never rfl (si_d (se_var (pv 3))) (sg_tp rfl (sgs_cons (sg_nm (i := 4) S.nd rfl (by first | exact .inl rfl | exact .inr rfl)) (sgs_cons (sg_nm (i := 5) S.nd rfl (by first | exact .inl rfl | exact .inr rfl)) sgs_nil))) (sss_one (ss_if (SW.t (sw_or (st_not (st_tru (ae_v (SF.toE (sf_cl c_is_side_form hr (by decide) rfl (ses_cons (se_var (pv 4)) ses_nil)))))) (sw_or (st_cmp (op_neD (roomU64 hr)) k_ne (ae_v (SF.toE (sf_b1 cr_len k_len rfl U.n_len (by decide +kernel) (ae_p (pv 4))))) (ae_v (SF.toE (sf_bin op_addAny k_add (ae_p (pv 1)) (ae_v se_int)))) rfl) (sw_or (st_cmp (op_ninAny (roomU hr)) k_nin (ae_p (pv 4)) (ae_v (se_fld (i := 0) (j := 2) U.cls U.no_known rfl (ctw_lt (by decide)) (se_var (pv 0)))) rfl) (sw_or1 (st_not (st_tru (ae_v (SF.toE (sf_cl c_is_worth hr (by decide) rfl (ses_cons (se_var (pv 5)) (ses_cons (se_var (pv 2)) ses_nil)))))))))))) (sss_one (ss_ret (SE.toF se_bl))) sss_nil))) (sss_one (ss_ret (sf_cl c_is_ascending hr (by decide) rfl (ses_cons (SF.toE (sf_t1 cr_tup k_tup rfl U.n_tuple (by decide +kernel) (ae_v (SF.toE (sf_lc (own := [("side", 4), ("worth", 5)]) rfl S.nd (si_d (se_var (pv 3))) (blkOk_by (by kernel_rfl)) (fun _ _ _ _ _ => (sg_tp rfl (sgs_cons (sg_nm (i := 4) S.nd rfl (by first | exact .inl rfl | exact .inr rfl)) (sgs_cons (sg_nm (i := 5) S.nd rfl (by first | exact .inl rfl | exact .inr rfl)) sgs_nil)))) (fun _ _ _ _ _ => sts_nil) (fun _ _ _ _ _ => (se_var (pv 4)))))))) ses_nil))))))
/-! ### chain_asked -/
def m_chain_asked : M Fl :=
  (mIf (bNot (mTru (.val (mFz (mCall 4 g_is_sum_of_sides [(mV 0), (mV 1), (mV 2), (mV 3)]))))) mNo mNx)
def g_chain_asked : List D → Option S := runV 4 m_chain_asked
theorem sc_chain_asked : FnScope ["web", "degree", "n", "chain"] ["web", "degree", "n", "chain"] (defScope s_chain_asked) := ⟨rfl, rfl, rfl, by decide +kernel, rfl, by decide +kernel, by decide +kernel⟩
theorem ok_chain_asked {P : Program} {w : World} {K : PySem.W.Frag} {mg : Str → Option Value} {base : Heap} {C f : Addr} {fd : FuncData} (U : Fx K mg C) (F : FunD K "chain_asked" "chain_asked" (defArgs s_chain_asked) (defBody s_chain_asked) (defScope s_chain_asked) [] [] f fd) (hm : mg "chain_asked" = some (.ref f)) (c_is_sum_of_sides : CalV P w K mg base (ctW C) 4 "is_sum_of_sides" 4 g_is_sum_of_sides) :
    CalV P w K mg base (ctW C) 5 "chain_asked" 4 g_chain_asked := by
  have S := sc_chain_asked
  exact mkV (k := 4) F hm S rfl (fun _ _ _ _ _ _ us hl => match us, hl with | [_, _, _, _], _ => rfl) fun cdv A outer s H E hr =>
    (sss_one (ss_if (st_not (st_tru (ae_v (SF.toE (sf_cl c_is_sum_of_sides hr (by decide) rfl (ses_cons (se_var (pv 0)) (ses_cons (se_var (pv 1)) (ses_cons (se_var (pv 2)) (ses_cons (se_var (pv 3)) ses_nil))))))))) (sss_one ss_no) sss_nil))
/-! ### chain_of -/
def m_chain_of : M Fl :=
  (mSeq (mSet 2 (mLst [])) (mSeq (mFor (itD (mFz (m1 fSort (.pk 0)))) (.nm 3) (mSeq (mSet 4 (mIf (mTru (.pk 1)) (m2 (fI2c cPos fun i j => .int (i % j)) (.val (mFz (m2 fIx (.pk 0) (.pk 3)))) (.pk 1)) (m2 fIx (.pk 0) (.pk 3)))) (mIf (mT (m2 fNe (.pk 4) (.val (mC (.int 0))))) (mDrop (mApp 2 (mFz (mTup [(mV 3), (mV 4)])))) mNx))) (mRet (m1 fTup (.pk 2)))))
def g_chain_of : List D → Option S := runV 5 m_chain_of
theorem sc_chain_of : FnScope ["worths", "n", "found", "side", "worth"] ["worths", "n"] (defScope s_chain_of) := ⟨rfl, rfl, rfl, by decide +kernel, rfl, by decide +kernel, by decide +kernel⟩
theorem ok_chain_of {P : Program} {w : World} {K : PySem.W.Frag} {mg : Str → Option Value} {base : Heap} {C f : Addr} {fd : FuncData} (U : Fx K mg C) (F : FunD K "chain_of" "chain_of" (defArgs s_chain_of) (defBody s_chain_of) (defScope s_chain_of) [] [] f fd) (hm : mg "chain_of" = some (.ref f)) :
    CalV P w K mg base (ctW C) 1 "chain_of" 2 g_chain_of := by
  have S := sc_chain_of
  exact mkV (k := 0) F hm S rfl (fun _ _ _ _ _ _ us hl => match us, hl with | [_, _], _ => rfl) fun cdv A outer s H E hr =>
    (sss_cons (ss_set (i := 2) S.nd rfl (by first | exact .inl rfl | exact .inr rfl) (sf_lst ses_nil)) (sss_cons (ss_for PassesOwn.never rfl (si_d (SF.toE (sf_b1 (cr_sort rfl (roomU64 hr)) k_sort rfl U.n_sorted (by decide +kernel) (ae_p (pv 0))))) (sg_nm (i := 3) S.nd rfl (by first | exact .inl rfl | exact .inr rfl)) (sss_cons (ss_set (i := 4) S.nd rfl (by first | exact .inl rfl | exact .inr rfl) (sf_if (st_tru (ae_p (pv 1))) (sf_bin op_mod k_mod (ae_v (SF.toE (sf_ix (ix_any (roomU1 hr)) k_ix (ae_p (pv 0)) (ae_p (pv 3)) fun _ _ => rfl))) (ae_p (pv 1))) (sf_ix (ix_any (roomU1 hr)) k_ix (ae_p (pv 0)) (ae_p (pv 3)) fun _ _ => rfl))) (sss_one (ss_if (st_cmp (op_neD (roomU64 hr)) k_ne (ae_p (pv 4)) (ae_v se_int) rfl) (sss_one (ss_expr (sf_app (pv 2) (SF.toE (sf_tup (ses_cons (se_var (pv 3)) (ses_cons (se_var (pv 4)) ses_nil))))))) sss_nil)))) (sss_one (ss_ret (sf_t1 cr_tup k_tup rfl U.n_tuple (by decide +kernel) (ae_p (pv 2)))))))
/-! ### corners_once -/
def m_corners_once : M Fl :=
  (mRet (m1 fTup (.val (mFz (m1 fSort (.val (mFz (mDc (itD (mV 0)) (.nm 1) mYes (mV 1) (mC (.bl true)) [1]))))))))
def g_corners_once : List D → Option S := runV 2 m_corners_once
theorem sc_corners_once : FnScope ["corners", "corner"] ["corners"] (defScope s_corners_once) := ⟨rfl, rfl, rfl, by decide +kernel, rfl, by decide +kernel, by decide +kernel⟩
theorem ok_corners_once {P : Program} {w : World} {K : PySem.W.Frag} {mg : Str → Option Value} {base : Heap} {C f : Addr} {fd : FuncData} (U : Fx K mg C) (F : FunD K "corners_once" "corners_once" (defArgs s_corners_once) (defBody s_corners_once) (defScope s_corners_once) [] [] f fd) (hm : mg "corners_once" = some (.ref f)) :
    CalV P w K mg base (ctW C) 1 "corners_once" 1 g_corners_once := by
  have S := sc_corners_once
  exact mkV (k := 0) F hm S rfl (fun _ _ _ _ _ _ us hl => match us, hl with | [_], _ => rfl) fun cdv A outer s H E hr =>
    (sss_one (ss_ret (sf_t1 cr_tup k_tup rfl U.n_tuple (by decide +kernel) (ae_v (SF.toE (sf_b1 (cr_sort rfl (roomU64 hr)) k_sort rfl U.n_sorted (by decide +kernel) (ae_v (SF.toE (sf_dc (own := [("corner", 1)]) rfl S.nd (si_d (se_var (pv 0))) (blkOk_by (by kernel_rfl)) (fun _ _ _ _ _ => (sg_nm (i := 1) S.nd rfl (by first | exact .inl rfl | exact .inr rfl))) (fun _ _ _ _ _ => sts_nil) (fun _ _ _ _ _ => (se_var (pv 1))) (fun _ _ _ _ _ => se_bl))))))))))
/-! ### in_order -/
def m_in_order : M Fl :=
  (mSeq (mSet 1 (mCall 1 g_corners_once [(mV 0)])) (mSeq (mIf (mT (m2 fNe (.val (mFz (m1 fLen (.pk 1)))) (.val (mFz (m1 fLen (.pk 0)))))) (mRet (mIm (mC .non))) mNx) (mSeq (mSet 2 (mIm (mC (.int 1)))) (mSeq (mFor (itF dEnm (mV 0)) (.tp [(.nm 3), (.nm 4)]) (mFor (itD (mFz (mSl (.pk 0) (.at_ (mFz (m2 fAdd (.pk 3) (.val (mC (.int 1)))))) .no))) (.nm 5) (mIf (mT (m2 fLt (.pk 5) (.pk 4))) (mSet 2 (m1 fNeg (.pk 2))) mNx))) (mRet (mTup [(mV 1), (mV 2)]))))))
def g_in_order : List D → Option S := runV 6 m_in_order
theorem sc_in_order : FnScope ["row", "side", "sign", "at", "corner", "later"] ["row"] (defScope s_in_order) := ⟨rfl, rfl, rfl, by decide +kernel, rfl, by decide +kernel, by decide +kernel⟩
theorem ok_in_order {P : Program} {w : World} {K : PySem.W.Frag} {mg : Str → Option Value} {base : Heap} {C f : Addr} {fd : FuncData} (U : Fx K mg C) (F : FunD K "in_order" "in_order" (defArgs s_in_order) (defBody s_in_order) (defScope s_in_order) [] [] f fd) (hm : mg "in_order" = some (.ref f)) (c_corners_once : CalV P w K mg base (ctW C) 1 "corners_once" 1 g_corners_once) :
    CalV P w K mg base (ctW C) 2 "in_order" 1 g_in_order := by
  have S := sc_in_order
  exact mkV (k := 1) F hm S rfl (fun _ _ _ _ _ _ us hl => match us, hl with | [_], _ => rfl) fun cdv A outer s H E hr =>
    (sss_cons (ss_set (i := 1) S.nd rfl (by first | exact .inl rfl | exact .inr rfl) (sf_cl c_corners_once hr (by decide) rfl (ses_cons (se_var (pv 0)) ses_nil))) (sss_cons (ss_if (st_cmp (op_neD (roomU64 hr)) k_ne (ae_v (SF.toE (sf_b1 cr_len k_len rfl U.n_len (by decide +kernel) (ae_p (pv 1))))) (ae_v (SF.toE (sf_b1 cr_len k_len rfl U.n_len (by decide +kernel) (ae_p (pv 0))))) rfl) (sss_one (ss_ret (SE.toF se_non))) sss_nil) (sss_cons (ss_set (i := 2) S.nd rfl (by first | exact .inl rfl | exact .inr rfl) (SE.toF se_int)) (sss_cons (ss_for PassesOwn.never rfl (si_en rfl U.n_enumerate (se_var (pv 0))) (sg_tp rfl (sgs_cons (sg_nm (i := 3) S.nd rfl (by first | exact .inl rfl | exact .inr rfl)) (sgs_cons (sg_nm (i := 4) S.nd rfl (by first | exact .inl rfl | exact .inr rfl)) sgs_nil))) (sss_one (ss_for PassesOwn.never rfl (si_d (SF.toE (sf_sl (ae_p (pv 0)) (so_at (SF.toE (sf_bin op_addAny k_add (ae_p (pv 3)) (ae_v se_int)))) so_no))) (sg_nm (i := 5) S.nd rfl (by first | exact .inl rfl | exact .inr rfl)) (sss_one (ss_if (st_cmp (op_ltAny hr.units0) k_ltA (ae_p (pv 5)) (ae_p (pv 4)) rfl) (sss_one (ss_set (i := 2) S.nd rfl (by first | exact .inl rfl | exact .inr rfl) (sf_un un_neg k_neg (ae_p (pv 2))))) sss_nil))))) (sss_one (ss_ret (sf_tup (ses_cons (se_var (pv 1)) (ses_cons (se_var (pv 2)) ses_nil)))))))))
/-! ### has_form_of_map -/
def m_has_form_of_map : M Fl :=
  (mSeq (mIf (bOr (bNot (mTru (.val (mFz (m1 (fun d => fIsi .tup d d) (.pk 0)))))) (bNot (mTru (.val (mFz (m1 fAll (.val (mFz (mLc (itD (mV 0)) (.nm 1) mYes (mFz (mCall 1 g_is_pair [(mV 1)])) [1]))))))))) (mRet (mIm (mC (.bl false)))) mNx) (mRet (mAnd (m1 fAll (.val (mFz (mLc (itD (mV 0)) (.nm 1) mYes (mFz (mAnd (mCall 1 g_is_integer [(mFz (m2 fIx (.pk 1) (.val (mC (.int 0)))))]) (mCall 1 g_is_integer [(mFz (m2 fIx (.pk 1) (.val (mC (.int 1)))))]))) [1])))) (mCall 1 g_is_ascending [(mV 0)]))))
def g_has_form_of_map : List D → Option S := runV 2 m_has_form_of_map
theorem sc_has_form_of_map : FnScope ["thing", "pair"] ["thing"] (defScope s_has_form_of_map) := ⟨rfl, rfl, rfl, by decide +kernel, rfl, by decide +kernel, by decide +kernel⟩
theorem ok_has_form_of_map {P : Program} {w : World} {K : PySem.W.Frag} {mg : Str → Option Value} {base : Heap} {C f : Addr} {fd : FuncData} (U : Fx K mg C) (F : FunD K "has_form_of_map" "has_form_of_map" (defArgs s_has_form_of_map) (defBody s_has_form_of_map) (defScope s_has_form_of_map) [] [] f fd) (hm : mg "has_form_of_map" = some (.ref f)) (c_is_ascending : CalV P w K mg base (ctW C) 1 "is_ascending" 1 g_is_ascending) (c_is_integer : CalV P w K mg base (ctW C) 1 "is_integer" 1 g_is_integer) (c_is_pair : CalV P w K mg base (ctW C) 1 "is_pair" 1 g_is_pair) :
    CalV P w K mg base (ctW C) 2 "has_form_of_map" 1 g_has_form_of_map := by
  have S := sc_has_form_of_map
  exact mkV (k := 1) F hm S rfl (fun _ _ _ _ _ _ us hl => match us, hl with | [_], _ => rfl) fun cdv A outer s H E hr =>
    (sss_cons (ss_if (SW.t (sw_or (st_not (st_tru (ae_v (SF.toE (sf_isi rfl U.n_isinstance rfl U.n_tuple (by decide +kernel) (ae_p (pv 0))))))) (sw_or1 (st_not (st_tru (ae_v (SF.toE (sf_b1 (cr_all rfl) k_all rfl U.n_all (by decide +kernel) (ae_v (SF.toE (sf_lc (own := [("pair", 1)]) rfl S.nd (si_d (se_var (pv 0))) (blkOk_by (by kernel_rfl)) (fun _ _ _ _ _ => (sg_nm (i := 1) S.nd rfl (by first | exact .inl rfl | exact .inr rfl))) (fun _ _ _ _ _ => sts_nil) (fun _ _ _ _ _ => (SF.toE (sf_cl c_is_pair hr (by decide) rfl (ses_cons (se_var (pv 1)) ses_nil))))))))))))))) (sss_one (ss_ret (SE.toF se_bl))) sss_nil) (sss_one (ss_ret (sf_and (sf_b1 (cr_all rfl) k_all rfl U.n_all (by decide +kernel) (ae_v (SF.toE (sf_lc (own := [("pair", 1)]) rfl S.nd (si_d (se_var (pv 0))) (blkOk_by (by kernel_rfl)) (fun _ _ _ _ _ => (sg_nm (i := 1) S.nd rfl (by first | exact .inl rfl | exact .inr rfl))) (fun _ _ _ _ _ => sts_nil) (fun _ _ _ _ _ => (SF.toE (sf_and (sf_cl c_is_integer hr (by decide) rfl (ses_cons (SF.toE (sf_ix (ix_any (roomU1 hr)) k_ix (ae_p (pv 1)) (ae_v se_int) fun _ _ => rfl)) ses_nil)) (sf_one (sf_cl c_is_integer hr (by decide) rfl (ses_cons (SF.toE (sf_ix (ix_any (roomU1 hr)) k_ix (ae_p (pv 1)) (ae_v se_int) fun _ _ => rfl)) ses_nil)))))))))) (sf_one (sf_cl c_is_ascending hr (by decide) rfl (ses_cons (se_var (pv 0)) ses_nil)))))))
/-! ### maps -/
def m_maps : M Fl :=
  (mSeq (mIf (bOr (bNot (mTru (.val (mFz (mCall 1 g_has_form_of_map [(mV 2)]))))) (mT (m2 fNe (.val (mFz (mLc (itD (mV 2)) (.nm 5) mYes (mFz (m2 fIx (.pk 5) (.val (mC (.int 0))))) [5]))) (.val (mFz (mLc (itD (mFz (mCall 2 g_sides_of [(mV 0), (mC (.int 0))]))) (.nm 6) mYes (mFz (m2 fIx (.pk 6) (.val (mC (.int 0))))) [6])))))) (mRet (mIm (mC (.bl false)))) mNx) (mSeq (mSet 3 (m1 fDict (.pk 2))) (mRet (m1 fAll (.val (mFz (mLc (itD (mFld 0 0 (mV 0))) (.nm 4) mYes (mFz (m2 (fInA false) (.val (mFz (mCall 1 g_corners_once [(mFz (mLc (itD (mV 4)) (.nm 7) mYes (mFz (m2 fIx (.pk 3) (.pk 7))) [7]))]))) (.val (mFld 0 2 (mV 1))))) [4])))))))
def g_maps : List D → Option S := runV 8 m_maps
theorem sc_maps : FnScope ["one", "other", "thing", "leads", "top", "pair", "side", "corner"] ["one", "other", "thing"] (defScope s_maps) := ⟨rfl, rfl, rfl, by decide +kernel, rfl, by decide +kernel, by decide +kernel⟩
theorem ok_maps {P : Program} {w : World} {K : PySem.W.Frag} {mg : Str → Option Value} {base : Heap} {C f : Addr} {fd : FuncData} (U : Fx K mg C) (F : FunD K "maps" "maps" (defArgs s_maps) (defBody s_maps) (defScope s_maps) [] [] f fd) (hm : mg "maps" = some (.ref f)) (c_corners_once : CalV P w K mg base (ctW C) 1 "corners_once" 1 g_corners_once) (c_has_form_of_map : CalV P w K mg base (ctW C) 2 "has_form_of_map" 1 g_has_form_of_map) (c_sides_of : CalV P w K mg base (ctW C) 1 "sides_of" 2 g_sides_of) :
    CalV P w K mg base (ctW C) 3 "maps" 3 g_maps := by
  have S := sc_maps
  exact mkV (k := 2) F hm S rfl (fun _ _ _ _ _ _ us hl => match us, hl with | [_, _, _], _ => rfl) fun cdv A outer s H E hr =>
    (sss_cons (ss_if (SW.t (sw_or (st_not (st_tru (ae_v (SF.toE (sf_cl c_has_form_of_map hr (by decide) rfl (ses_cons (se_var (pv 2)) ses_nil)))))) (sw_or1 (st_cmp (op_neD (roomU64 hr)) k_ne (ae_v (SF.toE (sf_lc (own := [("pair", 5)]) rfl S.nd (si_d (se_var (pv 2))) (blkOk_by (by kernel_rfl)) (fun _ _ _ _ _ => (sg_nm (i := 5) S.nd rfl (by first | exact .inl rfl | exact .inr rfl))) (fun _ _ _ _ _ => sts_nil) (fun _ _ _ _ _ => (SF.toE (sf_ix (ix_any (roomU1 hr)) k_ix (ae_p (pv 5)) (ae_v se_int) fun _ _ => rfl)))))) (ae_v (SF.toE (sf_lc (own := [("side", 6)]) rfl S.nd (si_d (SF.toE (sf_cl c_sides_of hr (by decide) rfl (ses_cons (se_var (pv 0)) (ses_cons se_int ses_nil))))) (blkOk_by (by kernel_rfl)) (fun _ _ _ _ _ => (sg_nm (i := 6) S.nd rfl (by first | exact .inl rfl | exact .inr rfl))) (fun _ _ _ _ _ => sts_nil) (fun _ _ _ _ _ => (SF.toE (sf_ix (ix_any (roomU1 hr)) k_ix (ae_p (pv 6)) (ae_v se_int) fun _ _ => rfl)))))) rfl)))) (sss_one (ss_ret (SE.toF se_bl))) sss_nil) (sss_cons (ss_set (i := 3) S.nd rfl (by first | exact .inl rfl | exact .inr rfl) (sf_t1 (cr_dict rfl) k_dict rfl U.n_dict (by decide +kernel) (ae_p (pv 2)))) (sss_one (ss_ret (sf_b1 (cr_all rfl) k_all rfl U.n_all (by decide +kernel) (ae_v (SF.toE (sf_lc (own := [("top", 4)]) rfl S.nd (si_d (se_fld (i := 0) (j := 0) U.cls U.no_tops rfl (ctw_lt (by decide)) (se_var (pv 0)))) (blkOk_by (by kernel_rfl)) (fun _ _ _ _ _ => (sg_nm (i := 4) S.nd rfl (by first | exact .inl rfl | exact .inr rfl))) (fun _ _ _ _ _ => sts_nil) (fun _ _ _ _ _ => (SF.toE (sf_cmp (op_inAny (roomU hr)) k_in (ae_v (SF.toE (sf_cl c_corners_once hr (by decide) rfl (ses_cons (SF.toE (sf_lc (own := [("corner", 7)]) rfl S.nd (si_d (se_var (pv 4))) (blkOk_by (by kernel_rfl)) (fun _ _ _ _ _ => (sg_nm (i := 7) S.nd rfl (by first | exact .inl rfl | exact .inr rfl))) (fun _ _ _ _ _ => sts_nil) (fun _ _ _ _ _ => (SF.toE (sf_ix (ix_any (roomU1 hr)) k_ix (ae_p (pv 3)) (ae_p (pv 7)) fun _ _ => rfl))))) ses_nil)))) (ae_v (se_fld (i := 0) (j := 2) U.cls U.no_known rfl (ctw_lt (by decide)) (se_var (pv 1)))) rfl)))))))))))
/-! ### is_map -/
def m_is_map : M Fl :=
  (mRet (mCall 3 g_maps [(mV 0), (mV 1), (mV 2)]))
def g_is_map : List D → Option S := runV 3 m_is_map
theorem sc_is_map : FnScope ["one", "other", "thing"] ["one", "other", "thing"] (defScope s_is_map) := ⟨rfl, rfl, rfl, by decide +kernel, rfl, by decide +kernel, by decide +kernel⟩
theorem ok_is_map {P : Program} {w : World} {K : PySem.W.Frag} {mg : Str → Option Value} {base : Heap} {C f : Addr} {fd : FuncData} (U : Fx K mg C) (F : FunD K "is_map" "is_map" (defArgs s_is_map) (defBody s_is_map) (defScope s_is_map) [] [] f fd) (hm : mg "is_map" = some (.ref f)) (c_maps : CalV P w K mg base (ctW C) 3 "maps" 3 g_maps) :
    CalV P w K mg base (ctW C) 4 "is_map" 3 g_is_map := by
  have S := sc_is_map
  exact mkV (k := 3) F hm S rfl (fun _ _ _ _ _ _ us hl => match us, hl with | [_, _, _], _ => rfl) fun cdv A outer s H E hr =>
    (sss_one (ss_ret (sf_cl c_maps hr (by decide) rfl (ses_cons (se_var (pv 0)) (ses_cons (se_var (pv 1)) (ses_cons (se_var (pv 2)) ses_nil))))))
/-! ### map_asked -/
def m_map_asked : M Fl :=
  (mIf (bNot (mTru (.val (mFz (mCall 3 g_maps [(mV 0), (mV 1), (mV 2)]))))) mNo mNx)
def g_map_asked : List D → Option S := runV 3 m_map_asked
theorem sc_map_asked : FnScope ["one", "other", "thing"] ["one", "other", "thing"] (defScope s_map_asked) := ⟨rfl, rfl, rfl, by decide +kernel, rfl, by decide +kernel, by decide +kernel⟩
theorem ok_map_asked {P : Program} {w : World} {K : PySem.W.Frag} {mg : Str → Option Value} {base : Heap} {C f : Addr} {fd : FuncData} (U : Fx K mg C) (F : FunD K "map_asked" "map_asked" (defArgs s_map_asked) (defBody s_map_asked) (defScope s_map_asked) [] [] f fd) (hm : mg "map_asked" = some (.ref f)) (c_maps : CalV P w K mg base (ctW C) 3 "maps" 3 g_maps) :
    CalV P w K mg base (ctW C) 4 "map_asked" 3 g_map_asked := by
  have S := sc_map_asked
  exact mkV (k := 3) F hm S rfl (fun _ _ _ _ _ _ us hl => match us, hl with | [_, _, _], _ => rfl) fun cdv A outer s H E hr =>
    (sss_one (ss_if (st_not (st_tru (ae_v (SF.toE (sf_cl c_maps hr (by decide) rfl (ses_cons (se_var (pv 0)) (ses_cons (se_var (pv 1)) (ses_cons (se_var (pv 2)) ses_nil)))))))) (sss_one ss_no) sss_nil))
/-! ### put_row -/
def m_put_row : M Fl :=
  (mSeq (mSet 3 (mCall 1 g_in_order [(mV 1)])) (mIf (mT (m2 (fIsN true) (.pk 3) (.val (mC .non)))) (mPut 0 (mFz (m2 fIx (.pk 3) (.val (mC (.int 0))))) (mFz (m2 fAdd (.val (mGet (.pk 0) (mFz (m2 fIx (.pk 3) (.val (mC (.int 0))))) (mC (.int 0)))) (.val (mFz (m2 fMul (.val (mFz (m2 fIx (.pk 3) (.val (mC (.int 1)))))) (.pk 2))))))) mNx))
def g_put_row : S → List D → Option (S × S) := runI 4 m_put_row
theorem sc_put_row : FnScope ["worths", "row", "worth", "told"] ["worths", "row", "worth"] (defScope s_put_row) := ⟨rfl, rfl, rfl, by decide +kernel, rfl, by decide +kernel, by decide +kernel⟩
theorem ok_put_row {P : Program} {w : World} {K : PySem.W.Frag} {mg : Str → Option Value} {base : Heap} {C f : Addr} {fd : FuncData} (U : Fx K mg C) (F : FunD K "put_row" "put_row" (defArgs s_put_row) (defBody s_put_row) (defScope s_put_row) [] [] f fd) (hm : mg "put_row" = some (.ref f)) (c_in_order : CalV P w K mg base (ctW C) 2 "in_order" 1 g_in_order) :
    CalI P w K mg base (ctW C) 3 "put_row" 3 g_put_row := by
  have S := sc_put_row
  exact mkI (k := 2) F hm S rfl (fun _ _ _ _ _ _ us hl => match us, hl with | [_, _, _], _ => rfl) fun cdv A outer s H E hr =>
    (sss_cons (ss_set (i := 3) S.nd rfl (by first | exact .inl rfl | exact .inr rfl) (sf_cl c_in_order hr (by decide) rfl (ses_cons (se_var (pv 1)) ses_nil))) (sss_one (ss_if (st_cmp op_notN k_notN (ae_p (pv 3)) (ae_v se_non) rfl) (sss_one (ss_put (roomU1 hr) (pv 0) (SF.toE (sf_ix (ix_any (roomU1 hr)) k_ix (ae_p (pv 3)) (ae_v se_int) fun _ _ => rfl)) (SF.toE (sf_bin op_addAny k_add (ae_v (se_get (roomU1 hr) (ae_p (pv 0)) (SF.toE (sf_ix (ix_any (roomU1 hr)) k_ix (ae_p (pv 3)) (ae_v se_int) fun _ _ => rfl)) se_int)) (ae_v (SF.toE (sf_bin op_mulAny k_mulA (ae_v (SF.toE (sf_ix (ix_any (roomU1 hr)) k_ix (ae_p (pv 3)) (ae_v se_int) fun _ _ => rfl))) (ae_p (pv 2))))))))) sss_nil)))
/-! ### led -/
def m_led : M Fl :=
  (mSeq (mSet 3 (mNew true)) (mSeq (mFor (itD (mV 2)) (.tp [(.nm 4), (.nm 5)]) (mDrop (mCallI 3 3 g_put_row [(mFz (mLc (itD (mV 4)) (.nm 6) mYes (mFz (m2 fIx (.pk 0) (.pk 6))) [6])), (mV 5)]))) (mRet (mCall 2 g_chain_of [(mV 3), (mV 1)]))))
def g_led : List D → Option S := runV 7 m_led
theorem sc_led : FnScope ["leads", "n", "chain", "worths", "side", "worth", "corner"] ["leads", "n", "chain"] (defScope s_led) := ⟨rfl, rfl, rfl, by decide +kernel, rfl, by decide +kernel, by decide +kernel⟩
theorem ok_led {P : Program} {w : World} {K : PySem.W.Frag} {mg : Str → Option Value} {base : Heap} {C f : Addr} {fd : FuncData} (U : Fx K mg C) (F : FunD K "led" "led" (defArgs s_led) (defBody s_led) (defScope s_led) [] [] f fd) (hm : mg "led" = some (.ref f)) (c_chain_of : CalV P w K mg base (ctW C) 1 "chain_of" 2 g_chain_of) (c_put_row : CalI P w K mg base (ctW C) 3 "put_row" 3 g_put_row) :
    CalV P w K mg base (ctW C) 4 "led" 3 g_led := by
  have S := sc_led
  exact mkV (k := 3) F hm S rfl (fun _ _ _ _ _ _ us hl => match us, hl with | [_, _, _], _ => rfl) fun cdv A outer s H E hr =>
    (sss_cons (ss_set (i := 3) S.nd rfl (by first | exact .inl rfl | exact .inr rfl) (sf_new (t := true))) (sss_cons (ss_for PassesOwn.never rfl (si_d (se_var (pv 2))) (sg_tp rfl (sgs_cons (sg_nm (i := 4) S.nd rfl (by first | exact .inl rfl | exact .inr rfl)) (sgs_cons (sg_nm (i := 5) S.nd rfl (by first | exact .inl rfl | exact .inr rfl)) sgs_nil))) (sss_one (ss_expr (sf_clI c_put_row hr (by decide) rfl (pv 3) (ses_cons (SF.toE (sf_lc (own := [("corner", 6)]) rfl S.nd (si_d (se_var (pv 4))) (blkOk_by (by kernel_rfl)) (fun _ _ _ _ _ => (sg_nm (i := 6) S.nd rfl (by first | exact .inl rfl | exact .inr rfl))) (fun _ _ _ _ _ => sts_nil) (fun _ _ _ _ _ => (SF.toE (sf_ix (ix_any (roomU1 hr)) k_ix (ae_p (pv 0)) (ae_p (pv 6)) fun _ _ => rfl))))) (ses_cons (se_var (pv 5)) ses_nil)))))) (sss_one (ss_ret (sf_cl c_chain_of hr (by decide) rfl (ses_cons (se_var (pv 3)) (ses_cons (se_var (pv 1)) ses_nil)))))))
/-! ### led_chain -/
def m_led_chain : M Fl :=
  (mSeq (mDrop (mCall 3 g_map_asked [(mV 0), (mV 1), (mV 2)])) (mSeq (mDrop (mCall 1 g_degree_asked [(mV 3)])) (mSeq (mDrop (mCall 1 g_modulus_asked [(mV 4)])) (mSeq (mDrop (mCall 4 g_chain_asked [(mV 0), (mV 3), (mV 4), (mV 5)])) (mRet (mCall 3 g_led [(mFz (m1 fDict (.pk 2))), (mV 4), (mV 5)]))))))
def g_led_chain : List D → Option S := runV 6 m_led_chain
theorem sc_led_chain : FnScope ["one", "other", "lead", "degree", "n", "chain"] ["one", "other", "lead", "degree", "n", "chain"] (defScope s_led_chain) := ⟨rfl, rfl, rfl, by decide +kernel, rfl, by decide +kernel, by decide +kernel⟩
theorem ok_led_chain {P : Program} {w : World} {K : PySem.W.Frag} {mg : Str → Option Value} {base : Heap} {C f : Addr} {fd : FuncData} (U : Fx K mg C) (F : FunD K "led_chain" "led_chain" (defArgs s_led_chain) (defBody s_led_chain) (defScope s_led_chain) [] [] f fd) (hm : mg "led_chain" = some (.ref f)) (c_chain_asked : CalV P w K mg base (ctW C) 5 "chain_asked" 4 g_chain_asked) (c_degree_asked : CalV P w K mg base (ctW C) 3 "degree_asked" 1 g_degree_asked) (c_led : CalV P w K mg base (ctW C) 4 "led" 3 g_led) (c_map_asked : CalV P w K mg base (ctW C) 4 "map_asked" 3 g_map_asked) (c_modulus_asked : CalV P w K mg base (ctW C) 4 "modulus_asked" 1 g_modulus_asked) :
    CalV P w K mg base (ctW C) 6 "led_chain" 6 g_led_chain := by
  have S := sc_led_chain
  exact mkV (k := 5) F hm S rfl (fun _ _ _ _ _ _ us hl => match us, hl with | [_, _, _, _, _, _], _ => rfl) fun cdv A outer s H E hr =>
    (sss_cons (ss_expr (sf_cl c_map_asked hr (by decide) rfl (ses_cons (se_var (pv 0)) (ses_cons (se_var (pv 1)) (ses_cons (se_var (pv 2)) ses_nil))))) (sss_cons (ss_expr (sf_cl c_degree_asked hr (by decide) rfl (ses_cons (se_var (pv 3)) ses_nil))) (sss_cons (ss_expr (sf_cl c_modulus_asked hr (by decide) rfl (ses_cons (se_var (pv 4)) ses_nil))) (sss_cons (ss_expr (sf_cl c_chain_asked hr (by decide) rfl (ses_cons (se_var (pv 0)) (ses_cons (se_var (pv 3)) (ses_cons (se_var (pv 4)) (ses_cons (se_var (pv 5)) ses_nil)))))) (sss_one (ss_ret (sf_cl c_led hr (by decide) rfl (ses_cons (SF.toE (sf_t1 (cr_dict rfl) k_dict rfl U.n_dict (by decide +kernel) (ae_p (pv 2)))) (ses_cons (se_var (pv 4)) (ses_cons (se_var (pv 5)) ses_nil))))))))))
/-! ### behind -/
def m_behind : M Fl :=
  (mSeq (mDrop (mCall 3 g_map_asked [(mV 0), (mV 1), (mV 3)])) (mSeq (mDrop (mCall 3 g_map_asked [(mV 1), (mV 2), (mV 4)])) (mSeq (mSet 5 (m1 fDict (.pk 4))) (mRet (m1 fTup (.val (mFz (mLc (itD (mV 3)) (.tp [(.nm 6), (.nm 7)]) mYes (mFz (mTup [(mV 6), (mFz (m2 fIx (.pk 5) (.pk 7)))])) [6, 7]))))))))
def g_behind : List D → Option S := runV 8 m_behind
theorem sc_behind : FnScope ["one", "two", "three", "first", "second", "leads", "corner", "there"] ["one", "two", "three", "first", "second"] (defScope s_behind) := ⟨rfl, rfl, rfl, by decide +kernel, rfl, by decide +kernel, by decide +kernel⟩
theorem ok_behind {P : Program} {w : World} {K : PySem.W.Frag} {mg : Str → Option Value} {base : Heap} {C f : Addr} {fd : FuncData} (U : Fx K mg C) (F : FunD K "behind" "behind" (defArgs s_behind) (defBody s_behind) (defScope s_behind) [] [] f fd) (hm : mg "behind" = some (.ref f)) (c_map_asked : CalV P w K mg base (ctW C) 4 "map_asked" 3 g_map_asked) :
    CalV P w K mg base (ctW C) 5 "behind" 5 g_behind := by
  have S := sc_behind
  exact mkV (k := 4) F hm S rfl (fun _ _ _ _ _ _ us hl => match us, hl with | [_, _, _, _, _], _ => rfl) fun cdv A outer s H E hr =>
    (sss_cons (ss_expr (sf_cl c_map_asked hr (by decide) rfl (ses_cons (se_var (pv 0)) (ses_cons (se_var (pv 1)) (ses_cons (se_var (pv 3)) ses_nil))))) (sss_cons (ss_expr (sf_cl c_map_asked hr (by decide) rfl (ses_cons (se_var (pv 1)) (ses_cons (se_var (pv 2)) (ses_cons (se_var (pv 4)) ses_nil))))) (sss_cons (ss_set (i := 5) S.nd rfl (by first | exact .inl rfl | exact .inr rfl) (sf_t1 (cr_dict rfl) k_dict rfl U.n_dict (by decide +kernel) (ae_p (pv 4)))) (sss_one (ss_ret (sf_t1 cr_tup k_tup rfl U.n_tuple (by decide +kernel) (ae_v (SF.toE (sf_lc (own := [("corner", 6), ("there", 7)]) rfl S.nd (si_d (se_var (pv 3))) (blkOk_by (by kernel_rfl)) (fun _ _ _ _ _ => (sg_tp rfl (sgs_cons (sg_nm (i := 6) S.nd rfl (by first | exact .inl rfl | exact .inr rfl)) (sgs_cons (sg_nm (i := 7) S.nd rfl (by first | exact .inl rfl | exact .inr rfl)) sgs_nil)))) (fun _ _ _ _ _ => sts_nil) (fun _ _ _ _ _ => (SF.toE (sf_tup (ses_cons (se_var (pv 6)) (ses_cons (SF.toE (sf_ix (ix_any (roomU1 hr)) k_ix (ae_p (pv 5)) (ae_p (pv 7)) fun _ _ => rfl)) ses_nil))))))))))))))
/-! ### tops_by_wall -/
def m_tops_by_wall : M Fl :=
  (mKey 1 (xSeq (uFor (itF dEnm (mFld 0 0 (mV 0))) (.tp [(.nm 2), (.nm 3)]) (uFor (itD (mFz (mCall 1 g_walls_of [(mV 3)]))) (.nm 4) (uSda (mV 4) (mV 2)))) (xRetK 1)))
def g_tops_by_wall : List D → Option S := runV 5 m_tops_by_wall
theorem sc_tops_by_wall : FnScope ["web", "found", "at", "top", "wall"] ["web"] (defScope s_tops_by_wall) := ⟨rfl, rfl, rfl, by decide +kernel, rfl, by decide +kernel, by decide +kernel⟩
theorem ok_tops_by_wall {P : Program} {w : World} {K : PySem.W.Frag} {mg : Str → Option Value} {base : Heap} {C f : Addr} {fd : FuncData} (U : Fx K mg C) (F : FunD K "tops_by_wall" "tops_by_wall" (defArgs s_tops_by_wall) (defBody s_tops_by_wall) (defScope s_tops_by_wall) [] [] f fd) (hm : mg "tops_by_wall" = some (.ref f)) (c_walls_of : CalV P w K mg base (ctW C) 1 "walls_of" 1 g_walls_of) :
    CalV P w K mg base (ctW C) 2 "tops_by_wall" 1 g_tops_by_wall := by
  have S := sc_tops_by_wall
  exact mkV (k := 1) F hm S rfl (fun _ _ _ _ _ _ us hl => match us, hl with | [_], _ => rfl) fun cdv A outer s H E hr =>
    (sss_key (j := 1) S.nd rfl (by first | exact .inl rfl | exact .inr rfl) (uxs_cons (us_for IK.mono PassesOwn.never rfl (si_en rfl U.n_enumerate (se_fld (i := 0) (j := 0) U.cls U.no_tops rfl (ctw_lt (by decide)) (se_var (pv 0)))) (sg_tp rfl (sgs_cons (sg_nm (i := 2) S.nd rfl (by first | exact .inl rfl | exact .inr rfl)) (sgs_cons (sg_nm (i := 3) S.nd rfl (by first | exact .inl rfl | exact .inr rfl)) sgs_nil))) (uss_one (us_for IK.mono PassesOwn.never rfl (si_d (SF.toE (sf_cl c_walls_of hr (by decide) rfl (ses_cons (se_var (pv 3)) ses_nil)))) (sg_nm (i := 4) S.nd rfl (by first | exact .inl rfl | exact .inr rfl)) (uss_one (us_sda (j := 1) (pe_bm PySem.F.plainAttrs_dict PySem.F.slot_dict_setdefault PySem.F.type_dict_setdefault (mt_setT (roomU1 hr)) (pv 1) (pa_cons (se_var (pv 4)) (pa_cons pe_e0 pa_nil))) (se_var (pv 2))))))) (uxs_retK (pv 1))))
/-! ### sign_in -/
def m_sign_in : M Fl :=
  (mRet (mIf (mT (m2 fEq (.val (mFz (m2 (fI2c cPos fun i j => .int (i % j)) (.val (mIdx (mFz (mCall 1 g_walls_of [(mV 0)])) (mV 1))) (.val (mC (.int 2)))))) (.val (mC (.int 0))))) (mIm (mC (.int 1))) (m1 fNeg (.val (mC (.int 1))))))
def g_sign_in : List D → Option S := runV 2 m_sign_in
theorem sc_sign_in : FnScope ["top", "wall"] ["top", "wall"] (defScope s_sign_in) := ⟨rfl, rfl, rfl, by decide +kernel, rfl, by decide +kernel, by decide +kernel⟩
theorem ok_sign_in {P : Program} {w : World} {K : PySem.W.Frag} {mg : Str → Option Value} {base : Heap} {C f : Addr} {fd : FuncData} (U : Fx K mg C) (F : FunD K "sign_in" "sign_in" (defArgs s_sign_in) (defBody s_sign_in) (defScope s_sign_in) [] [] f fd) (hm : mg "sign_in" = some (.ref f)) (c_walls_of : CalV P w K mg base (ctW C) 1 "walls_of" 1 g_walls_of) :
    CalV P w K mg base (ctW C) 2 "sign_in" 2 g_sign_in := by
  have S := sc_sign_in
  exact mkV (k := 1) F hm S rfl (fun _ _ _ _ _ _ us hl => match us, hl with | [_, _], _ => rfl) fun cdv A outer s H E hr =>
    (sss_one (ss_ret (sf_if (st_cmp (op_eqD (roomU64 hr)) k_eq (ae_v (SF.toE (sf_bin op_mod k_mod (ae_v (se_idx (roomU hr) (SF.toE (sf_cl c_walls_of hr (by decide) rfl (ses_cons (se_var (pv 0)) ses_nil))) (se_var (pv 1)))) (ae_v se_int)))) (ae_v se_int) rfl) (SE.toF se_int) (sf_un un_neg k_neg (ae_v se_int)))))
/-! ### mates_of -/
def m_mates_of : M Fl :=
  (mRows 1 (itD (mFld 0 0 (mV 0))) (.nm 4) [4] (xSeq (uFor (itF dItm (mFz (mCall 1 g_tops_by_wall [(mV 0)]))) (.tp [(.nm 2), (.nm 3)]) (uIf (mT (m2 fEq (.val (mFz (m1 fLen (.pk 3)))) (.val (mC (.int 2))))) (uSeq (uL (mAsg (.tp [(.nm 7), (.nm 8)]) (mV 3))) (uSeq (uL (mSet 5 (m2 fMul (.val (mFz (m1 fNeg (.val (mFz (mCall 2 g_sign_in [(mFz (m2 fIx (.val (mFld 0 0 (mV 0))) (.pk 7))), (mV 2)])))))) (.val (mFz (mCall 2 g_sign_in [(mFz (m2 fIx (.val (mFld 0 0 (mV 0))) (.pk 8))), (mV 2)])))))) (uSeq (uApp (mV 7) (mFz (mTup [(mV 8), (mV 5)]))) (uApp (mV 8) (mFz (mTup [(mV 7), (mV 5)])))))) uNx)) (xFz 1 (mRet (mLc (itD (mV 1)) (.nm 6) mYes (mFz (m1 fSort (.pk 6))) [6])))))
def g_mates_of : List D → Option S := runV 9 m_mates_of
theorem sc_mates_of : FnScope ["web", "found", "wall", "numbers", "top", "turn", "mates", "one", "other"] ["web"] (defScope s_mates_of) := ⟨rfl, rfl, rfl, by decide +kernel, rfl, by decide +kernel, by decide +kernel⟩
theorem ok_mates_of {P : Program} {w : World} {K : PySem.W.Frag} {mg : Str → Option Value} {base : Heap} {C f : Addr} {fd : FuncData} (U : Fx K mg C) (F : FunD K "mates_of" "mates_of" (defArgs s_mates_of) (defBody s_mates_of) (defScope s_mates_of) [] [] f fd) (hm : mg "mates_of" = some (.ref f)) (c_sign_in : CalV P w K mg base (ctW C) 2 "sign_in" 2 g_sign_in) (c_tops_by_wall : CalV P w K mg base (ctW C) 2 "tops_by_wall" 1 g_tops_by_wall) :
    CalV P w K mg base (ctW C) 3 "mates_of" 1 g_mates_of := by
  have S := sc_mates_of
  exact mkV (k := 2) F hm S rfl (fun _ _ _ _ _ _ us hl => match us, hl with | [_], _ => rfl) fun cdv A outer s H E hr =>
    (sss_rows (j := 1) (own := [("top", 4)]) rfl S.nd rfl rfl rfl (si_d (se_fld (i := 0) (j := 0) U.cls U.no_tops rfl (ctw_lt (by decide)) (se_var (pv 0)))) (blkOk_by (by kernel_rfl)) (fun _ _ _ _ _ => (sg_nm (i := 4) S.nd rfl (by first | exact .inl rfl | exact .inr rfl))) (uxs_cons (us_for (IR.mono sh0_mono) PassesOwn.never rfl (si_it (SF.toE (sf_cl c_tops_by_wall hr (by decide) rfl (ses_cons (se_var (pv 0)) ses_nil)))) (sg_tp rfl (sgs_cons (sg_nm (i := 2) S.nd rfl (by first | exact .inl rfl | exact .inr rfl)) (sgs_cons (sg_nm (i := 3) S.nd rfl (by first | exact .inl rfl | exact .inr rfl)) sgs_nil))) (uss_one (us_if (IR.mono sh0_mono) (st_cmp (op_eqD (roomU64 hr)) k_eq (ae_v (SF.toE (sf_b1 cr_len k_len rfl U.n_len (by decide +kernel) (ae_p (pv 3))))) (ae_v se_int) rfl) (uss_cons (us_lift (IR.mono sh0_mono) (ss_asg (se_var (pv 3)) (sg_tp rfl (sgs_cons (sg_nm (i := 7) S.nd rfl (by first | exact .inl rfl | exact .inr rfl)) (sgs_cons (sg_nm (i := 8) S.nd rfl (by first | exact .inl rfl | exact .inr rfl)) sgs_nil))))) (uss_cons (us_lift (IR.mono sh0_mono) (ss_set (i := 5) S.nd rfl (by first | exact .inl rfl | exact .inr rfl) (sf_bin op_mulAny k_mulA (ae_v (SF.toE (sf_un un_neg k_neg (ae_v (SF.toE (sf_cl c_sign_in hr (by decide) rfl (ses_cons (SF.toE (sf_ix (ix_any (roomU1 hr)) k_ix (ae_v (se_fld (i := 0) (j := 0) U.cls U.no_tops rfl (ctw_lt (by decide)) (se_var (pv 0)))) (ae_p (pv 7)) fun _ _ => rfl)) (ses_cons (se_var (pv 2)) ses_nil)))))))) (ae_v (SF.toE (sf_cl c_sign_in hr (by decide) rfl (ses_cons (SF.toE (sf_ix (ix_any (roomU1 hr)) k_ix (ae_v (se_fld (i := 0) (j := 0) U.cls U.no_tops rfl (ctw_lt (by decide)) (se_var (pv 0)))) (ae_p (pv 8)) fun _ _ => rfl)) (ses_cons (se_var (pv 2)) ses_nil)))))))) (uss_cons (us_app (j := 1) sh0_mono (pv 1) hrd0 (se_var (pv 7)) (SF.toE (sf_tup (ses_cons (se_var (pv 8)) (ses_cons (se_var (pv 5)) ses_nil)))) fun _ _ => rfl) (uss_one (us_app (j := 1) sh0_mono (pv 1) hrd0 (se_var (pv 8)) (SF.toE (sf_tup (ses_cons (se_var (pv 7)) (ses_cons (se_var (pv 5)) ses_nil)))) fun _ _ => rfl))))) uss_nil))) (uxs_fz (sss_one (ss_ret (sf_lc (own := [("mates", 6)]) rfl S.nd (si_d (se_var (pv 1))) (blkOk_by (by kernel_rfl)) (fun _ _ _ _ _ => (sg_nm (i := 6) S.nd rfl (by first | exact .inl rfl | exact .inr rfl))) (fun _ _ _ _ _ => sts_nil) (fun _ _ _ _ _ => (SF.toE (sf_b1 (cr_sort rfl (roomU64 hr)) k_sort rfl U.n_sorted (by decide +kernel) (ae_p (pv 6)))))))))))
/-! ### walked_from_first -/
def m_walked_from_first : M Fl :=
  (mSeq (mSet 1 (mCall 1 g_mates_of [(mV 0)])) (mSeq (mSet 2 (mDs1 (mC (.int 0)) (mC (.int 1)))) (mSeq (mSet 3 (mDs1 (mC (.int 0)) (mC .non))) (mSeq (mSet 4 (mLst [(mC (.int 0))])) (mSeq (mSet 5 (mIm (mC (.int 0)))) (mSeq (lpW (mT (m2 fLt (.pk 5) (.val (mFz (m1 fLen (.pk 4)))))) (mSeq (mSet 6 (m2 fIx (.pk 4) (.pk 5))) (mSeq (mAug 5 (fun i j => i + j) (mC (.int 1))) (mFor (itD (mFz (m2 fIx (.pk 1) (.pk 6)))) (.tp [(.nm 7), (.nm 8)]) (mIf (mT (m2 (fInA true) (.pk 7) (.pk 2))) (mSeq (mPut 2 (mV 7) (mFz (m2 fMul (.val (mFz (m2 fIx (.pk 2) (.pk 6)))) (.pk 8)))) (mSeq (mPut 3 (mV 7) (mV 6)) (mDrop (mApp 4 (mV 7))))) mNx)))) 1000) (mRet (mTup [(mV 2), (mV 3)]))))))))
def g_walked_from_first : List D → Option S := runV 9 m_walked_from_first
theorem sc_walked_from_first : FnScope ["web", "mates", "signs", "came", "line", "at", "here", "other", "turn"] ["web"] (defScope s_walked_from_first) := ⟨rfl, rfl, rfl, by decide +kernel, rfl, by decide +kernel, by decide +kernel⟩
theorem ok_walked_from_first {P : Program} {w : World} {K : PySem.W.Frag} {mg : Str → Option Value} {base : Heap} {C f : Addr} {fd : FuncData} (U : Fx K mg C) (F : FunD K "walked_from_first" "walked_from_first" (defArgs s_walked_from_first) (defBody s_walked_from_first) (defScope s_walked_from_first) [] [] f fd) (hm : mg "walked_from_first" = some (.ref f)) (c_mates_of : CalV P w K mg base (ctW C) 3 "mates_of" 1 g_mates_of) :
    CalV P w K mg base (ctW C) 4 "walked_from_first" 1 g_walked_from_first := by
  have S := sc_walked_from_first
  exact mkV (k := 3) F hm S rfl (fun _ _ _ _ _ _ us hl => match us, hl with | [_], _ => rfl) fun cdv A outer s H E hr =>
    (sss_cons (ss_set (i := 1) S.nd rfl (by first | exact .inl rfl | exact .inr rfl) (sf_cl c_mates_of hr (by decide) rfl (ses_cons (se_var (pv 0)) ses_nil))) (sss_cons (ss_set (i := 2) S.nd rfl (by first | exact .inl rfl | exact .inr rfl) (sf_ds1 se_int se_int)) (sss_cons (ss_set (i := 3) S.nd rfl (by first | exact .inl rfl | exact .inr rfl) (sf_ds1 se_int se_non)) (sss_cons (ss_set (i := 4) S.nd rfl (by first | exact .inl rfl | exact .inr rfl) (sf_lst (ses_cons se_int ses_nil))) (sss_cons (ss_set (i := 5) S.nd rfl (by first | exact .inl rfl | exact .inr rfl) (SE.toF se_int)) (sss_cons (ss_while (n := 1000) PassesOwn.never (st_cmp (op_ltAny hr.units0) k_ltA (ae_p (pv 5)) (ae_v (SF.toE (sf_b1 cr_len k_len rfl U.n_len (by decide +kernel) (ae_p (pv 4))))) rfl) (sss_cons (ss_set (i := 6) S.nd rfl (by first | exact .inl rfl | exact .inr rfl) (sf_ix (ix_any (roomU1 hr)) k_ix (ae_p (pv 4)) (ae_p (pv 5)) fun _ _ => rfl)) (sss_cons (ss_aug (i := 5) S.nd rfl (by first | exact .inl rfl | exact .inr rfl) se_int ip_add) (sss_one (ss_for PassesOwn.never rfl (si_d (SF.toE (sf_ix (ix_any (roomU1 hr)) k_ix (ae_p (pv 1)) (ae_p (pv 6)) fun _ _ => rfl))) (sg_tp rfl (sgs_cons (sg_nm (i := 7) S.nd rfl (by first | exact .inl rfl | exact .inr rfl)) (sgs_cons (sg_nm (i := 8) S.nd rfl (by first | exact .inl rfl | exact .inr rfl)) sgs_nil))) (sss_one (ss_if (st_cmp (op_ninAny (roomU hr)) k_nin (ae_p (pv 7)) (ae_p (pv 2)) rfl) (sss_cons (ss_put (roomU1 hr) (pv 2) (se_var (pv 7)) (SF.toE (sf_bin op_mulAny k_mulA (ae_v (SF.toE (sf_ix (ix_any (roomU1 hr)) k_ix (ae_p (pv 2)) (ae_p (pv 6)) fun _ _ => rfl))) (ae_p (pv 8))))) (sss_cons (ss_put (roomU1 hr) (pv 3) (se_var (pv 7)) (se_var (pv 6))) (sss_one (ss_expr (sf_app (pv 4) (se_var (pv 7))))))) sss_nil))))))) (sss_one (ss_ret (sf_tup (ses_cons (se_var (pv 2)) (ses_cons (se_var (pv 3)) ses_nil)))))))))))
/-! ### is_sheet -/
def m_is_sheet : M Fl :=
  (mSeq (mIf (bOr (bNot (mTru (.val (mFz (m1 fIsW (.pk 0)))))) (bNot (mTru (.val (mFld 0 0 (mV 0)))))) (mRet (mIm (mC (.bl false)))) mNx) (mSeq (mSet 1 (m1 fLen (.val (mFz (m2 fIx (.val (mFld 0 0 (mV 0))) (.val (mC (.int 0)))))))) (mSeq (mIf (bOr (mT (m2 fLt (.pk 1) (.val (mC (.int 2))))) (bNot (mTru (.val (mFz (m1 fAll (.val (mFz (mLc (itD (mFld 0 0 (mV 0))) (.nm 3) mYes (mFz (m2 fEq (.val (mFz (m1 fLen (.pk 3)))) (.pk 1))) [3]))))))))) (mRet (mIm (mC (.bl false)))) mNx) (mSeq (mIf (bNot (mTru (.val (mFz (m1 fAll (.val (mFz (mLc (itF dVal (mFz (mCall 1 g_tops_by_wall [(mV 0)]))) (.nm 2) mYes (mFz (m2 (fI2 fun i j => .bl (decide (i ≤ j))) (.val (mFz (m1 fLen (.pk 2)))) (.val (mC (.int 2))))) [2])))))))) (mRet (mIm (mC (.bl false)))) mNx) (mRet (m2 fEq (.val (mFz (m1 fLen (.val (mFz (m2 fIx (.val (mFz (mCall 1 g_walked_from_first [(mV 0)]))) (.val (mC (.int 0))))))))) (.val (mFz (m1 fLen (.val (mFld 0 0 (mV 0))))))))))))
def g_is_sheet : List D → Option S := runV 4 m_is_sheet
theorem sc_is_sheet : FnScope ["thing", "size", "numbers", "top"] ["thing"] (defScope s_is_sheet) := ⟨rfl, rfl, rfl, by decide +kernel, rfl, by decide +kernel, by decide +kernel⟩
theorem ok_is_sheet {P : Program} {w : World} {K : PySem.W.Frag} {mg : Str → Option Value} {base : Heap} {C f : Addr} {fd : FuncData} (U : Fx K mg C) (F : FunD K "is_sheet" "is_sheet" (defArgs s_is_sheet) (defBody s_is_sheet) (defScope s_is_sheet) [] [] f fd) (hm : mg "is_sheet" = some (.ref f)) (c_tops_by_wall : CalV P w K mg base (ctW C) 2 "tops_by_wall" 1 g_tops_by_wall) (c_walked_from_first : CalV P w K mg base (ctW C) 4 "walked_from_first" 1 g_walked_from_first) :
    CalV P w K mg base (ctW C) 5 "is_sheet" 1 g_is_sheet := by
  have S := sc_is_sheet
  exact mkV (k := 4) F hm S rfl (fun _ _ _ _ _ _ us hl => match us, hl with | [_], _ => rfl) fun cdv A outer s H E hr =>
    (sss_cons (ss_if (SW.t (sw_or (st_not (st_tru (ae_v (SF.toE (sf_isW rfl U.n_isinstance rfl U.Web (ae_p (pv 0))))))) (sw_or1 (st_not (st_tru (ae_v (se_fld (i := 0) (j := 0) U.cls U.no_tops rfl (ctw_lt (by decide)) (se_var (pv 0))))))))) (sss_one (ss_ret (SE.toF se_bl))) sss_nil) (sss_cons (ss_set (i := 1) S.nd rfl (by first | exact .inl rfl | exact .inr rfl) (sf_b1 cr_len k_len rfl U.n_len (by decide +kernel) (ae_v (SF.toE (sf_ix (ix_any (roomU1 hr)) k_ix (ae_v (se_fld (i := 0) (j := 0) U.cls U.no_tops rfl (ctw_lt (by decide)) (se_var (pv 0)))) (ae_v se_int) fun _ _ => rfl))))) (sss_cons (ss_if (SW.t (sw_or (st_cmp (op_ltAny hr.units0) k_ltA (ae_p (pv 1)) (ae_v se_int) rfl) (sw_or1 (st_not (st_tru (ae_v (SF.toE (sf_b1 (cr_all rfl) k_all rfl U.n_all (by decide +kernel) (ae_v (SF.toE (sf_lc (own := [("top", 3)]) rfl S.nd (si_d (se_fld (i := 0) (j := 0) U.cls U.no_tops rfl (ctw_lt (by decide)) (se_var (pv 0)))) (blkOk_by (by kernel_rfl)) (fun _ _ _ _ _ => (sg_nm (i := 3) S.nd rfl (by first | exact .inl rfl | exact .inr rfl))) (fun _ _ _ _ _ => sts_nil) (fun _ _ _ _ _ => (SF.toE (sf_cmp (op_eqD (roomU64 hr)) k_eq (ae_v (SF.toE (sf_b1 cr_len k_len rfl U.n_len (by decide +kernel) (ae_p (pv 3))))) (ae_p (pv 1)) rfl)))))))))))))) (sss_one (ss_ret (SE.toF se_bl))) sss_nil) (sss_cons (ss_if (st_not (st_tru (ae_v (SF.toE (sf_b1 (cr_all rfl) k_all rfl U.n_all (by decide +kernel) (ae_v (SF.toE (sf_lc (own := [("numbers", 2)]) rfl S.nd (si_va (SF.toE (sf_cl c_tops_by_wall hr (by decide) rfl (ses_cons (se_var (pv 0)) ses_nil)))) (blkOk_by (by kernel_rfl)) (fun _ _ _ _ _ => (sg_nm (i := 2) S.nd rfl (by first | exact .inl rfl | exact .inr rfl))) (fun _ _ _ _ _ => sts_nil) (fun _ _ _ _ _ => (SF.toE (sf_cmp op_le k_le (ae_v (SF.toE (sf_b1 cr_len k_len rfl U.n_len (by decide +kernel) (ae_p (pv 2))))) (ae_v se_int) rfl))))))))))) (sss_one (ss_ret (SE.toF se_bl))) sss_nil) (sss_one (ss_ret (sf_cmp (op_eqD (roomU64 hr)) k_eq (ae_v (SF.toE (sf_b1 cr_len k_len rfl U.n_len (by decide +kernel) (ae_v (SF.toE (sf_ix (ix_any (roomU1 hr)) k_ix (ae_v (SF.toE (sf_cl c_walked_from_first hr (by decide) rfl (ses_cons (se_var (pv 0)) ses_nil)))) (ae_v se_int) fun _ _ => rfl)))))) (ae_v (SF.toE (sf_b1 cr_len k_len rfl U.n_len (by decide +kernel) (ae_v (se_fld (i := 0) (j := 0) U.cls U.no_tops rfl (ctw_lt (by decide)) (se_var (pv 0))))))) rfl)))))))
/-! ### sheet_asked -/
def m_sheet_asked : M Fl :=
  (mIf (bNot (mTru (.val (mFz (mCall 1 g_is_sheet [(mV 0)]))))) mNo mNx)
def g_sheet_asked : List D → Option S := runV 1 m_sheet_asked
theorem sc_sheet_asked : FnScope ["web"] ["web"] (defScope s_sheet_asked) := ⟨rfl, rfl, rfl, by decide +kernel, rfl, by decide +kernel, by decide +kernel⟩
theorem ok_sheet_asked {P : Program} {w : World} {K : PySem.W.Frag} {mg : Str → Option Value} {base : Heap} {C f : Addr} {fd : FuncData} (U : Fx K mg C) (F : FunD K "sheet_asked" "sheet_asked" (defArgs s_sheet_asked) (defBody s_sheet_asked) (defScope s_sheet_asked) [] [] f fd) (hm : mg "sheet_asked" = some (.ref f)) (c_is_sheet : CalV P w K mg base (ctW C) 5 "is_sheet" 1 g_is_sheet) :
    CalV P w K mg base (ctW C) 6 "sheet_asked" 1 g_sheet_asked := by
  have S := sc_sheet_asked
  exact mkV (k := 5) F hm S rfl (fun _ _ _ _ _ _ us hl => match us, hl with | [_], _ => rfl) fun cdv A outer s H E hr =>
    (sss_one (ss_if (st_not (st_tru (ae_v (SF.toE (sf_cl c_is_sheet hr (by decide) rfl (ses_cons (se_var (pv 0)) ses_nil)))))) (sss_one ss_no) sss_nil))
/-! ### rim_walls -/
def m_rim_walls : M Fl :=
  (mRet (m1 fSort (.val (mFz (mLc (itF dItm (mFz (mCall 1 g_tops_by_wall [(mV 0)]))) (.tp [(.nm 1), (.nm 2)]) (mT (m2 fEq (.val (mFz (m1 fLen (.pk 2)))) (.val (mC (.int 1))))) (mV 1) [1, 2])))))
def g_rim_walls : List D → Option S := runV 3 m_rim_walls
theorem sc_rim_walls : FnScope ["web", "wall", "numbers"] ["web"] (defScope s_rim_walls) := ⟨rfl, rfl, rfl, by decide +kernel, rfl, by decide +kernel, by decide +kernel⟩
theorem ok_rim_walls {P : Program} {w : World} {K : PySem.W.Frag} {mg : Str → Option Value} {base : Heap} {C f : Addr} {fd : FuncData} (U : Fx K mg C) (F : FunD K "rim_walls" "rim_walls" (defArgs s_rim_walls) (defBody s_rim_walls) (defScope s_rim_walls) [] [] f fd) (hm : mg "rim_walls" = some (.ref f)) (c_tops_by_wall : CalV P w K mg base (ctW C) 2 "tops_by_wall" 1 g_tops_by_wall) :
    CalV P w K mg base (ctW C) 3 "rim_walls" 1 g_rim_walls := by
  have S := sc_rim_walls
  exact mkV (k := 2) F hm S rfl (fun _ _ _ _ _ _ us hl => match us, hl with | [_], _ => rfl) fun cdv A outer s H E hr =>
    (sss_one (ss_ret (sf_b1 (cr_sort rfl (roomU64 hr)) k_sort rfl U.n_sorted (by decide +kernel) (ae_v (SF.toE (sf_lc (own := [("wall", 1), ("numbers", 2)]) rfl S.nd (si_it (SF.toE (sf_cl c_tops_by_wall hr (by decide) rfl (ses_cons (se_var (pv 0)) ses_nil)))) (blkOk_by (by kernel_rfl)) (fun _ _ _ _ _ => (sg_tp rfl (sgs_cons (sg_nm (i := 1) S.nd rfl (by first | exact .inl rfl | exact .inr rfl)) (sgs_cons (sg_nm (i := 2) S.nd rfl (by first | exact .inl rfl | exact .inr rfl)) sgs_nil)))) (fun _ _ _ _ _ => (sts_one (st_cmp (op_eqD (roomU64 hr)) k_eq (ae_v (SF.toE (sf_b1 cr_len k_len rfl U.n_len (by decide +kernel) (ae_p (pv 2))))) (ae_v se_int) rfl))) (fun _ _ _ _ _ => (se_var (pv 1)))))))))
/-! ### way_back -/
def m_way_back : M Fl :=
  (mSeq (mSet 2 (mLst [(mV 1)])) (mSeq (lpW (mT (m2 (fIsN true) (.val (mFz (m2 fIx (.pk 0) (.val (mFz (m2 fIx (.pk 2) (.val (mFz (m1 fNeg (.val (mC (.int 1)))))))))))) (.val (mC .non)))) (mDrop (mApp 2 (mFz (m2 fIx (.pk 0) (.val (mFz (m2 fIx (.pk 2) (.val (mFz (m1 fNeg (.val (mC (.int 1))))))))))))) 1000) (mRet (mMv 2))))
def g_way_back : List D → Option S := runV 3 m_way_back
theorem sc_way_back : FnScope ["came", "number", "found"] ["came", "number"] (defScope s_way_back) := ⟨rfl, rfl, rfl, by decide +kernel, rfl, by decide +kernel, by decide +kernel⟩
theorem ok_way_back {P : Program} {w : World} {K : PySem.W.Frag} {mg : Str → Option Value} {base : Heap} {C f : Addr} {fd : FuncData} (U : Fx K mg C) (F : FunD K "way_back" "way_back" (defArgs s_way_back) (defBody s_way_back) (defScope s_way_back) [] [] f fd) (hm : mg "way_back" = some (.ref f)) :
    CalV P w K mg base (ctW C) 1 "way_back" 2 g_way_back := by
  have S := sc_way_back
  exact mkV (k := 0) F hm S rfl (fun _ _ _ _ _ _ us hl => match us, hl with | [_, _], _ => rfl) fun cdv A outer s H E hr =>
    (sss_cons (ss_set (i := 2) S.nd rfl (by first | exact .inl rfl | exact .inr rfl) (sf_lst (ses_cons (se_var (pv 1)) ses_nil))) (sss_cons (ss_while (n := 1000) PassesOwn.never (st_cmp op_notN k_notN (ae_v (SF.toE (sf_ix (ix_any (roomU1 hr)) k_ix (ae_p (pv 0)) (ae_v (SF.toE (sf_ix (ix_any (roomU1 hr)) k_ix (ae_p (pv 2)) (ae_v (SF.toE (sf_un un_neg k_neg (ae_v se_int)))) fun _ _ => rfl))) fun _ _ => rfl))) (ae_v se_non) rfl) (sss_one (ss_expr (sf_app (pv 2) (SF.toE (sf_ix (ix_any (roomU1 hr)) k_ix (ae_p (pv 0)) (ae_v (SF.toE (sf_ix (ix_any (roomU1 hr)) k_ix (ae_p (pv 2)) (ae_v (SF.toE (sf_un un_neg k_neg (ae_v se_int)))) fun _ _ => rfl))) fun _ _ => rfl)))))) (sss_one (ss_ret (sf_mv (pv 2))))))
/-! ### turned_ring -/
def m_turned_ring : M Fl :=
  (mSeq (mFor (itF dEnm (mFz (mCall 1 g_mates_of [(mV 0)]))) (.tp [(.nm 3), (.nm 4)]) (mFor (itD (mV 4)) (.tp [(.nm 5), (.nm 6)]) (mIf (mT (m2 fNe (.val (mFz (m2 fIx (.pk 1) (.pk 5)))) (.val (mFz (m2 fMul (.val (mFz (m2 fIx (.pk 1) (.pk 3)))) (.pk 6)))))) (mSeq (mSet 7 (m2 fAdd (.val (mFz (mRev (mFz (mCall 2 g_way_back [(mV 2), (mV 3)]))))) (.val (mFz (mCall 2 g_way_back [(mV 2), (mV 5)]))))) (mRet (m1 fTup (.val (mFz (mLc (itD (mV 7)) (.nm 8) mYes (mFz (m2 fIx (.val (mFld 0 0 (mV 0))) (.pk 8))) [8])))))) mNx))) (mRet (mIm (mC .non))))
def g_turned_ring : List D → Option S := runV 9 m_turned_ring
theorem sc_turned_ring : FnScope ["web", "signs", "came", "one", "mates", "other", "turn", "numbers", "number"] ["web", "signs", "came"] (defScope s_turned_ring) := ⟨rfl, rfl, rfl, by decide +kernel, rfl, by decide +kernel, by decide +kernel⟩
theorem ok_turned_ring {P : Program} {w : World} {K : PySem.W.Frag} {mg : Str → Option Value} {base : Heap} {C f : Addr} {fd : FuncData} (U : Fx K mg C) (F : FunD K "turned_ring" "turned_ring" (defArgs s_turned_ring) (defBody s_turned_ring) (defScope s_turned_ring) [] [] f fd) (hm : mg "turned_ring" = some (.ref f)) (c_mates_of : CalV P w K mg base (ctW C) 3 "mates_of" 1 g_mates_of) (c_way_back : CalV P w K mg base (ctW C) 1 "way_back" 2 g_way_back) :
    CalV P w K mg base (ctW C) 4 "turned_ring" 3 g_turned_ring := by
  have S := sc_turned_ring
  exact mkV (k := 3) F hm S rfl (fun _ _ _ _ _ _ us hl => match us, hl with | [_, _, _], _ => rfl) fun cdv A outer s H E hr =>
    (sss_cons (ss_for PassesOwn.never rfl (si_en rfl U.n_enumerate (SF.toE (sf_cl c_mates_of hr (by decide) rfl (ses_cons (se_var (pv 0)) ses_nil)))) (sg_tp rfl (sgs_cons (sg_nm (i := 3) S.nd rfl (by first | exact .inl rfl | exact .inr rfl)) (sgs_cons (sg_nm (i := 4) S.nd rfl (by first | exact .inl rfl | exact .inr rfl)) sgs_nil))) (sss_one (ss_for PassesOwn.never rfl (si_d (se_var (pv 4))) (sg_tp rfl (sgs_cons (sg_nm (i := 5) S.nd rfl (by first | exact .inl rfl | exact .inr rfl)) (sgs_cons (sg_nm (i := 6) S.nd rfl (by first | exact .inl rfl | exact .inr rfl)) sgs_nil))) (sss_one (ss_if (st_cmp (op_neD (roomU64 hr)) k_ne (ae_v (SF.toE (sf_ix (ix_any (roomU1 hr)) k_ix (ae_p (pv 1)) (ae_p (pv 5)) fun _ _ => rfl))) (ae_v (SF.toE (sf_bin op_mulAny k_mulA (ae_v (SF.toE (sf_ix (ix_any (roomU1 hr)) k_ix (ae_p (pv 1)) (ae_p (pv 3)) fun _ _ => rfl))) (ae_p (pv 6))))) rfl) (sss_cons (ss_set (i := 7) S.nd rfl (by first | exact .inl rfl | exact .inr rfl) (sf_bin op_addAny k_add (ae_v (SF.toE (sf_rev (SF.toE (sf_cl c_way_back hr (by decide) rfl (ses_cons (se_var (pv 2)) (ses_cons (se_var (pv 3)) ses_nil))))))) (ae_v (SF.toE (sf_cl c_way_back hr (by decide) rfl (ses_cons (se_var (pv 2)) (ses_cons (se_var (pv 5)) ses_nil))))))) (sss_one (ss_ret (sf_t1 cr_tup k_tup rfl U.n_tuple (by decide +kernel) (ae_v (SF.toE (sf_lc (own := [("number", 8)]) rfl S.nd (si_d (se_var (pv 7))) (blkOk_by (by kernel_rfl)) (fun _ _ _ _ _ => (sg_nm (i := 8) S.nd rfl (by first | exact .inl rfl | exact .inr rfl))) (fun _ _ _ _ _ => sts_nil) (fun _ _ _ _ _ => (SF.toE (sf_ix (ix_any (roomU1 hr)) k_ix (ae_v (se_fld (i := 0) (j := 0) U.cls U.no_tops rfl (ctw_lt (by decide)) (se_var (pv 0)))) (ae_p (pv 8)) fun _ _ => rfl)))))))))) sss_nil))))) (sss_one (ss_ret (SE.toF se_non))))
/-! ### told_signs -/
def m_told_signs : M Fl :=
  (mSeq (mAsg (.tp [(.nm 2), (.nm 3)]) (mFz (mCall 1 g_walked_from_first [(mV 0)]))) (mSeq (mSet 1 (mCall 3 g_turned_ring [(mV 0), (mV 2), (mV 3)])) (mSeq (mIf (mT (m2 (fIsN true) (.pk 1) (.val (mC .non)))) (mRet (mTup [(mC (.str "ring")), (mV 1)])) mNx) (mRet (mTup [(mC (.str "signs")), (mFz (m1 fTup (.val (mFz (mLc (itR1 (mFz (m1 fLen (.val (mFld 0 0 (mV 0)))))) (.nm 4) mYes (mFz (m2 fIx (.pk 2) (.pk 4))) [4])))))])))))
def g_told_signs : List D → Option S := runV 5 m_told_signs
theorem sc_told_signs : FnScope ["web", "ring", "signs", "came", "at"] ["web"] (defScope s_told_signs) := ⟨rfl, rfl, rfl, by decide +kernel, rfl, by decide +kernel, by decide +kernel⟩
theorem ok_told_signs {P : Program} {w : World} {K : PySem.W.Frag} {mg : Str → Option Value} {base : Heap} {C f : Addr} {fd : FuncData} (U : Fx K mg C) (F : FunD K "told_signs" "told_signs" (defArgs s_told_signs) (defBody s_told_signs) (defScope s_told_signs) [] [] f fd) (hm : mg "told_signs" = some (.ref f)) (c_turned_ring : CalV P w K mg base (ctW C) 4 "turned_ring" 3 g_turned_ring) (c_walked_from_first : CalV P w K mg base (ctW C) 4 "walked_from_first" 1 g_walked_from_first) :
    CalV P w K mg base (ctW C) 5 "told_signs" 1 g_told_signs := by
  have S := sc_told_signs
  exact mkV (k := 4) F hm S rfl (fun _ _ _ _ _ _ us hl => match us, hl with | [_], _ => rfl) fun cdv A outer s H E hr =>
    (sss_cons (ss_asg (SF.toE (sf_cl c_walked_from_first hr (by decide) rfl (ses_cons (se_var (pv 0)) ses_nil))) (sg_tp rfl (sgs_cons (sg_nm (i := 2) S.nd rfl (by first | exact .inl rfl | exact .inr rfl)) (sgs_cons (sg_nm (i := 3) S.nd rfl (by first | exact .inl rfl | exact .inr rfl)) sgs_nil)))) (sss_cons (ss_set (i := 1) S.nd rfl (by first | exact .inl rfl | exact .inr rfl) (sf_cl c_turned_ring hr (by decide) rfl (ses_cons (se_var (pv 0)) (ses_cons (se_var (pv 2)) (ses_cons (se_var (pv 3)) ses_nil))))) (sss_cons (ss_if (st_cmp op_notN k_notN (ae_p (pv 1)) (ae_v se_non) rfl) (sss_one (ss_ret (sf_tup (ses_cons se_str (ses_cons (se_var (pv 1)) ses_nil))))) sss_nil) (sss_one (ss_ret (sf_tup (ses_cons se_str (ses_cons (SF.toE (sf_t1 cr_tup k_tup rfl U.n_tuple (by decide +kernel) (ae_v (SF.toE (sf_lc (own := [("at", 4)]) rfl S.nd (si_r1 rfl U.n_range (SF.toE (sf_b1 cr_len k_len rfl U.n_len (by decide +kernel) (ae_v (se_fld (i := 0) (j := 0) U.cls U.no_tops rfl (ctw_lt (by decide)) (se_var (pv 0))))))) (blkOk_by (by kernel_rfl)) (fun _ _ _ _ _ => (sg_nm (i := 4) S.nd rfl (by first | exact .inl rfl | exact .inr rfl))) (fun _ _ _ _ _ => sts_nil) (fun _ _ _ _ _ => (SF.toE (sf_ix (ix_any (roomU1 hr)) k_ix (ae_p (pv 2)) (ae_p (pv 4)) fun _ _ => rfl)))))))) ses_nil))))))))
/-! ### whole_chain -/
def m_whole_chain : M Fl :=
  (mSeq (mDrop (mCall 1 g_sheet_asked [(mV 0)])) (mSeq (mAsg (.tp [(.nm 1), (.nm 2)]) (mFz (mCall 1 g_told_signs [(mV 0)]))) (mSeq (mIf (mT (m2 fEq (.pk 1) (.val (mC (.str "ring"))))) (mRet (mIm (mC .non))) mNx) (mRet (m1 fTup (.val (mFz (mLc (itZ (mFld 0 0 (mV 0)) (mV 2)) (.tp [(.nm 3), (.nm 4)]) mYes (mFz (mTup [(mV 3), (mV 4)])) [3, 4]))))))))
def g_whole_chain : List D → Option S := runV 5 m_whole_chain
theorem sc_whole_chain : FnScope ["web", "word", "signs", "top", "sign"] ["web"] (defScope s_whole_chain) := ⟨rfl, rfl, rfl, by decide +kernel, rfl, by decide +kernel, by decide +kernel⟩
theorem ok_whole_chain {P : Program} {w : World} {K : PySem.W.Frag} {mg : Str → Option Value} {base : Heap} {C f : Addr} {fd : FuncData} (U : Fx K mg C) (F : FunD K "whole_chain" "whole_chain" (defArgs s_whole_chain) (defBody s_whole_chain) (defScope s_whole_chain) [] [] f fd) (hm : mg "whole_chain" = some (.ref f)) (c_sheet_asked : CalV P w K mg base (ctW C) 6 "sheet_asked" 1 g_sheet_asked) (c_told_signs : CalV P w K mg base (ctW C) 5 "told_signs" 1 g_told_signs) :
    CalV P w K mg base (ctW C) 7 "whole_chain" 1 g_whole_chain := by
  have S := sc_whole_chain
  exact mkV (k := 6) F hm S rfl (fun _ _ _ _ _ _ us hl => match us, hl with | [_], _ => rfl) fun cdv A outer s H E hr =>
    (sss_cons (ss_expr (sf_cl c_sheet_asked hr (by decide) rfl (ses_cons (se_var (pv 0)) ses_nil))) (sss_cons (ss_asg (SF.toE (sf_cl c_told_signs hr (by decide) rfl (ses_cons (se_var (pv 0)) ses_nil))) (sg_tp rfl (sgs_cons (sg_nm (i := 1) S.nd rfl (by first | exact .inl rfl | exact .inr rfl)) (sgs_cons (sg_nm (i := 2) S.nd rfl (by first | exact .inl rfl | exact .inr rfl)) sgs_nil)))) (sss_cons (ss_if (st_cmp (op_eqD (roomU64 hr)) k_eq (ae_p (pv 1)) (ae_v se_str) rfl) (sss_one (ss_ret (SE.toF se_non))) sss_nil) (sss_one (ss_ret (sf_t1 cr_tup k_tup rfl U.n_tuple (by decide +kernel) (ae_v (SF.toE (sf_lc (own := [("top", 3), ("sign", 4)]) rfl S.nd (si_zip rfl U.n_zip (se_fld (i := 0) (j := 0) U.cls U.no_tops rfl (ctw_lt (by decide)) (se_var (pv 0))) (se_var (pv 2))) (blkOk_by (by kernel_rfl)) (fun _ _ _ _ _ => (sg_tp rfl (sgs_cons (sg_nm (i := 3) S.nd rfl (by first | exact .inl rfl | exact .inr rfl)) (sgs_cons (sg_nm (i := 4) S.nd rfl (by first | exact .inl rfl | exact .inr rfl)) sgs_nil)))) (fun _ _ _ _ _ => sts_nil) (fun _ _ _ _ _ => (SF.toE (sf_tup (ses_cons (se_var (pv 3)) (ses_cons (se_var (pv 4)) ses_nil))))))))))))))
/-! ### closed_sheet_asked -/
def m_closed_sheet_asked : M Fl :=
  (mSeq (mDrop (mCall 1 g_sheet_asked [(mV 0)])) (mIf (mTru (.val (mFz (mCall 1 g_rim_walls [(mV 0)])))) mNo mNx))
def g_closed_sheet_asked : List D → Option S := runV 1 m_closed_sheet_asked
theorem sc_closed_sheet_asked : FnScope ["web"] ["web"] (defScope s_closed_sheet_asked) := ⟨rfl, rfl, rfl, by decide +kernel, rfl, by decide +kernel, by decide +kernel⟩
theorem ok_closed_sheet_asked {P : Program} {w : World} {K : PySem.W.Frag} {mg : Str → Option Value} {base : Heap} {C f : Addr} {fd : FuncData} (U : Fx K mg C) (F : FunD K "closed_sheet_asked" "closed_sheet_asked" (defArgs s_closed_sheet_asked) (defBody s_closed_sheet_asked) (defScope s_closed_sheet_asked) [] [] f fd) (hm : mg "closed_sheet_asked" = some (.ref f)) (c_rim_walls : CalV P w K mg base (ctW C) 3 "rim_walls" 1 g_rim_walls) (c_sheet_asked : CalV P w K mg base (ctW C) 6 "sheet_asked" 1 g_sheet_asked) :
    CalV P w K mg base (ctW C) 7 "closed_sheet_asked" 1 g_closed_sheet_asked := by
  have S := sc_closed_sheet_asked
  exact mkV (k := 6) F hm S rfl (fun _ _ _ _ _ _ us hl => match us, hl with | [_], _ => rfl) fun cdv A outer s H E hr =>
    (sss_cons (ss_expr (sf_cl c_sheet_asked hr (by decide) rfl (ses_cons (se_var (pv 0)) ses_nil))) (sss_one (ss_if (st_tru (ae_v (SF.toE (sf_cl c_rim_walls hr (by decide) rfl (ses_cons (se_var (pv 0)) ses_nil))))) (sss_one ss_no) sss_nil)))
/-! ### turns_sign -/
def m_turns_sign : M Fl :=
  (mSeq (mSet 1 (mIm (mC (.int 0)))) (mSeq (mFor (itF dEnm (mV 0)) (.tp [(.nm 2), (.nm 3)]) (mAug 1 (fun i j => i + j) (mFz (m1 fLen (.val (mFz (mLc (itD (mFz (mSl (.pk 0) .no (.at_ (mV 2))))) (.nm 4) (mT (m2 (fI2 fun i j => .bl (decide (j < i))) (.pk 4) (.pk 3))) (mV 4) [4]))))))) (mRet (mIf (mT (m2 fEq (.val (mFz (m2 (fI2c cPos fun i j => .int (i % j)) (.pk 1) (.val (mC (.int 2)))))) (.val (mC (.int 0))))) (mIm (mC (.int 1))) (m1 fNeg (.val (mC (.int 1))))))))
def g_turns_sign : List D → Option S := runV 5 m_turns_sign
theorem sc_turns_sign : FnScope ["row", "many", "at", "one", "other"] ["row"] (defScope s_turns_sign) := ⟨rfl, rfl, rfl, by decide +kernel, rfl, by decide +kernel, by decide +kernel⟩
theorem ok_turns_sign {P : Program} {w : World} {K : PySem.W.Frag} {mg : Str → Option Value} {base : Heap} {C f : Addr} {fd : FuncData} (U : Fx K mg C) (F : FunD K "turns_sign" "turns_sign" (defArgs s_turns_sign) (defBody s_turns_sign) (defScope s_turns_sign) [] [] f fd) (hm : mg "turns_sign" = some (.ref f)) :
    CalV P w K mg base (ctW C) 1 "turns_sign" 1 g_turns_sign := by
  have S := sc_turns_sign
  exact mkV (k := 0) F hm S rfl (fun _ _ _ _ _ _ us hl => match us, hl with | [_], _ => rfl) fun cdv A outer s H E hr =>
    (sss_cons (ss_set (i := 1) S.nd rfl (by first | exact .inl rfl | exact .inr rfl) (SE.toF se_int)) (sss_cons (ss_for PassesOwn.never rfl (si_en rfl U.n_enumerate (se_var (pv 0))) (sg_tp rfl (sgs_cons (sg_nm (i := 2) S.nd rfl (by first | exact .inl rfl | exact .inr rfl)) (sgs_cons (sg_nm (i := 3) S.nd rfl (by first | exact .inl rfl | exact .inr rfl)) sgs_nil))) (sss_one (ss_aug (i := 1) S.nd rfl (by first | exact .inl rfl | exact .inr rfl) (SF.toE (sf_b1 cr_len k_len rfl U.n_len (by decide +kernel) (ae_v (SF.toE (sf_lc (own := [("other", 4)]) rfl S.nd (si_d (SF.toE (sf_sl (ae_p (pv 0)) so_no (so_at (se_var (pv 2)))))) (blkOk_by (by kernel_rfl)) (fun _ _ _ _ _ => (sg_nm (i := 4) S.nd rfl (by first | exact .inl rfl | exact .inr rfl))) (fun _ _ _ _ _ => (sts_one (st_cmp op_gt k_gt (ae_p (pv 4)) (ae_p (pv 3)) rfl))) (fun _ _ _ _ _ => (se_var (pv 4)))))))) ip_add))) (sss_one (ss_ret (sf_if (st_cmp (op_eqD (roomU64 hr)) k_eq (ae_v (SF.toE (sf_bin op_mod k_mod (ae_p (pv 1)) (ae_v se_int)))) (ae_v se_int) rfl) (SE.toF se_int) (sf_un un_neg k_neg (ae_v se_int)))))))
/-! ### led_sign -/
def m_led_sign : M Fl :=
  (mRet (mIf (mT (m2 fEq (.val (mFz (m1 fTup (.val (mFz (m1 fSort (.pk 0))))))) (.pk 1))) (mCall 1 g_turns_sign [(mV 0)]) (mIm (mC (.int 0)))))
def g_led_sign : List D → Option S := runV 2 m_led_sign
theorem sc_led_sign : FnScope ["row", "side"] ["row", "side"] (defScope s_led_sign) := ⟨rfl, rfl, rfl, by decide +kernel, rfl, by decide +kernel, by decide +kernel⟩
theorem ok_led_sign {P : Program} {w : World} {K : PySem.W.Frag} {mg : Str → Option Value} {base : Heap} {C f : Addr} {fd : FuncData} (U : Fx K mg C) (F : FunD K "led_sign" "led_sign" (defArgs s_led_sign) (defBody s_led_sign) (defScope s_led_sign) [] [] f fd) (hm : mg "led_sign" = some (.ref f)) (c_turns_sign : CalV P w K mg base (ctW C) 1 "turns_sign" 1 g_turns_sign) :
    CalV P w K mg base (ctW C) 2 "led_sign" 2 g_led_sign := by
  have S := sc_led_sign
  exact mkV (k := 1) F hm S rfl (fun _ _ _ _ _ _ us hl => match us, hl with | [_, _], _ => rfl) fun cdv A outer s H E hr =>
    (sss_one (ss_ret (sf_if (st_cmp (op_eqD (roomU64 hr)) k_eq (ae_v (SF.toE (sf_t1 cr_tup k_tup rfl U.n_tuple (by decide +kernel) (ae_v (SF.toE (sf_b1 (cr_sort rfl (roomU64 hr)) k_sort rfl U.n_sorted (by decide +kernel) (ae_p (pv 0)))))))) (ae_p (pv 1)) rfl) (sf_cl c_turns_sign hr (by decide) rfl (ses_cons (se_var (pv 0)) ses_nil)) (SE.toF se_int))))
/-! ### degree_of -/
def m_degree_of : M Fl :=
  (mSeq (mDrop (mCall 1 g_closed_sheet_asked [(mV 0)])) (mSeq (mDrop (mCall 1 g_closed_sheet_asked [(mV 1)])) (mSeq (mPar 5 6 [(mFz (mCall 1 g_told_signs [(mV 0)])), (mFz (mCall 1 g_told_signs [(mV 1)]))]) (mSeq (mIf (bOr (mT (m2 fEq (.val (mFz (m2 fIx (.pk 5) (.val (mC (.int 0)))))) (.val (mC (.str "ring"))))) (bOr (mT (m2 fEq (.val (mFz (m2 fIx (.pk 6) (.val (mC (.int 0)))))) (.val (mC (.str "ring"))))) (mT (m2 fNe (.val (mFz (m1 fLen (.val (mFz (m2 fIx (.val (mFld 0 0 (mV 0))) (.val (mC (.int 0))))))))) (.val (mFz (m1 fLen (.val (mFz (m2 fIx (.val (mFld 0 0 (mV 1))) (.val (mC (.int 0))))))))))))) mNo mNx) (mSeq (mIf (bNot (mTru (.val (mFz (mCall 3 g_is_map [(mV 0), (mV 1), (mV 2)]))))) mNo mNx) (mSeq (mSet 3 (m1 fDict (.pk 2))) (mSeq (mSet 4 (mIm (mC (.int 0)))) (mSeq (mFor (itZ (mFld 0 0 (mV 0)) (mFz (m2 fIx (.pk 5) (.val (mC (.int 1)))))) (.tp [(.nm 7), (.nm 8)]) (mAug 4 (fun i j => i + j) (mFz (m2 fMul (.pk 8) (.val (mFz (mCall 2 g_led_sign [(mFz (mLc (itD (mV 7)) (.nm 9) mYes (mFz (m2 fIx (.pk 3) (.pk 9))) [9])), (mFz (m2 fIx (.val (mFld 0 0 (mV 1))) (.val (mC (.int 0)))))]))))))) (mRet (mMv 4))))))))))
def g_degree_of : List D → Option S := runV 10 m_degree_of
theorem sc_degree_of : FnScope ["one", "other", "led", "leads", "found", "first", "second", "top", "sign", "corner"] ["one", "other", "led"] (defScope s_degree_of) := ⟨rfl, rfl, rfl, by decide +kernel, rfl, by decide +kernel, by decide +kernel⟩
theorem ok_degree_of {P : Program} {w : World} {K : PySem.W.Frag} {mg : Str → Option Value} {base : Heap} {C f : Addr} {fd : FuncData} (U : Fx K mg C) (F : FunD K "degree_of" "degree_of" (defArgs s_degree_of) (defBody s_degree_of) (defScope s_degree_of) [] [] f fd) (hm : mg "degree_of" = some (.ref f)) (c_closed_sheet_asked : CalV P w K mg base (ctW C) 7 "closed_sheet_asked" 1 g_closed_sheet_asked) (c_is_map : CalV P w K mg base (ctW C) 4 "is_map" 3 g_is_map) (c_led_sign : CalV P w K mg base (ctW C) 2 "led_sign" 2 g_led_sign) (c_told_signs : CalV P w K mg base (ctW C) 5 "told_signs" 1 g_told_signs) :
    CalV P w K mg base (ctW C) 8 "degree_of" 3 g_degree_of := by
  have S := sc_degree_of
  exact mkV (k := 7) F hm S rfl (fun _ _ _ _ _ _ us hl => match us, hl with | [_, _, _], _ => rfl) fun cdv A outer s H E hr =>
    (sss_cons (ss_expr (sf_cl c_closed_sheet_asked hr (by decide) rfl (ses_cons (se_var (pv 0)) ses_nil))) (sss_cons (ss_expr (sf_cl c_closed_sheet_asked hr (by decide) rfl (ses_cons (se_var (pv 1)) ses_nil))) (sss_cons (ss_par (i := 5) (j := 6) rfl S.nd rfl rfl (by decide) rfl rfl (ses_cons (SF.toE (sf_cl c_told_signs hr (by decide) rfl (ses_cons (se_var (pv 0)) ses_nil))) (ses_cons (SF.toE (sf_cl c_told_signs hr (by decide) rfl (ses_cons (se_var (pv 1)) ses_nil))) ses_nil)) rfl) (sss_cons (ss_if (SW.t (sw_or (st_cmp (op_eqD (roomU64 hr)) k_eq (ae_v (SF.toE (sf_ix (ix_any (roomU1 hr)) k_ix (ae_p (pv 5)) (ae_v se_int) fun _ _ => rfl))) (ae_v se_str) rfl) (sw_or (st_cmp (op_eqD (roomU64 hr)) k_eq (ae_v (SF.toE (sf_ix (ix_any (roomU1 hr)) k_ix (ae_p (pv 6)) (ae_v se_int) fun _ _ => rfl))) (ae_v se_str) rfl) (sw_or1 (st_cmp (op_neD (roomU64 hr)) k_ne (ae_v (SF.toE (sf_b1 cr_len k_len rfl U.n_len (by decide +kernel) (ae_v (SF.toE (sf_ix (ix_any (roomU1 hr)) k_ix (ae_v (se_fld (i := 0) (j := 0) U.cls U.no_tops rfl (ctw_lt (by decide)) (se_var (pv 0)))) (ae_v se_int) fun _ _ => rfl)))))) (ae_v (SF.toE (sf_b1 cr_len k_len rfl U.n_len (by decide +kernel) (ae_v (SF.toE (sf_ix (ix_any (roomU1 hr)) k_ix (ae_v (se_fld (i := 0) (j := 0) U.cls U.no_tops rfl (ctw_lt (by decide)) (se_var (pv 1)))) (ae_v se_int) fun _ _ => rfl)))))) rfl))))) (sss_one ss_no) sss_nil) (sss_cons (ss_if (st_not (st_tru (ae_v (SF.toE (sf_cl c_is_map hr (by decide) rfl (ses_cons (se_var (pv 0)) (ses_cons (se_var (pv 1)) (ses_cons (se_var (pv 2)) ses_nil)))))))) (sss_one ss_no) sss_nil) (sss_cons (ss_set (i := 3) S.nd rfl (by first | exact .inl rfl | exact .inr rfl) (sf_t1 (cr_dict rfl) k_dict rfl U.n_dict (by decide +kernel) (ae_p (pv 2)))) (sss_cons (ss_set (i := 4) S.nd rfl (by first | exact .inl rfl | exact .inr rfl) (SE.toF se_int)) (sss_cons (ss_for PassesOwn.never rfl (si_zip rfl U.n_zip (se_fld (i := 0) (j := 0) U.cls U.no_tops rfl (ctw_lt (by decide)) (se_var (pv 0))) (SF.toE (sf_ix (ix_any (roomU1 hr)) k_ix (ae_p (pv 5)) (ae_v se_int) fun _ _ => rfl))) (sg_tp rfl (sgs_cons (sg_nm (i := 7) S.nd rfl (by first | exact .inl rfl | exact .inr rfl)) (sgs_cons (sg_nm (i := 8) S.nd rfl (by first | exact .inl rfl | exact .inr rfl)) sgs_nil))) (sss_one (ss_aug (i := 4) S.nd rfl (by first | exact .inl rfl | exact .inr rfl) (SF.toE (sf_bin op_mulAny k_mulA (ae_p (pv 8)) (ae_v (SF.toE (sf_cl c_led_sign hr (by decide) rfl (ses_cons (SF.toE (sf_lc (own := [("corner", 9)]) rfl S.nd (si_d (se_var (pv 7))) (blkOk_by (by kernel_rfl)) (fun _ _ _ _ _ => (sg_nm (i := 9) S.nd rfl (by first | exact .inl rfl | exact .inr rfl))) (fun _ _ _ _ _ => sts_nil) (fun _ _ _ _ _ => (SF.toE (sf_ix (ix_any (roomU1 hr)) k_ix (ae_p (pv 3)) (ae_p (pv 9)) fun _ _ => rfl))))) (ses_cons (SF.toE (sf_ix (ix_any (roomU1 hr)) k_ix (ae_v (se_fld (i := 0) (j := 0) U.cls U.no_tops rfl (ctw_lt (by decide)) (se_var (pv 1)))) (ae_v se_int) fun _ _ => rfl)) ses_nil))))))) ip_add))) (sss_one (ss_ret (sf_mv (pv 4))))))))))))
/-! ### _law_hand -/
def m_law_hand : M Fl :=
  (mSeq (mSet 1 (mLc (itD (mFz (mSl (.pk 0) .no (.at_ (mC (.int 60)))))) (.nm 2) mYes (mFz (m2 (fI2c cPos fun i j => .int (i % j)) (.val (mFz (m1 fAbs (.val (mFz (m1 fInt (.pk 2))))))) (.val (mFz (m2 (fI2c cPw fun i j => .int (i ^ j.toNat)) (.val (mC (.int 10))) (.val (mC (.int 36)))))))) [2])) (mRet (mLst [(mV 1), (mC (.int 0)), (mC (.int 0)), (mFz (m2 fAdd (.val (mC (.int 4271))) (.val (mFz (m2 fMul (.val (mC (.int 31))) (.val (mFz (m1 fLen (.pk 1))))))))), (mC (.int 0))])))
def g_law_hand : List D → Option S := runV 3 m_law_hand
theorem sc_law_hand : FnScope ["script", "cells", "cell"] ["script"] (defScope s_law_hand) := ⟨rfl, rfl, rfl, by decide +kernel, rfl, by decide +kernel, by decide +kernel⟩
theorem ok_law_hand {P : Program} {w : World} {K : PySem.W.Frag} {mg : Str → Option Value} {base : Heap} {C f : Addr} {fd : FuncData} (U : Fx K mg C) (F : FunD K "_law_hand" "_law_hand" (defArgs s_law_hand) (defBody s_law_hand) (defScope s_law_hand) [] [] f fd) (hm : mg "_law_hand" = some (.ref f)) :
    CalV P w K mg base (ctW C) 1 "_law_hand" 1 g_law_hand := by
  have S := sc_law_hand
  exact mkV (k := 0) F hm S rfl (fun _ _ _ _ _ _ us hl => match us, hl with | [_], _ => rfl) fun cdv A outer s H E hr =>
    (sss_cons (ss_setLc (i := 1) (own := [("cell", 2)]) rfl S.nd rfl rfl rfl (si_d (SF.toE (sf_sl (ae_p (pv 0)) so_no (so_at se_int)))) (blkOk_by (by kernel_rfl)) (fun _ _ _ _ _ => (sg_nm (i := 2) S.nd rfl (by first | exact .inl rfl | exact .inr rfl))) (fun _ _ _ _ _ => sts_nil) (fun _ _ _ _ _ => (SF.toE (sf_bin op_mod k_mod (ae_v (SF.toE (sf_b1 call_abs k_abs rfl U.n_abs (by decide +kernel) (ae_v (SF.toE (sf_t1 call_int1 k_int1 rfl U.n_int (by decide +kernel) (ae_p (pv 2)))))))) (ae_v (SF.toE (sf_bin op_pow k_pow (ae_v se_int) (ae_v se_int)))))))) (sss_one (ss_ret (sf_lst (ses_cons (se_var (pv 1)) (ses_cons se_int (ses_cons se_int (ses_cons (SF.toE (sf_bin op_addAny k_add (ae_v se_int) (ae_v (SF.toE (sf_bin op_mulAny k_mulA (ae_v se_int) (ae_v (SF.toE (sf_b1 cr_len k_len rfl U.n_len (by decide +kernel) (ae_p (pv 1)))))))))) (ses_cons se_int ses_nil)))))))))
/-! ### _law_draw -/
def m_law_draw : M Fl :=
  (mSeq (mIf (bAnd (mT (m2 fEq (.val (mFz (m2 fIx (.pk 0) (.val (mC (.int 2)))))) (.val (mC (.int 0))))) (mT (m2 fLt (.val (mFz (m2 fIx (.pk 0) (.val (mC (.int 1)))))) (.val (mFz (m1 fLen (.val (mFz (m2 fIx (.pk 0) (.val (mC (.int 0)))))))))))) (mSeq (mSet 3 (m2 fIx (.val (mFz (m2 fIx (.pk 0) (.val (mC (.int 0)))))) (.val (mFz (m2 fIx (.pk 0) (.val (mC (.int 1)))))))) (mSeq (mPut 0 (mC (.int 1)) (mFz (m2 fAdd (.val (mFz (m2 fIx (.pk 0) (.val (mC (.int 1)))))) (.val (mC (.int 1)))))) (mSeq (mPut 0 (mC (.int 3)) (mFz (m2 (fI2c cPos fun i j => .int (i % j)) (.val (mFz (m1 fInt (.val (mFz (m2 fAdd (.val (mFz (m2 fAdd (.val (mFz (m2 fMul (.val (mFz (m2 fIx (.pk 0) (.val (mC (.int 3)))))) (.val (mC (.int 48271)))))) (.val (mFz (m2 fMul (.val (mFz (m2 (fI2c cPos fun i j => .int (i % j)) (.pk 3) (.val (mC (.int 2147483629)))))) (.val (mC (.int 69621))))))))) (.val (mC (.int 17))))))))) (.val (mC (.int 2147483629)))))) (mIf (mT (m2 (fI2 fun i j => .bl (decide (j ≤ i))) (.pk 3) (.val (mFz (m2 (fI2c cPw fun i j => .int (i ^ j.toNat)) (.val (mC (.int 10))) (.val (mC (.int 15)))))))) (mPut 0 (mC (.int 2)) (mV 3)) mNx)))) mNx) (mSeq (mIf (mT (m2 (fI2 fun i j => .bl (decide (j < i))) (.val (mFz (m2 fIx (.pk 0) (.val (mC (.int 2)))))) (.val (mC (.int 0))))) (mSeq (mSet 4 (m2 (fI2c cPos fun i j => .int (i % j)) (.val (mFz (m1 fInt (.val (mFz (m2 fIx (.pk 0) (.val (mC (.int 2))))))))) (.pk 1))) (mSeq (mPut 0 (mC (.int 2)) (mFz (m2 (fI2c cDv fun i j => .int (i / j)) (.val (mFz (m1 fInt (.val (mFz (m2 fIx (.pk 0) (.val (mC (.int 2))))))))) (.pk 1)))) (mRet (mMv 4)))) mNx) (mSeq (mPut 0 (mC (.int 4)) (mFz (m2 fAdd (.val (mFz (m2 fIx (.pk 0) (.val (mC (.int 4)))))) (.val (mC (.int 1)))))) (mSeq (mSet 2 (m2 (fI2c cPos fun i j => .int (i % j)) (.val (mFz (m1 fInt (.val (mFz (m2 fMul (.val (mFz (m1 fInt (.val (mFz (m2 fAdd (.val (mFz (m2 fIx (.pk 0) (.val (mC (.int 3)))))) (.val (mFz (m2 fMul (.val (mC (.int 7919))) (.val (mFz (m2 fIx (.pk 0) (.val (mC (.int 4))))))))))))))) (.val (mC (.int 40692))))))))) (.val (mC (.int 2147483399))))) (mSeq (mSet 2 (m2 (fI2c cPos fun i j => .int (i % j)) (.val (mFz (m1 fInt (.val (mFz (m2 fMul (.pk 2) (.val (mFz (m2 fAdd (.val (mFz (m2 (fI2c cDv fun i j => .int (i / j)) (.pk 2) (.val (mC (.int 1009)))))) (.val (mC (.int 30011)))))))))))) (.val (mC (.int 2147483647))))) (mRet (m2 (fI2c cPos fun i j => .int (i % j)) (.val (mFz (m1 fInt (.val (mFz (m2 (fI2c cDv fun i j => .int (i / j)) (.pk 2) (.val (mC (.int 32))))))))) (.pk 1))))))))
def g_law_draw : S → List D → Option (S × S) := runI 5 m_law_draw
theorem sc_law_draw : FnScope ["hand", "many", "number", "cell", "digit"] ["hand", "many"] (defScope s_law_draw) := ⟨rfl, rfl, rfl, by decide +kernel, rfl, by decide +kernel, by decide +kernel⟩
theorem ok_law_draw {P : Program} {w : World} {K : PySem.W.Frag} {mg : Str → Option Value} {base : Heap} {C f : Addr} {fd : FuncData} (U : Fx K mg C) (F : FunD K "_law_draw" "_law_draw" (defArgs s_law_draw) (defBody s_law_draw) (defScope s_law_draw) [] [] f fd) (hm : mg "_law_draw" = some (.ref f)) :
    CalI P w K mg base (ctW C) 1 "_law_draw" 2 g_law_draw := by
  have S := sc_law_draw
  exact mkI (k := 0) F hm S rfl (fun _ _ _ _ _ _ us hl => match us, hl with | [_, _], _ => rfl) fun cdv A outer s H E hr =>
    (sss_cons (ss_if (SW.t (sw_and (st_cmp (op_eqD (roomU64 hr)) k_eq (ae_v (SF.toE (sf_ix (ix_any (roomU1 hr)) k_ix (ae_p (pv 0)) (ae_v se_int) fun _ _ => rfl))) (ae_v se_int) rfl) (sw_and1 (st_cmp (op_ltAny hr.units0) k_ltA (ae_v (SF.toE (sf_ix (ix_any (roomU1 hr)) k_ix (ae_p (pv 0)) (ae_v se_int) fun _ _ => rfl))) (ae_v (SF.toE (sf_b1 cr_len k_len rfl U.n_len (by decide +kernel) (ae_v (SF.toE (sf_ix (ix_any (roomU1 hr)) k_ix (ae_p (pv 0)) (ae_v se_int) fun _ _ => rfl)))))) rfl)))) (sss_cons (ss_set (i := 3) S.nd rfl (by first | exact .inl rfl | exact .inr rfl) (sf_ix (ix_any (roomU1 hr)) k_ix (ae_v (SF.toE (sf_ix (ix_any (roomU1 hr)) k_ix (ae_p (pv 0)) (ae_v se_int) fun _ _ => rfl))) (ae_v (SF.toE (sf_ix (ix_any (roomU1 hr)) k_ix (ae_p (pv 0)) (ae_v se_int) fun _ _ => rfl))) fun _ _ => rfl)) (sss_cons (ss_put (roomU1 hr) (pv 0) se_int (SF.toE (sf_bin op_addAny k_add (ae_v (SF.toE (sf_ix (ix_any (roomU1 hr)) k_ix (ae_p (pv 0)) (ae_v se_int) fun _ _ => rfl))) (ae_v se_int)))) (sss_cons (ss_put (roomU1 hr) (pv 0) se_int (SF.toE (sf_bin op_mod k_mod (ae_v (SF.toE (sf_t1 call_int1 k_int1 rfl U.n_int (by decide +kernel) (ae_v (SF.toE (sf_bin op_addAny k_add (ae_v (SF.toE (sf_bin op_addAny k_add (ae_v (SF.toE (sf_bin op_mulAny k_mulA (ae_v (SF.toE (sf_ix (ix_any (roomU1 hr)) k_ix (ae_p (pv 0)) (ae_v se_int) fun _ _ => rfl))) (ae_v se_int)))) (ae_v (SF.toE (sf_bin op_mulAny k_mulA (ae_v (SF.toE (sf_bin op_mod k_mod (ae_p (pv 3)) (ae_v se_int)))) (ae_v se_int))))))) (ae_v se_int))))))) (ae_v se_int)))) (sss_one (ss_if (st_cmp op_ge k_ge (ae_p (pv 3)) (ae_v (SF.toE (sf_bin op_pow k_pow (ae_v se_int) (ae_v se_int)))) rfl) (sss_one (ss_put (roomU1 hr) (pv 0) se_int (se_var (pv 3)))) sss_nil))))) sss_nil) (sss_cons (ss_if (st_cmp op_gt k_gt (ae_v (SF.toE (sf_ix (ix_any (roomU1 hr)) k_ix (ae_p (pv 0)) (ae_v se_int) fun _ _ => rfl))) (ae_v se_int) rfl) (sss_cons (ss_set (i := 4) S.nd rfl (by first | exact .inl rfl | exact .inr rfl) (sf_bin op_mod k_mod (ae_v (SF.toE (sf_t1 call_int1 k_int1 rfl U.n_int (by decide +kernel) (ae_v (SF.toE (sf_ix (ix_any (roomU1 hr)) k_ix (ae_p (pv 0)) (ae_v se_int) fun _ _ => rfl)))))) (ae_p (pv 1)))) (sss_cons (ss_put (roomU1 hr) (pv 0) se_int (SF.toE (sf_bin op_fdiv k_fdiv (ae_v (SF.toE (sf_t1 call_int1 k_int1 rfl U.n_int (by decide +kernel) (ae_v (SF.toE (sf_ix (ix_any (roomU1 hr)) k_ix (ae_p (pv 0)) (ae_v se_int) fun _ _ => rfl)))))) (ae_p (pv 1))))) (sss_one (ss_ret (sf_mv (pv 4)))))) sss_nil) (sss_cons (ss_put (roomU1 hr) (pv 0) se_int (SF.toE (sf_bin op_addAny k_add (ae_v (SF.toE (sf_ix (ix_any (roomU1 hr)) k_ix (ae_p (pv 0)) (ae_v se_int) fun _ _ => rfl))) (ae_v se_int)))) (sss_cons (ss_set (i := 2) S.nd rfl (by first | exact .inl rfl | exact .inr rfl) (sf_bin op_mod k_mod (ae_v (SF.toE (sf_t1 call_int1 k_int1 rfl U.n_int (by decide +kernel) (ae_v (SF.toE (sf_bin op_mulAny k_mulA (ae_v (SF.toE (sf_t1 call_int1 k_int1 rfl U.n_int (by decide +kernel) (ae_v (SF.toE (sf_bin op_addAny k_add (ae_v (SF.toE (sf_ix (ix_any (roomU1 hr)) k_ix (ae_p (pv 0)) (ae_v se_int) fun _ _ => rfl))) (ae_v (SF.toE (sf_bin op_mulAny k_mulA (ae_v se_int) (ae_v (SF.toE (sf_ix (ix_any (roomU1 hr)) k_ix (ae_p (pv 0)) (ae_v se_int) fun _ _ => rfl)))))))))))) (ae_v se_int))))))) (ae_v se_int))) (sss_cons (ss_set (i := 2) S.nd rfl (by first | exact .inl rfl | exact .inr rfl) (sf_bin op_mod k_mod (ae_v (SF.toE (sf_t1 call_int1 k_int1 rfl U.n_int (by decide +kernel) (ae_v (SF.toE (sf_bin op_mulAny k_mulA (ae_p (pv 2)) (ae_v (SF.toE (sf_bin op_addAny k_add (ae_v (SF.toE (sf_bin op_fdiv k_fdiv (ae_p (pv 2)) (ae_v se_int)))) (ae_v se_int)))))))))) (ae_v se_int))) (sss_one (ss_ret (sf_bin op_mod k_mod (ae_v (SF.toE (sf_t1 call_int1 k_int1 rfl U.n_int (by decide +kernel) (ae_v (SF.toE (sf_bin op_fdiv k_fdiv (ae_p (pv 2)) (ae_v se_int))))))) (ae_p (pv 1))))))))))
/-! ### _law_parts -/
def m_law_parts : M Fl :=
  (mSeq (mSet 1 (mLst [(mFz (mTup []))])) (mSeq (mFor (itD (mV 0)) (.nm 2) (mSet 1 (m2 fAdd (.pk 1) (.val (mFz (mLc (itD (mV 1)) (.nm 3) mYes (mFz (m2 fAdd (.pk 3) (.val (mFz (mTup [(mV 2)]))))) [3])))))) (mRet (mLc (itD (mV 1)) (.nm 3) (mT (m2 fNe (.pk 3) (.val (mFz (mTup []))))) (mV 3) [3]))))
def g_law_parts : List D → Option S := runV 4 m_law_parts
theorem sc_law_parts : FnScope ["side", "found", "corner", "part"] ["side"] (defScope s_law_parts) := ⟨rfl, rfl, rfl, by decide +kernel, rfl, by decide +kernel, by decide +kernel⟩
theorem ok_law_parts {P : Program} {w : World} {K : PySem.W.Frag} {mg : Str → Option Value} {base : Heap} {C f : Addr} {fd : FuncData} (U : Fx K mg C) (F : FunD K "_law_parts" "_law_parts" (defArgs s_law_parts) (defBody s_law_parts) (defScope s_law_parts) [] [] f fd) (hm : mg "_law_parts" = some (.ref f)) :
    CalV P w K mg base (ctW C) 1 "_law_parts" 1 g_law_parts := by
  have S := sc_law_parts
  exact mkV (k := 0) F hm S rfl (fun _ _ _ _ _ _ us hl => match us, hl with | [_], _ => rfl) fun cdv A outer s H E hr =>
    (sss_cons (ss_set (i := 1) S.nd rfl (by first | exact .inl rfl | exact .inr rfl) (sf_lst (ses_cons (SF.toE (sf_tup ses_nil)) ses_nil))) (sss_cons (ss_for PassesOwn.never rfl (si_d (se_var (pv 0))) (sg_nm (i := 2) S.nd rfl (by first | exact .inl rfl | exact .inr rfl)) (sss_one (ss_set (i := 1) S.nd rfl (by first | exact .inl rfl | exact .inr rfl) (sf_bin op_addAny k_add (ae_p (pv 1)) (ae_v (SF.toE (sf_lc (own := [("part", 3)]) rfl S.nd (si_d (se_var (pv 1))) (blkOk_by (by kernel_rfl)) (fun _ _ _ _ _ => (sg_nm (i := 3) S.nd rfl (by first | exact .inl rfl | exact .inr rfl))) (fun _ _ _ _ _ => sts_nil) (fun _ _ _ _ _ => (SF.toE (sf_bin op_addAny k_add (ae_p (pv 3)) (ae_v (SF.toE (sf_tup (ses_cons (se_var (pv 2)) ses_nil)))))))))))))) (sss_one (ss_ret (sf_lc (own := [("part", 3)]) rfl S.nd (si_d (se_var (pv 1))) (blkOk_by (by kernel_rfl)) (fun _ _ _ _ _ => (sg_nm (i := 3) S.nd rfl (by first | exact .inl rfl | exact .inr rfl))) (fun _ _ _ _ _ => (sts_one (st_cmp (op_neD (roomU64 hr)) k_ne (ae_p (pv 3)) (ae_v (SF.toE (sf_tup ses_nil))) rfl))) (fun _ _ _ _ _ => (se_var (pv 3))))))))
/-! ### _law_rims -/
def m_law_rims : M Fl :=
  (mSeq (mIf (mT (m2 fEq (.val (mFz (m1 fLen (.pk 0)))) (.val (mC (.int 1))))) (mRet (mLst [])) mNx) (mRet (mLc (itR1 (mFz (m1 fLen (.pk 0)))) (.nm 1) mYes (mFz (mTup [(mFz (m2 fAdd (.val (mFz (mSl (.pk 0) .no (.at_ (mV 1))))) (.val (mFz (mSl (.pk 0) (.at_ (mFz (m2 fAdd (.pk 1) (.val (mC (.int 1)))))) .no))))), (mFz (m2 (fI2 fun i j => .int (i - j)) (.val (mC (.int 1))) (.val (mFz (m2 fMul (.val (mC (.int 2))) (.val (mFz (m2 (fI2c cPos fun i j => .int (i % j)) (.pk 1) (.val (mC (.int 2)))))))))))])) [1])))
def g_law_rims : List D → Option S := runV 2 m_law_rims
theorem sc_law_rims : FnScope ["side", "k"] ["side"] (defScope s_law_rims) := ⟨rfl, rfl, rfl, by decide +kernel, rfl, by decide +kernel, by decide +kernel⟩
theorem ok_law_rims {P : Program} {w : World} {K : PySem.W.Frag} {mg : Str → Option Value} {base : Heap} {C f : Addr} {fd : FuncData} (U : Fx K mg C) (F : FunD K "_law_rims" "_law_rims" (defArgs s_law_rims) (defBody s_law_rims) (defScope s_law_rims) [] [] f fd) (hm : mg "_law_rims" = some (.ref f)) :
    CalV P w K mg base (ctW C) 1 "_law_rims" 1 g_law_rims := by
  have S := sc_law_rims
  exact mkV (k := 0) F hm S rfl (fun _ _ _ _ _ _ us hl => match us, hl with | [_], _ => rfl) fun cdv A outer s H E hr =>
    (sss_cons (ss_if (st_cmp (op_eqD (roomU64 hr)) k_eq (ae_v (SF.toE (sf_b1 cr_len k_len rfl U.n_len (by decide +kernel) (ae_p (pv 0))))) (ae_v se_int) rfl) (sss_one (ss_ret (sf_lst ses_nil))) sss_nil) (sss_one (ss_ret (sf_lc (own := [("k", 1)]) rfl S.nd (si_r1 rfl U.n_range (SF.toE (sf_b1 cr_len k_len rfl U.n_len (by decide +kernel) (ae_p (pv 0))))) (blkOk_by (by kernel_rfl)) (fun _ _ _ _ _ => (sg_nm (i := 1) S.nd rfl (by first | exact .inl rfl | exact .inr rfl))) (fun _ _ _ _ _ => sts_nil) (fun _ _ _ _ _ => (SF.toE (sf_tup (ses_cons (SF.toE (sf_bin op_addAny k_add (ae_v (SF.toE (sf_sl (ae_p (pv 0)) so_no (so_at (se_var (pv 1)))))) (ae_v (SF.toE (sf_sl (ae_p (pv 0)) (so_at (SF.toE (sf_bin op_addAny k_add (ae_p (pv 1)) (ae_v se_int)))) so_no))))) (ses_cons (SF.toE (sf_bin op_sub k_sub (ae_v se_int) (ae_v (SF.toE (sf_bin op_mulAny k_mulA (ae_v se_int) (ae_v (SF.toE (sf_bin op_mod k_mod (ae_p (pv 1)) (ae_v se_int))))))))) ses_nil)))))))))
/-! ### _law_web -/
def m_law_web : M Fl :=
  (mSeq (mSet 1 (mNew true)) (mSeq (mFor (itD (mV 0)) (.nm 2) (mFor (itD (mFz (mCall 1 g_law_parts [(mV 2)]))) (.nm 6) (mPut 1 (mV 6) (mC (.bl true))))) (mSeq (mSet 3 (mNew true)) (mSeq (mFor (itD (mV 1)) (.nm 4) (mFor (itD (mFz (mCall 1 g_law_rims [(mV 4)]))) (.nm 7) (mPut 3 (mFz (m2 fIx (.pk 7) (.val (mC (.int 0))))) (mC (.bl true))))) (mSeq (mSet 5 (mNew false)) (mSeq (mFor (itD (mFz (m1 fSort (.pk 1)))) (.nm 4) (mPut 5 (mFz (m2 (fI2 fun i j => .int (i - j)) (.val (mFz (m1 fLen (.pk 4)))) (.val (mC (.int 1))))) (mFz (m2 fAdd (.val (mGet (.pk 5) (mFz (m2 (fI2 fun i j => .int (i - j)) (.val (mFz (m1 fLen (.pk 4)))) (.val (mC (.int 1))))) (mFz (mLst [])))) (.val (mFz (mLst [(mV 4)]))))))) (mRet (mTup [(mFz (m1 fTup (.val (mFz (m1 fSort (.val (mFz (mLc (itD (mV 1)) (.nm 4) (mT (m2 (fInA true) (.pk 4) (.pk 3))) (mV 4) [4])))))))), (mV 5)]))))))))
def g_law_web : List D → Option S := runV 8 m_law_web
theorem sc_law_web : FnScope ["tops", "met", "top", "inner", "side", "lots", "part", "wall"] ["tops"] (defScope s_law_web) := ⟨rfl, rfl, rfl, by decide +kernel, rfl, by decide +kernel, by decide +kernel⟩
theorem ok_law_web {P : Program} {w : World} {K : PySem.W.Frag} {mg : Str → Option Value} {base : Heap} {C f : Addr} {fd : FuncData} (U : Fx K mg C) (F : FunD K "_law_web" "_law_web" (defArgs s_law_web) (defBody s_law_web) (defScope s_law_web) [] [] f fd) (hm : mg "_law_web" = some (.ref f)) (c_law_parts : CalV P w K mg base (ctW C) 1 "_law_parts" 1 g_law_parts) (c_law_rims : CalV P w K mg base (ctW C) 1 "_law_rims" 1 g_law_rims) :
    CalV P w K mg base (ctW C) 2 "_law_web" 1 g_law_web := by
  have S := sc_law_web
  exact mkV (k := 1) F hm S rfl (fun _ _ _ _ _ _ us hl => match us, hl with | [_], _ => rfl) fun cdv A outer s H E hr =>
    (sss_cons (ss_set (i := 1) S.nd rfl (by first | exact .inl rfl | exact .inr rfl) (sf_new (t := true))) (sss_cons (ss_for PassesOwn.never rfl (si_d (se_var (pv 0))) (sg_nm (i := 2) S.nd rfl (by first | exact .inl rfl | exact .inr rfl)) (sss_one (ss_for PassesOwn.never rfl (si_d (SF.toE (sf_cl c_law_parts hr (by decide) rfl (ses_cons (se_var (pv 2)) ses_nil)))) (sg_nm (i := 6) S.nd rfl (by first | exact .inl rfl | exact .inr rfl)) (sss_one (ss_put (roomU1 hr) (pv 1) (se_var (pv 6)) se_bl))))) (sss_cons (ss_set (i := 3) S.nd rfl (by first | exact .inl rfl | exact .inr rfl) (sf_new (t := true))) (sss_cons (ss_for PassesOwn.never rfl (si_d (se_var (pv 1))) (sg_nm (i := 4) S.nd rfl (by first | exact .inl rfl | exact .inr rfl)) (sss_one (ss_for PassesOwn.never rfl (si_d (SF.toE (sf_cl c_law_rims hr (by decide) rfl (ses_cons (se_var (pv 4)) ses_nil)))) (sg_nm (i := 7) S.nd rfl (by first | exact .inl rfl | exact .inr rfl)) (sss_one (ss_put (roomU1 hr) (pv 3) (SF.toE (sf_ix (ix_any (roomU1 hr)) k_ix (ae_p (pv 7)) (ae_v se_int) fun _ _ => rfl)) se_bl))))) (sss_cons (ss_set (i := 5) S.nd rfl (by first | exact .inl rfl | exact .inr rfl) (sf_new (t := false))) (sss_cons (ss_for PassesOwn.never rfl (si_d (SF.toE (sf_b1 (cr_sort rfl (roomU64 hr)) k_sort rfl U.n_sorted (by decide +kernel) (ae_p (pv 1))))) (sg_nm (i := 4) S.nd rfl (by first | exact .inl rfl | exact .inr rfl)) (sss_one (ss_put (roomU1 hr) (pv 5) (SF.toE (sf_bin op_sub k_sub (ae_v (SF.toE (sf_b1 cr_len k_len rfl U.n_len (by decide +kernel) (ae_p (pv 4))))) (ae_v se_int))) (SF.toE (sf_bin op_addAny k_add (ae_v (se_get (roomU1 hr) (ae_p (pv 5)) (SF.toE (sf_bin op_sub k_sub (ae_v (SF.toE (sf_b1 cr_len k_len rfl U.n_len (by decide +kernel) (ae_p (pv 4))))) (ae_v se_int))) (SF.toE (sf_lst ses_nil)))) (ae_v (SF.toE (sf_lst (ses_cons (se_var (pv 4)) ses_nil))))))))) (sss_one (ss_ret (sf_tup (ses_cons (SF.toE (sf_t1 cr_tup k_tup rfl U.n_tuple (by decide +kernel) (ae_v (SF.toE (sf_b1 (cr_sort rfl (roomU64 hr)) k_sort rfl U.n_sorted (by decide +kernel) (ae_v (SF.toE (sf_lc (own := [("side", 4)]) rfl S.nd (si_d (se_var (pv 1))) (blkOk_by (by kernel_rfl)) (fun _ _ _ _ _ => (sg_nm (i := 4) S.nd rfl (by first | exact .inl rfl | exact .inr rfl))) (fun _ _ _ _ _ => (sts_one (st_cmp (op_ninAny (roomU hr)) k_nin (ae_p (pv 4)) (ae_p (pv 3)) rfl))) (fun _ _ _ _ _ => (se_var (pv 4))))))))))) (ses_cons (se_var (pv 5)) ses_nil)))))))))))
/-! ### _law_chain -/
def m_law_chain : M Fl :=
  (mSeq (mSet 2 (mLst [])) (mSeq (mFor (itD (mFz (m1 fSort (.pk 0)))) (.nm 3) (mSeq (mSet 4 (mIf (mT (m2 (fI2 fun i j => .bl (decide (j < i))) (.pk 1) (.val (mC (.int 0))))) (m2 (fI2c cPos fun i j => .int (i % j)) (.val (mFz (m2 fIx (.pk 0) (.pk 3)))) (.pk 1)) (m2 fIx (.pk 0) (.pk 3)))) (mIf (mT (m2 fNe (.pk 4) (.val (mC (.int 0))))) (mDrop (mApp 2 (mFz (mTup [(mV 3), (mV 4)])))) mNx))) (mRet (m1 fTup (.pk 2)))))
def g_law_chain : List D → Option S := runV 5 m_law_chain
theorem sc_law_chain : FnScope ["worths", "n", "found", "side", "worth"] ["worths", "n"] (defScope s_law_chain) := ⟨rfl, rfl, rfl, by decide +kernel, rfl, by decide +kernel, by decide +kernel⟩
theorem ok_law_chain {P : Program} {w : World} {K : PySem.W.Frag} {mg : Str → Option Value} {base : Heap} {C f : Addr} {fd : FuncData} (U : Fx K mg C) (F : FunD K "_law_chain" "_law_chain" (defArgs s_law_chain) (defBody s_law_chain) (defScope s_law_chain) [] [] f fd) (hm : mg "_law_chain" = some (.ref f)) :
    CalV P w K mg base (ctW C) 1 "_law_chain" 2 g_law_chain := by
  have S := sc_law_chain
  exact mkV (k := 0) F hm S rfl (fun _ _ _ _ _ _ us hl => match us, hl with | [_, _], _ => rfl) fun cdv A outer s H E hr =>
    (sss_cons (ss_set (i := 2) S.nd rfl (by first | exact .inl rfl | exact .inr rfl) (sf_lst ses_nil)) (sss_cons (ss_for PassesOwn.never rfl (si_d (SF.toE (sf_b1 (cr_sort rfl (roomU64 hr)) k_sort rfl U.n_sorted (by decide +kernel) (ae_p (pv 0))))) (sg_nm (i := 3) S.nd rfl (by first | exact .inl rfl | exact .inr rfl)) (sss_cons (ss_set (i := 4) S.nd rfl (by first | exact .inl rfl | exact .inr rfl) (sf_if (st_cmp op_gt k_gt (ae_p (pv 1)) (ae_v se_int) rfl) (sf_bin op_mod k_mod (ae_v (SF.toE (sf_ix (ix_any (roomU1 hr)) k_ix (ae_p (pv 0)) (ae_p (pv 3)) fun _ _ => rfl))) (ae_p (pv 1))) (sf_ix (ix_any (roomU1 hr)) k_ix (ae_p (pv 0)) (ae_p (pv 3)) fun _ _ => rfl))) (sss_one (ss_if (st_cmp (op_neD (roomU64 hr)) k_ne (ae_p (pv 4)) (ae_v se_int) rfl) (sss_one (ss_expr (sf_app (pv 2) (SF.toE (sf_tup (ses_cons (se_var (pv 3)) (ses_cons (se_var (pv 4)) ses_nil))))))) sss_nil)))) (sss_one (ss_ret (sf_t1 cr_tup k_tup rfl U.n_tuple (by decide +kernel) (ae_p (pv 2)))))))
/-! ### _law_sum -/
def m_law_sum : M Fl :=
  (mSeq (mSet 2 (mNew true)) (mSeq (mFor (itD (mV 1)) (.tp [(.nm 3), (.nm 4)]) (mFor (itD (mV 4)) (.tp [(.nm 5), (.nm 6)]) (mPut 2 (mV 5) (mFz (m2 fAdd (.val (mGet (.pk 2) (mV 5) (mC (.int 0)))) (.val (mFz (m2 fMul (.pk 3) (.pk 6))))))))) (mRet (mCall 2 g_law_chain [(mV 2), (mV 0)]))))
def g_law_sum : List D → Option S := runV 7 m_law_sum
theorem sc_law_sum : FnScope ["n", "chains", "worths", "factor", "chain", "side", "worth"] ["n", "chains"] (defScope s_law_sum) := ⟨rfl, rfl, rfl, by decide +kernel, rfl, by decide +kernel, by decide +kernel⟩
theorem ok_law_sum {P : Program} {w : World} {K : PySem.W.Frag} {mg : Str → Option Value} {base : Heap} {C f : Addr} {fd : FuncData} (U : Fx K mg C) (F : FunD K "_law_sum" "_law_sum" (defArgs s_law_sum) (defBody s_law_sum) (defScope s_law_sum) [] [] f fd) (hm : mg "_law_sum" = some (.ref f)) (c_law_chain : CalV P w K mg base (ctW C) 1 "_law_chain" 2 g_law_chain) :
    CalV P w K mg base (ctW C) 2 "_law_sum" 2 g_law_sum := by
  have S := sc_law_sum
  exact mkV (k := 1) F hm S rfl (fun _ _ _ _ _ _ us hl => match us, hl with | [_, _], _ => rfl) fun cdv A outer s H E hr =>
    (sss_cons (ss_set (i := 2) S.nd rfl (by first | exact .inl rfl | exact .inr rfl) (sf_new (t := true))) (sss_cons (ss_for PassesOwn.never rfl (si_d (se_var (pv 1))) (sg_tp rfl (sgs_cons (sg_nm (i := 3) S.nd rfl (by first | exact .inl rfl | exact .inr rfl)) (sgs_cons (sg_nm (i := 4) S.nd rfl (by first | exact .inl rfl | exact .inr rfl)) sgs_nil))) (sss_one (ss_for PassesOwn.never rfl (si_d (se_var (pv 4))) (sg_tp rfl (sgs_cons (sg_nm (i := 5) S.nd rfl (by first | exact .inl rfl | exact .inr rfl)) (sgs_cons (sg_nm (i := 6) S.nd rfl (by first | exact .inl rfl | exact .inr rfl)) sgs_nil))) (sss_one (ss_put (roomU1 hr) (pv 2) (se_var (pv 5)) (SF.toE (sf_bin op_addAny k_add (ae_v (se_get (roomU1 hr) (ae_p (pv 2)) (se_var (pv 5)) se_int)) (ae_v (SF.toE (sf_bin op_mulAny k_mulA (ae_p (pv 3)) (ae_p (pv 6)))))))))))) (sss_one (ss_ret (sf_cl c_law_chain hr (by decide) rfl (ses_cons (se_var (pv 2)) (ses_cons (se_var (pv 0)) ses_nil)))))))
/-! ### _law_ring -/
def m_law_ring : M Fl :=
  (mRet (mCall 1 g_law_web [(mFz (mLc (itR1 (mV 0)) (.nm 1) mYes (mFz (m1 fTup (.val (mFz (m1 fSort (.val (mFz (mLst [(mV 1), (mFz (m2 (fI2c cPos fun i j => .int (i % j)) (.val (mFz (m2 fAdd (.pk 1) (.val (mC (.int 1)))))) (.pk 0)))])))))))) [1]))]))
def g_law_ring : List D → Option S := runV 2 m_law_ring
theorem sc_law_ring : FnScope ["many", "k"] ["many"] (defScope s_law_ring) := ⟨rfl, rfl, rfl, by decide +kernel, rfl, by decide +kernel, by decide +kernel⟩
theorem ok_law_ring {P : Program} {w : World} {K : PySem.W.Frag} {mg : Str → Option Value} {base : Heap} {C f : Addr} {fd : FuncData} (U : Fx K mg C) (F : FunD K "_law_ring" "_law_ring" (defArgs s_law_ring) (defBody s_law_ring) (defScope s_law_ring) [] [] f fd) (hm : mg "_law_ring" = some (.ref f)) (c_law_web : CalV P w K mg base (ctW C) 2 "_law_web" 1 g_law_web) :
    CalV P w K mg base (ctW C) 3 "_law_ring" 1 g_law_ring := by
  have S := sc_law_ring
  exact mkV (k := 2) F hm S rfl (fun _ _ _ _ _ _ us hl => match us, hl with | [_], _ => rfl) fun cdv A outer s H E hr =>
    (sss_one (ss_ret (sf_cl c_law_web hr (by decide) rfl (ses_cons (SF.toE (sf_lc (own := [("k", 1)]) rfl S.nd (si_r1 rfl U.n_range (se_var (pv 0))) (blkOk_by (by kernel_rfl)) (fun _ _ _ _ _ => (sg_nm (i := 1) S.nd rfl (by first | exact .inl rfl | exact .inr rfl))) (fun _ _ _ _ _ => sts_nil) (fun _ _ _ _ _ => (SF.toE (sf_t1 cr_tup k_tup rfl U.n_tuple (by decide +kernel) (ae_v (SF.toE (sf_b1 (cr_sort rfl (roomU64 hr)) k_sort rfl U.n_sorted (by decide +kernel) (ae_v (SF.toE (sf_lst (ses_cons (se_var (pv 1)) (ses_cons (SF.toE (sf_bin op_mod k_mod (ae_v (SF.toE (sf_bin op_addAny k_add (ae_p (pv 1)) (ae_v se_int)))) (ae_p (pv 0)))) ses_nil))))))))))))) ses_nil))))
/-! ### _law_walk -/
def m_law_walk : M Fl :=
  (mSeq (mSet 3 (mCallI 0 2 g_law_draw [(mV 2)])) (mSeq (mSet 4 (mLst [(mV 3)])) (mSeq (mSet 5 (mCallI 0 2 g_law_draw [(mC (.int 3))])) (mSeq (mFor (itR1 (mFz (m2 (fI2 fun i j => .int (i - j)) (.pk 1) (.val (mC (.int 1)))))) (.nm 6) (mSeq (mSet 3 (mIf (mT (m2 (fI2 fun i j => .bl (decide (j < i))) (.pk 5) (.val (mC (.int 0))))) (m2 fAdd (.pk 3) (.val (mFz (m2 fIx (.val (mFz (mLst [(mC (.int 1)), (mC (.int 1)), (mFz (m1 fNeg (.val (mC (.int 1))))), (mC (.int 0))]))) (.val (mFz (mCallI 0 2 g_law_draw [(mC (.int 4))]))))))) (m2 fAdd (.pk 3) (.val (mC (.int 1)))))) (mDrop (mApp 4 (mV 3))))) (mRet (mIf (mT (m2 (fInA false) (.val (mFz (m2 (fI2c cPos fun i j => .int (i % j)) (.val (mFz (m2 (fI2 fun i j => .int (i - j)) (.val (mFz (m2 fIx (.pk 4) (.val (mFz (m1 fNeg (.val (mC (.int 1))))))))) (.val (mFz (m2 fIx (.pk 4) (.val (mC (.int 0))))))))) (.pk 2)))) (.val (mFz (mTup [(mC (.int 0)), (mC (.int 1)), (mFz (m2 (fI2 fun i j => .int (i - j)) (.pk 2) (.val (mC (.int 1)))))]))))) (mMv 4) (mIm (mC .non))))))))
def g_law_walk : S → List D → Option (S × S) := runI 7 m_law_walk
theorem sc_law_walk : FnScope ["hand", "many", "other", "place", "found", "rise", "k"] ["hand", "many", "other"] (defScope s_law_walk) := ⟨rfl, rfl, rfl, by decide +kernel, rfl, by decide +kernel, by decide +kernel⟩
theorem ok_law_walk {P : Program} {w : World} {K : PySem.W.Frag} {mg : Str → Option Value} {base : Heap} {C f : Addr} {fd : FuncData} (U : Fx K mg C) (F : FunD K "_law_walk" "_law_walk" (defArgs s_law_walk) (defBody s_law_walk) (defScope s_law_walk) [] [] f fd) (hm : mg "_law_walk" = some (.ref f)) (c_law_draw : CalI P w K mg base (ctW C) 1 "_law_draw" 2 g_law_draw) :
    CalI P w K mg base (ctW C) 2 "_law_walk" 3 g_law_walk := by
  have S := sc_law_walk
  exact mkI (k := 1) F hm S rfl (fun _ _ _ _ _ _ us hl => match us, hl with | [_, _, _], _ => rfl) fun cdv A outer s H E hr =>
    (sss_cons (ss_set (i := 3) S.nd rfl (by first | exact .inl rfl | exact .inr rfl) (sf_clI c_law_draw hr (by decide) rfl (pv 0) (ses_cons (se_var (pv 2)) ses_nil))) (sss_cons (ss_set (i := 4) S.nd rfl (by first | exact .inl rfl | exact .inr rfl) (sf_lst (ses_cons (se_var (pv 3)) ses_nil))) (sss_cons (ss_set (i := 5) S.nd rfl (by first | exact .inl rfl | exact .inr rfl) (sf_clI c_law_draw hr (by decide) rfl (pv 0) (ses_cons se_int ses_nil))) (sss_cons (ss_for PassesOwn.never rfl (si_r1 rfl U.n_range (SF.toE (sf_bin op_sub k_sub (ae_p (pv 1)) (ae_v se_int)))) (sg_nm (i := 6) S.nd rfl (by first | exact .inl rfl | exact .inr rfl)) (sss_cons (ss_set (i := 3) S.nd rfl (by first | exact .inl rfl | exact .inr rfl) (sf_if (st_cmp op_gt k_gt (ae_p (pv 5)) (ae_v se_int) rfl) (sf_bin op_addAny k_add (ae_p (pv 3)) (ae_v (SF.toE (sf_ix (ix_any (roomU1 hr)) k_ix (ae_v (SF.toE (sf_lst (ses_cons se_int (ses_cons se_int (ses_cons (SF.toE (sf_un un_neg k_neg (ae_v se_int))) (ses_cons se_int ses_nil))))))) (ae_v (SF.toE (sf_clI c_law_draw hr (by decide) rfl (pv 0) (ses_cons se_int ses_nil)))) fun _ _ => rfl)))) (sf_bin op_addAny k_add (ae_p (pv 3)) (ae_v se_int)))) (sss_one (ss_expr (sf_app (pv 4) (se_var (pv 3))))))) (sss_one (ss_ret (sf_if (st_cmp (op_inAny (roomU hr)) k_in (ae_v (SF.toE (sf_bin op_mod k_mod (ae_v (SF.toE (sf_bin op_sub k_sub (ae_v (SF.toE (sf_ix (ix_any (roomU1 hr)) k_ix (ae_p (pv 4)) (ae_v (SF.toE (sf_un un_neg k_neg (ae_v se_int)))) fun _ _ => rfl))) (ae_v (SF.toE (sf_ix (ix_any (roomU1 hr)) k_ix (ae_p (pv 4)) (ae_v se_int) fun _ _ => rfl)))))) (ae_p (pv 2))))) (ae_v (SF.toE (sf_tup (ses_cons se_int (ses_cons se_int (ses_cons (SF.toE (sf_bin op_sub k_sub (ae_p (pv 2)) (ae_v se_int))) ses_nil)))))) rfl) (sf_mv (pv 4)) (SE.toF se_non))))))))
/-! ### _law_round -/
def m_law_round : M Fl :=
  (mSeq (mSet 2 (m2 (fI2c cPos fun i j => .int (i % j)) (.val (mFz (m2 (fI2 fun i j => .int (i - j)) (.val (mFz (m2 fIx (.pk 0) (.val (mC (.int 0)))))) (.val (mFz (m2 fIx (.pk 0) (.val (mFz (m1 fNeg (.val (mC (.int 1)))))))))))) (.pk 1))) (mSeq (mSet 3 (mIf (mT (m2 fLt (.pk 2) (.val (mC (.int 2))))) (mMv 2) (m1 fNeg (.val (mC (.int 1)))))) (mRet (m2 (fI2c cDv fun i j => .int (i / j)) (.val (mFz (m2 (fI2 fun i j => .int (i - j)) (.val (mFz (m2 fAdd (.val (mFz (m2 fIx (.pk 0) (.val (mFz (m1 fNeg (.val (mC (.int 1))))))))) (.pk 3)))) (.val (mFz (m2 fIx (.pk 0) (.val (mC (.int 0))))))))) (.pk 1)))))
def g_law_round : List D → Option S := runV 4 m_law_round
theorem sc_law_round : FnScope ["found", "other", "last", "step"] ["found", "other"] (defScope s_law_round) := ⟨rfl, rfl, rfl, by decide +kernel, rfl, by decide +kernel, by decide +kernel⟩
theorem ok_law_round {P : Program} {w : World} {K : PySem.W.Frag} {mg : Str → Option Value} {base : Heap} {C f : Addr} {fd : FuncData} (U : Fx K mg C) (F : FunD K "_law_round" "_law_round" (defArgs s_law_round) (defBody s_law_round) (defScope s_law_round) [] [] f fd) (hm : mg "_law_round" = some (.ref f)) :
    CalV P w K mg base (ctW C) 1 "_law_round" 2 g_law_round := by
  have S := sc_law_round
  exact mkV (k := 0) F hm S rfl (fun _ _ _ _ _ _ us hl => match us, hl with | [_, _], _ => rfl) fun cdv A outer s H E hr =>
    (sss_cons (ss_set (i := 2) S.nd rfl (by first | exact .inl rfl | exact .inr rfl) (sf_bin op_mod k_mod (ae_v (SF.toE (sf_bin op_sub k_sub (ae_v (SF.toE (sf_ix (ix_any (roomU1 hr)) k_ix (ae_p (pv 0)) (ae_v se_int) fun _ _ => rfl))) (ae_v (SF.toE (sf_ix (ix_any (roomU1 hr)) k_ix (ae_p (pv 0)) (ae_v (SF.toE (sf_un un_neg k_neg (ae_v se_int)))) fun _ _ => rfl)))))) (ae_p (pv 1)))) (sss_cons (ss_set (i := 3) S.nd rfl (by first | exact .inl rfl | exact .inr rfl) (sf_if (st_cmp (op_ltAny hr.units0) k_ltA (ae_p (pv 2)) (ae_v se_int) rfl) (sf_mv (pv 2)) (sf_un un_neg k_neg (ae_v se_int)))) (sss_one (ss_ret (sf_bin op_fdiv k_fdiv (ae_v (SF.toE (sf_bin op_sub k_sub (ae_v (SF.toE (sf_bin op_addAny k_add (ae_v (SF.toE (sf_ix (ix_any (roomU1 hr)) k_ix (ae_p (pv 0)) (ae_v (SF.toE (sf_un un_neg k_neg (ae_v se_int)))) fun _ _ => rfl))) (ae_p (pv 3))))) (ae_v (SF.toE (sf_ix (ix_any (roomU1 hr)) k_ix (ae_p (pv 0)) (ae_v se_int) fun _ _ => rfl)))))) (ae_p (pv 1)))))))
/-! ### _law_up -/
def m_law_up : M Fl :=
  (mRet (mLc (itD (mV 0)) (.tp [(.nm 2), (.nm 3)]) (mT (m2 fEq (.pk 2) (.val (mFz (mTup [(mC (.int 0)), (mC (.int 1))]))))) (mFz (mTup [(mC (.int 0)), (mV 3)])) [2, 3]))
def g_law_up : List D → Option S := runV 4 m_law_up
theorem sc_law_up : FnScope ["whole", "many", "side", "worth"] ["whole", "many"] (defScope s_law_up) := ⟨rfl, rfl, rfl, by decide +kernel, rfl, by decide +kernel, by decide +kernel⟩
theorem ok_law_up {P : Program} {w : World} {K : PySem.W.Frag} {mg : Str → Option Value} {base : Heap} {C f : Addr} {fd : FuncData} (U : Fx K mg C) (F : FunD K "_law_up" "_law_up" (defArgs s_law_up) (defBody s_law_up) (defScope s_law_up) [] [] f fd) (hm : mg "_law_up" = some (.ref f)) :
    CalV P w K mg base (ctW C) 1 "_law_up" 2 g_law_up := by
  have S := sc_law_up
  exact mkV (k := 0) F hm S rfl (fun _ _ _ _ _ _ us hl => match us, hl with | [_, _], _ => rfl) fun cdv A outer s H E hr =>
    (sss_one (ss_ret (sf_lc (own := [("side", 2), ("worth", 3)]) rfl S.nd (si_d (se_var (pv 0))) (blkOk_by (by kernel_rfl)) (fun _ _ _ _ _ => (sg_tp rfl (sgs_cons (sg_nm (i := 2) S.nd rfl (by first | exact .inl rfl | exact .inr rfl)) (sgs_cons (sg_nm (i := 3) S.nd rfl (by first | exact .inl rfl | exact .inr rfl)) sgs_nil)))) (fun _ _ _ _ _ => (sts_one (st_cmp (op_eqD (roomU64 hr)) k_eq (ae_p (pv 2)) (ae_v (SF.toE (sf_tup (ses_cons se_int (ses_cons se_int ses_nil))))) rfl))) (fun _ _ _ _ _ => (SF.toE (sf_tup (ses_cons se_int (ses_cons (se_var (pv 3)) ses_nil))))))))
/-! ### law -/
def m_law : M Fl :=
  (mSeq (mSet 1 (mCall 1 g_law_hand [(mV 0)])) (mSeq (mSet 2 (mLst [(mFz (m2 fAdd (.val (mC (.int 3))) (.val (mFz (mCallI 1 2 g_law_draw [(mC (.int 7))]))))), (mFz (m2 fAdd (.val (mC (.int 3))) (.val (mFz (mCallI 1 2 g_law_draw [(mC (.int 2))]))))), (mC (.int 3))])) (mSeq (mSet 3 (mLc (itD (mV 2)) (.nm 20) mYes (mFz (mCall 1 g_Web [(mFz (m2 fIx (.val (mFz (mCall 1 g_law_ring [(mV 20)]))) (.val (mC (.int 0)))))])) [20])) (mSeq (mSet 4 (mLst [])) (mSeq (mFor (itR1 (mC (.int 2))) (.nm 5) (mSeq (mSet 15 (mIm (mC .non))) (mSeq (mFor (itR1 (mC (.int 20))) (.nm 16) (mSet 15 (mIf (mT (m2 (fIsN false) (.pk 15) (.val (mC .non)))) (mCallI 1 3 g_law_walk [(mFz (m2 fIx (.pk 2) (.pk 5))), (mFz (m2 fIx (.pk 2) (.val (mFz (m2 fAdd (.pk 5) (.val (mC (.int 1))))))))]) (mMv 15)))) (mDrop (mApp 4 (mFz (mIf (mT (m2 (fIsN true) (.pk 15) (.val (mC .non)))) (mMv 15) (m2 fMul (.val (mFz (mLst [(mC (.int 0))]))) (.val (mFz (m2 fIx (.pk 2) (.pk 5)))))))))))) (mSeq (mSet 6 (mLc (itR1 (mC (.int 2))) (.nm 9) mYes (mFz (m1 fTup (.val (mFz (mLc (itR1 (mFz (m2 fIx (.pk 2) (.pk 9)))) (.nm 5) mYes (mFz (mTup [(mV 5), (mFz (m2 (fI2c cPos fun i j => .int (i % j)) (.val (mFz (m2 fIx (.val (mFz (m2 fIx (.pk 4) (.pk 9)))) (.pk 5)))) (.val (mFz (m2 fIx (.pk 2) (.val (mFz (m2 fAdd (.pk 9) (.val (mC (.int 1)))))))))))])) [5]))))) [9])) (mSeq (mSet 7 (mLc (itD (mV 3)) (.nm 21) mYes (mFz (mCall 1 g_whole_chain [(mV 21)])) [21])) (mSeq (mSet 8 (mLst [])) (mSeq (mFor (itR1 (mC (.int 2))) (.nm 9) (mSeq (mIf (mT (m2 (fIsB true) (.val (mFz (mCall 3 g_is_map [(mFz (m2 fIx (.pk 3) (.pk 9))), (mFz (m2 fIx (.pk 3) (.val (mFz (m2 fAdd (.pk 9) (.val (mC (.int 1)))))))), (mFz (m2 fIx (.pk 6) (.pk 9)))]))) (.val (mC (.bl true))))) (mRet (mIm (mC (.bl false)))) mNx) (mSeq (mSet 14 (mCall 3 g_degree_of [(mFz (m2 fIx (.pk 3) (.pk 9))), (mFz (m2 fIx (.pk 3) (.val (mFz (m2 fAdd (.pk 9) (.val (mC (.int 1)))))))), (mFz (m2 fIx (.pk 6) (.pk 9)))])) (mSeq (mIf (mT (m2 fNe (.val (mFz (mCall 6 g_led_chain [(mFz (m2 fIx (.pk 3) (.pk 9))), (mFz (m2 fIx (.pk 3) (.val (mFz (m2 fAdd (.pk 9) (.val (mC (.int 1)))))))), (mFz (m2 fIx (.pk 6) (.pk 9))), (mC (.int 1)), (mC (.int 0)), (mFz (m2 fIx (.pk 7) (.pk 9)))]))) (.val (mFz (mCall 2 g_law_sum [(mC (.int 0)), (mFz (mLst [(mFz (mTup [(mV 14), (mFz (m2 fIx (.pk 7) (.val (mFz (m2 fAdd (.pk 9) (.val (mC (.int 1))))))))]))]))]))))) (mRet (mIm (mC (.bl false)))) mNx) (mSeq (mSet 17 (mLc (itR1 (mC (.int 2))) (.nm 5) mYes (mFz (m2 fIx (.val (mFz (m1 fDict (.val (mFz (mCall 2 g_law_up [(mFz (m2 fIx (.pk 7) (.val (mFz (m2 fAdd (.pk 9) (.pk 5)))))), (mFz (m2 fIx (.pk 2) (.val (mFz (m2 fAdd (.pk 9) (.pk 5))))))])))))) (.val (mC (.int 0))))) [5])) (mSeq (mIf (mT (m2 fNe (.val (mFz (m2 fMul (.val (mFz (m2 fMul (.pk 14) (.val (mFz (m2 fIx (.pk 17) (.val (mC (.int 0))))))))) (.val (mFz (m2 fIx (.pk 17) (.val (mC (.int 1))))))))) (.val (mFz (mCall 2 g_law_round [(mFz (m2 fIx (.pk 4) (.pk 9))), (mFz (m2 fIx (.pk 2) (.val (mFz (m2 fAdd (.pk 9) (.val (mC (.int 1))))))))]))))) (mRet (mIm (mC (.bl false)))) mNx) (mDrop (mApp 8 (mV 14))))))))) (mSeq (mSet 10 (mCall 5 g_behind [(mFz (m2 fIx (.pk 3) (.val (mC (.int 0))))), (mFz (m2 fIx (.pk 3) (.val (mC (.int 1))))), (mFz (m2 fIx (.pk 3) (.val (mC (.int 2))))), (mFz (m2 fIx (.pk 6) (.val (mC (.int 0))))), (mFz (m2 fIx (.pk 6) (.val (mC (.int 1)))))])) (mSeq (mIf (mT (m2 fNe (.val (mFz (mCall 3 g_degree_of [(mFz (m2 fIx (.pk 3) (.val (mC (.int 0))))), (mFz (m2 fIx (.pk 3) (.val (mC (.int 2))))), (mV 10)]))) (.val (mFz (m2 fMul (.val (mFz (m2 fIx (.pk 8) (.val (mC (.int 0)))))) (.val (mFz (m2 fIx (.pk 8) (.val (mC (.int 1))))))))))) (mRet (mIm (mC (.bl false)))) mNx) (mSeq (mSet 11 (m2 fAdd (.val (mC (.int 3))) (.val (mFz (mCallI 1 2 g_law_draw [(mC (.int 3))]))))) (mSeq (mSet 12 (mCall 1 g_Web [(mFz (m2 fIx (.val (mFz (mCall 1 g_law_web [(mFz (mLc (itR1 (mV 11)) (.nm 9) mYes (mFz (m1 fTup (.val (mFz (mLc (itR1 (mV 11)) (.nm 5) (mT (m2 fNe (.pk 5) (.pk 9))) (mV 5) [5]))))) [9]))]))) (.val (mC (.int 0)))))])) (mSeq (mAsg (.tp [(.nm 18), (.nm 19)]) (mFz (mTup [(mFz (mCallI 1 2 g_law_draw [(mV 11)])), (mFz (mCallI 1 2 g_law_draw [(mV 11)]))]))) (mSeq (mSet 13 (mLc (itR1 (mV 11)) (.nm 5) mYes (mFz (m2 fIx (.val (mFz (mLst [(mV 5), (mV 19), (mV 18)]))) (.val (mFz (m2 fAdd (.val (mFz (m1 fInt (.val (mFz (m2 fEq (.pk 5) (.pk 18))))))) (.val (mFz (m2 fMul (.val (mC (.int 2))) (.val (mFz (m1 fInt (.val (mFz (mAnd (m2 fEq (.pk 5) (.pk 19)) (m2 fNe (.pk 18) (.pk 19)))))))))))))))) [5])) (mSeq (mSet 14 (mCall 3 g_degree_of [(mV 12), (mV 12), (mFz (m1 fTup (.val (mFz (mLc (itR1 (mV 11)) (.nm 5) mYes (mFz (mTup [(mV 5), (mFz (m2 fIx (.pk 13) (.pk 5)))])) [5])))))])) (mRet (m2 fEq (.pk 14) (.val (mFz (mIf (mT (m2 fEq (.pk 18) (.pk 19))) (mIm (mC (.int 1))) (m1 fNeg (.val (mC (.int 1)))))))))))))))))))))))))
def g_law : List D → Option S := runV 22 m_law
theorem sc_law : FnScope ["script", "hand", "sizes", "webs", "walks", "k", "maps_v", "wholes", "told", "j", "both", "many", "hollow", "turns", "number", "found", "turn", "signs", "one", "other", "size", "web"] ["script"] (defScope s_law) := ⟨rfl, rfl, rfl, by decide +kernel, rfl, by decide +kernel, by decide +kernel⟩
theorem ok_law {P : Program} {w : World} {K : PySem.W.Frag} {mg : Str → Option Value} {base : Heap} {C f : Addr} {fd : FuncData} (U : Fx K mg C) (F : FunD K "law" "law" (defArgs s_law) (defBody s_law) (defScope s_law) [] [] f fd) (hm : mg "law" = some (.ref f)) (c_Web : WebOk P w K mg base C 4 w_Web) (c_law_draw : CalI P w K mg base (ctW C) 1 "_law_draw" 2 g_law_draw) (c_law_hand : CalV P w K mg base (ctW C) 1 "_law_hand" 1 g_law_hand) (c_law_ring : CalV P w K mg base (ctW C) 3 "_law_ring" 1 g_law_ring) (c_law_round : CalV P w K mg base (ctW C) 1 "_law_round" 2 g_law_round) (c_law_sum : CalV P w K mg base (ctW C) 2 "_law_sum" 2 g_law_sum) (c_law_up : CalV P w K mg base (ctW C) 1 "_law_up" 2 g_law_up) (c_law_walk : CalI P w K mg base (ctW C) 2 "_law_walk" 3 g_law_walk) (c_law_web : CalV P w K mg base (ctW C) 2 "_law_web" 1 g_law_web) (c_behind : CalV P w K mg base (ctW C) 5 "behind" 5 g_behind) (c_degree_of : CalV P w K mg base (ctW C) 8 "degree_of" 3 g_degree_of) (c_is_map : CalV P w K mg base (ctW C) 4 "is_map" 3 g_is_map) (c_led_chain : CalV P w K mg base (ctW C) 6 "led_chain" 6 g_led_chain) (c_whole_chain : CalV P w K mg base (ctW C) 7 "whole_chain" 1 g_whole_chain) :
    FnOk P w K mg base CX0 9 f fd ["script"] (spV K (ctW C) 1 g_law) := by
  have S := sc_law
  exact fokV (k := 8) F S rfl fun cdv A outer s H E hr =>
    (sss_cons (ss_set (i := 1) S.nd rfl (by first | exact .inl rfl | exact .inr rfl) (sf_cl c_law_hand hr (by decide) rfl (ses_cons (se_var (pv 0)) ses_nil))) (sss_cons (ss_set (i := 2) S.nd rfl (by first | exact .inl rfl | exact .inr rfl) (sf_lst (ses_cons (SF.toE (sf_bin op_addAny k_add (ae_v se_int) (ae_v (SF.toE (sf_clI c_law_draw hr (by decide) rfl (pv 1) (ses_cons se_int ses_nil)))))) (ses_cons (SF.toE (sf_bin op_addAny k_add (ae_v se_int) (ae_v (SF.toE (sf_clI c_law_draw hr (by decide) rfl (pv 1) (ses_cons se_int ses_nil)))))) (ses_cons se_int ses_nil))))) (sss_cons (ss_setLc (i := 3) (own := [("size", 20)]) rfl S.nd rfl rfl rfl (si_d (se_var (pv 2))) (blkOk_by (by kernel_rfl)) (fun _ _ _ _ _ => (sg_nm (i := 20) S.nd rfl (by first | exact .inl rfl | exact .inr rfl))) (fun _ _ _ _ _ => sts_nil) (fun _ _ _ _ _ => (SF.toE (sf_web c_Web hr (by decide) rfl (ses_cons (SF.toE (sf_ix (ix_any (roomU1 hr)) k_ix (ae_v (SF.toE (sf_cl c_law_ring hr (by decide) rfl (ses_cons (se_var (pv 20)) ses_nil)))) (ae_v se_int) fun _ _ => rfl)) ses_nil))))) (sss_cons (ss_set (i := 4) S.nd rfl (by first | exact .inl rfl | exact .inr rfl) (sf_lst ses_nil)) (sss_cons (ss_for PassesOwn.never rfl (si_r1 rfl U.n_range se_int) (sg_nm (i := 5) S.nd rfl (by first | exact .inl rfl | exact .inr rfl)) (sss_cons (ss_set (i := 15) S.nd rfl (by first | exact .inl rfl | exact .inr rfl) (SE.toF se_non)) (sss_cons (ss_for PassesOwn.never rfl (si_r1 rfl U.n_range se_int) (sg_nm (i := 16) S.nd rfl (by first | exact .inl rfl | exact .inr rfl)) (sss_one (ss_set (i := 15) S.nd rfl (by first | exact .inl rfl | exact .inr rfl) (sf_if (st_cmp op_isN k_isN (ae_p (pv 15)) (ae_v se_non) rfl) (sf_clI c_law_walk hr (by decide) rfl (pv 1) (ses_cons (SF.toE (sf_ix (ix_any (roomU1 hr)) k_ix (ae_p (pv 2)) (ae_p (pv 5)) fun _ _ => rfl)) (ses_cons (SF.toE (sf_ix (ix_any (roomU1 hr)) k_ix (ae_p (pv 2)) (ae_v (SF.toE (sf_bin op_addAny k_add (ae_p (pv 5)) (ae_v se_int)))) fun _ _ => rfl)) ses_nil))) (sf_mv (pv 15)))))) (sss_one (ss_expr (sf_app (pv 4) (SF.toE (sf_if (st_cmp op_notN k_notN (ae_p (pv 15)) (ae_v se_non) rfl) (sf_mv (pv 15)) (sf_bin op_mulAny k_mulA (ae_v (SF.toE (sf_lst (ses_cons se_int ses_nil)))) (ae_v (SF.toE (sf_ix (ix_any (roomU1 hr)) k_ix (ae_p (pv 2)) (ae_p (pv 5)) fun _ _ => rfl)))))))))))) (sss_cons (ss_setLc (i := 6) (own := [("j", 9)]) rfl S.nd rfl rfl rfl (si_r1 rfl U.n_range se_int) (blkOk_by (by kernel_rfl)) (fun _ _ _ _ _ => (sg_nm (i := 9) S.nd rfl (by first | exact .inl rfl | exact .inr rfl))) (fun _ _ _ _ _ => sts_nil) (fun _ _ _ _ _ => (SF.toE (sf_t1 cr_tup k_tup rfl U.n_tuple (by decide +kernel) (ae_v (SF.toE (sf_lc (own := [("k", 5)]) rfl S.nd (si_r1 rfl U.n_range (SF.toE (sf_ix (ix_any (roomU1 hr)) k_ix (ae_p (pv 2)) (ae_p (pv 9)) fun _ _ => rfl))) (blkOk_by (by kernel_rfl)) (fun _ _ _ _ _ => (sg_nm (i := 5) S.nd rfl (by first | exact .inl rfl | exact .inr rfl))) (fun _ _ _ _ _ => sts_nil) (fun _ _ _ _ _ => (SF.toE (sf_tup (ses_cons (se_var (pv 5)) (ses_cons (SF.toE (sf_bin op_mod k_mod (ae_v (SF.toE (sf_ix (ix_any (roomU1 hr)) k_ix (ae_v (SF.toE (sf_ix (ix_any (roomU1 hr)) k_ix (ae_p (pv 4)) (ae_p (pv 9)) fun _ _ => rfl))) (ae_p (pv 5)) fun _ _ => rfl))) (ae_v (SF.toE (sf_ix (ix_any (roomU1 hr)) k_ix (ae_p (pv 2)) (ae_v (SF.toE (sf_bin op_addAny k_add (ae_p (pv 9)) (ae_v se_int)))) fun _ _ => rfl))))) ses_nil)))))))))))) (sss_cons (ss_set (i := 7) S.nd rfl (by first | exact .inl rfl | exact .inr rfl) (sf_lc (own := [("web", 21)]) rfl S.nd (si_d (se_var (pv 3))) (blkOk_by (by kernel_rfl)) (fun _ _ _ _ _ => (sg_nm (i := 21) S.nd rfl (by first | exact .inl rfl | exact .inr rfl))) (fun _ _ _ _ _ => sts_nil) (fun _ _ _ _ _ => (SF.toE (sf_cl c_whole_chain hr (by decide) rfl (ses_cons (se_var (pv 21)) ses_nil)))))) (sss_cons (ss_set (i := 8) S.nd rfl (by first | exact .inl rfl | exact .inr rfl) (sf_lst ses_nil)) (sss_cons (ss_for PassesOwn.never rfl (si_r1 rfl U.n_range se_int) (sg_nm (i := 9) S.nd rfl (by first | exact .inl rfl | exact .inr rfl)) (sss_cons (ss_if (st_cmp op_isnot_bl k_notB (ae_v (SF.toE (sf_cl c_is_map hr (by decide) rfl (ses_cons (SF.toE (sf_ix (ix_any (roomU1 hr)) k_ix (ae_p (pv 3)) (ae_p (pv 9)) fun _ _ => rfl)) (ses_cons (SF.toE (sf_ix (ix_any (roomU1 hr)) k_ix (ae_p (pv 3)) (ae_v (SF.toE (sf_bin op_addAny k_add (ae_p (pv 9)) (ae_v se_int)))) fun _ _ => rfl)) (ses_cons (SF.toE (sf_ix (ix_any (roomU1 hr)) k_ix (ae_p (pv 6)) (ae_p (pv 9)) fun _ _ => rfl)) ses_nil)))))) (ae_v se_bl) rfl) (sss_one (ss_ret (SE.toF se_bl))) sss_nil) (sss_cons (ss_set (i := 14) S.nd rfl (by first | exact .inl rfl | exact .inr rfl) (sf_cl c_degree_of hr (by decide) rfl (ses_cons (SF.toE (sf_ix (ix_any (roomU1 hr)) k_ix (ae_p (pv 3)) (ae_p (pv 9)) fun _ _ => rfl)) (ses_cons (SF.toE (sf_ix (ix_any (roomU1 hr)) k_ix (ae_p (pv 3)) (ae_v (SF.toE (sf_bin op_addAny k_add (ae_p (pv 9)) (ae_v se_int)))) fun _ _ => rfl)) (ses_cons (SF.toE (sf_ix (ix_any (roomU1 hr)) k_ix (ae_p (pv 6)) (ae_p (pv 9)) fun _ _ => rfl)) ses_nil))))) (sss_cons (ss_if (st_cmp (op_neD (roomU64 hr)) k_ne (ae_v (SF.toE (sf_cl c_led_chain hr (by decide) rfl (ses_cons (SF.toE (sf_ix (ix_any (roomU1 hr)) k_ix (ae_p (pv 3)) (ae_p (pv 9)) fun _ _ => rfl)) (ses_cons (SF.toE (sf_ix (ix_any (roomU1 hr)) k_ix (ae_p (pv 3)) (ae_v (SF.toE (sf_bin op_addAny k_add (ae_p (pv 9)) (ae_v se_int)))) fun _ _ => rfl)) (ses_cons (SF.toE (sf_ix (ix_any (roomU1 hr)) k_ix (ae_p (pv 6)) (ae_p (pv 9)) fun _ _ => rfl)) (ses_cons se_int (ses_cons se_int (ses_cons (SF.toE (sf_ix (ix_any (roomU1 hr)) k_ix (ae_p (pv 7)) (ae_p (pv 9)) fun _ _ => rfl)) ses_nil))))))))) (ae_v (SF.toE (sf_cl c_law_sum hr (by decide) rfl (ses_cons se_int (ses_cons (SF.toE (sf_lst (ses_cons (SF.toE (sf_tup (ses_cons (se_var (pv 14)) (ses_cons (SF.toE (sf_ix (ix_any (roomU1 hr)) k_ix (ae_p (pv 7)) (ae_v (SF.toE (sf_bin op_addAny k_add (ae_p (pv 9)) (ae_v se_int)))) fun _ _ => rfl)) ses_nil)))) ses_nil))) ses_nil))))) rfl) (sss_one (ss_ret (SE.toF se_bl))) sss_nil) (sss_cons (ss_setLc (i := 17) (own := [("k", 5)]) rfl S.nd rfl rfl rfl (si_r1 rfl U.n_range se_int) (blkOk_by (by kernel_rfl)) (fun _ _ _ _ _ => (sg_nm (i := 5) S.nd rfl (by first | exact .inl rfl | exact .inr rfl))) (fun _ _ _ _ _ => sts_nil) (fun _ _ _ _ _ => (SF.toE (sf_ix (ix_any (roomU1 hr)) k_ix (ae_v (SF.toE (sf_t1 (cr_dict rfl) k_dict rfl U.n_dict (by decide +kernel) (ae_v (SF.toE (sf_cl c_law_up hr (by decide) rfl (ses_cons (SF.toE (sf_ix (ix_any (roomU1 hr)) k_ix (ae_p (pv 7)) (ae_v (SF.toE (sf_bin op_addAny k_add (ae_p (pv 9)) (ae_p (pv 5))))) fun _ _ => rfl)) (ses_cons (SF.toE (sf_ix (ix_any (roomU1 hr)) k_ix (ae_p (pv 2)) (ae_v (SF.toE (sf_bin op_addAny k_add (ae_p (pv 9)) (ae_p (pv 5))))) fun _ _ => rfl)) ses_nil)))))))) (ae_v se_int) fun _ _ => rfl)))) (sss_cons (ss_if (st_cmp (op_neD (roomU64 hr)) k_ne (ae_v (SF.toE (sf_bin op_mulAny k_mulA (ae_v (SF.toE (sf_bin op_mulAny k_mulA (ae_p (pv 14)) (ae_v (SF.toE (sf_ix (ix_any (roomU1 hr)) k_ix (ae_p (pv 17)) (ae_v se_int) fun _ _ => rfl)))))) (ae_v (SF.toE (sf_ix (ix_any (roomU1 hr)) k_ix (ae_p (pv 17)) (ae_v se_int) fun _ _ => rfl)))))) (ae_v (SF.toE (sf_cl c_law_round hr (by decide) rfl (ses_cons (SF.toE (sf_ix (ix_any (roomU1 hr)) k_ix (ae_p (pv 4)) (ae_p (pv 9)) fun _ _ => rfl)) (ses_cons (SF.toE (sf_ix (ix_any (roomU1 hr)) k_ix (ae_p (pv 2)) (ae_v (SF.toE (sf_bin op_addAny k_add (ae_p (pv 9)) (ae_v se_int)))) fun _ _ => rfl)) ses_nil))))) rfl) (sss_one (ss_ret (SE.toF se_bl))) sss_nil) (sss_one (ss_expr (sf_app (pv 8) (se_var (pv 14))))))))))) (sss_cons (ss_set (i := 10) S.nd rfl (by first | exact .inl rfl | exact .inr rfl) (sf_cl c_behind hr (by decide) rfl (ses_cons (SF.toE (sf_ix (ix_any (roomU1 hr)) k_ix (ae_p (pv 3)) (ae_v se_int) fun _ _ => rfl)) (ses_cons (SF.toE (sf_ix (ix_any (roomU1 hr)) k_ix (ae_p (pv 3)) (ae_v se_int) fun _ _ => rfl)) (ses_cons (SF.toE (sf_ix (ix_any (roomU1 hr)) k_ix (ae_p (pv 3)) (ae_v se_int) fun _ _ => rfl)) (ses_cons (SF.toE (sf_ix (ix_any (roomU1 hr)) k_ix (ae_p (pv 6)) (ae_v se_int) fun _ _ => rfl)) (ses_cons (SF.toE (sf_ix (ix_any (roomU1 hr)) k_ix (ae_p (pv 6)) (ae_v se_int) fun _ _ => rfl)) ses_nil))))))) (sss_cons (ss_if (st_cmp (op_neD (roomU64 hr)) k_ne (ae_v (SF.toE (sf_cl c_degree_of hr (by decide) rfl (ses_cons (SF.toE (sf_ix (ix_any (roomU1 hr)) k_ix (ae_p (pv 3)) (ae_v se_int) fun _ _ => rfl)) (ses_cons (SF.toE (sf_ix (ix_any (roomU1 hr)) k_ix (ae_p (pv 3)) (ae_v se_int) fun _ _ => rfl)) (ses_cons (se_var (pv 10)) ses_nil)))))) (ae_v (SF.toE (sf_bin op_mulAny k_mulA (ae_v (SF.toE (sf_ix (ix_any (roomU1 hr)) k_ix (ae_p (pv 8)) (ae_v se_int) fun _ _ => rfl))) (ae_v (SF.toE (sf_ix (ix_any (roomU1 hr)) k_ix (ae_p (pv 8)) (ae_v se_int) fun _ _ => rfl)))))) rfl) (sss_one (ss_ret (SE.toF se_bl))) sss_nil) (sss_cons (ss_set (i := 11) S.nd rfl (by first | exact .inl rfl | exact .inr rfl) (sf_bin op_addAny k_add (ae_v se_int) (ae_v (SF.toE (sf_clI c_law_draw hr (by decide) rfl (pv 1) (ses_cons se_int ses_nil)))))) (sss_cons (ss_set (i := 12) S.nd rfl (by first | exact .inl rfl | exact .inr rfl) (sf_web c_Web hr (by decide) rfl (ses_cons (SF.toE (sf_ix (ix_any (roomU1 hr)) k_ix (ae_v (SF.toE (sf_cl c_law_web hr (by decide) rfl (ses_cons (SF.toE (sf_lc (own := [("j", 9)]) rfl S.nd (si_r1 rfl U.n_range (se_var (pv 11))) (blkOk_by (by kernel_rfl)) (fun _ _ _ _ _ => (sg_nm (i := 9) S.nd rfl (by first | exact .inl rfl | exact .inr rfl))) (fun _ _ _ _ _ => sts_nil) (fun _ _ _ _ _ => (SF.toE (sf_t1 cr_tup k_tup rfl U.n_tuple (by decide +kernel) (ae_v (SF.toE (sf_lc (own := [("k", 5)]) rfl S.nd (si_r1 rfl U.n_range (se_var (pv 11))) (blkOk_by (by kernel_rfl)) (fun _ _ _ _ _ => (sg_nm (i := 5) S.nd rfl (by first | exact .inl rfl | exact .inr rfl))) (fun _ _ _ _ _ => (sts_one (st_cmp (op_neD (roomU64 hr)) k_ne (ae_p (pv 5)) (ae_p (pv 9)) rfl))) (fun _ _ _ _ _ => (se_var (pv 5))))))))))) ses_nil)))) (ae_v se_int) fun _ _ => rfl)) ses_nil))) (sss_cons (ss_asg (SF.toE (sf_tup (ses_cons (SF.toE (sf_clI c_law_draw hr (by decide) rfl (pv 1) (ses_cons (se_var (pv 11)) ses_nil))) (ses_cons (SF.toE (sf_clI c_law_draw hr (by decide) rfl (pv 1) (ses_cons (se_var (pv 11)) ses_nil))) ses_nil)))) (sg_tp rfl (sgs_cons (sg_nm (i := 18) S.nd rfl (by first | exact .inl rfl | exact .inr rfl)) (sgs_cons (sg_nm (i := 19) S.nd rfl (by first | exact .inl rfl | exact .inr rfl)) sgs_nil)))) (sss_cons (ss_set (i := 13) S.nd rfl (by first | exact .inl rfl | exact .inr rfl) (sf_lc (own := [("k", 5)]) rfl S.nd (si_r1 rfl U.n_range (se_var (pv 11))) (blkOk_by (by kernel_rfl)) (fun _ _ _ _ _ => (sg_nm (i := 5) S.nd rfl (by first | exact .inl rfl | exact .inr rfl))) (fun _ _ _ _ _ => sts_nil) (fun _ _ _ _ _ => (SF.toE (sf_ix (ix_any (roomU1 hr)) k_ix (ae_v (SF.toE (sf_lst (ses_cons (se_var (pv 5)) (ses_cons (se_var (pv 19)) (ses_cons (se_var (pv 18)) ses_nil)))))) (ae_v (SF.toE (sf_bin op_addAny k_add (ae_v (SF.toE (sf_t1 call_int1 k_int1 rfl U.n_int (by decide +kernel) (ae_v (SF.toE (sf_cmp (op_eqD (roomU64 hr)) k_eq (ae_p (pv 5)) (ae_p (pv 18)) rfl)))))) (ae_v (SF.toE (sf_bin op_mulAny k_mulA (ae_v se_int) (ae_v (SF.toE (sf_t1 call_int1 k_int1 rfl U.n_int (by decide +kernel) (ae_v (SF.toE (sf_and (sf_cmp (op_eqD (roomU64 hr)) k_eq (ae_p (pv 5)) (ae_p (pv 19)) rfl) (sf_one (sf_cmp (op_neD (roomU64 hr)) k_ne (ae_p (pv 18)) (ae_p (pv 19)) rfl)))))))))))))) fun _ _ => rfl))))) (sss_cons (ss_set (i := 14) S.nd rfl (by first | exact .inl rfl | exact .inr rfl) (sf_cl c_degree_of hr (by decide) rfl (ses_cons (se_var (pv 12)) (ses_cons (se_var (pv 12)) (ses_cons (SF.toE (sf_t1 cr_tup k_tup rfl U.n_tuple (by decide +kernel) (ae_v (SF.toE (sf_lc (own := [("k", 5)]) rfl S.nd (si_r1 rfl U.n_range (se_var (pv 11))) (blkOk_by (by kernel_rfl)) (fun _ _ _ _ _ => (sg_nm (i := 5) S.nd rfl (by first | exact .inl rfl | exact .inr rfl))) (fun _ _ _ _ _ => sts_nil) (fun _ _ _ _ _ => (SF.toE (sf_tup (ses_cons (se_var (pv 5)) (ses_cons (SF.toE (sf_ix (ix_any (roomU1 hr)) k_ix (ae_p (pv 13)) (ae_p (pv 5)) fun _ _ => rfl)) ses_nil)))))))))) ses_nil))))) (sss_one (ss_ret (sf_cmp (op_eqD (roomU64 hr)) k_eq (ae_p (pv 14)) (ae_v (SF.toE (sf_if (st_cmp (op_eqD (roomU64 hr)) k_eq (ae_p (pv 18)) (ae_p (pv 19)) rfl) (SE.toF se_int) (sf_un un_neg k_neg (ae_v se_int))))) rfl)))))))))))))))))))
end Wk
end

section
set_option Elab.async false
set_option linter.all false
set_option maxRecDepth 100000
set_option maxHeartbeats 0
namespace Wk
open PySem PySem.Spec PyProof.Rows L2 Ev Hd
theorem insW {K : PySem.W.Frag} (h : Hd.exB K = true) (c : Cls K (He.ga K "Web")) : C8.InsC K (He.ga K "Web") := by
  obtain ⟨h1, h⟩ := He.ba h
  obtain ⟨h2, h⟩ := He.ba h
  obtain ⟨h3, h⟩ := He.ba h
  obtain ⟨h4, h5⟩ := He.ba h
  exact ⟨c, He.eqO_ok h1, He.eqO_ok h2, of_decide_eq_true h3, of_decide_eq_true h4, of_decide_eq_true h5⟩
theorem chain {P : Program} {w : World} {K : PySem.W.Frag} {h : Heap} {mg : Str → Option Value} (X : K.In h) (G : h.Ns mainGlobals mg) (c : He.SaysX Hd.fa Hd.fn [] [] Hd.exB w h K) :
    ∃ fd : FuncData, (∀ (s : Shared) (v : Value), BindsTo s fd ⟨[v], []⟩ [("script", v)]) ∧ ∀ base : Heap, FnOk P w K mg base CX0 9 (He.ga K "law") fd ["script"] (spV K (ctW (He.ga K "Web")) 1 g_law) := by
  have d := c.t.d
  have U : Fx K mg (He.ga K "Web") := ⟨He.free_ok X G (d.fact 60 (f := .free "abs") rfl),
    He.free_ok X G (d.fact 61 (f := .free "all") rfl),
    He.free_ok X G (d.fact 62 (f := .free "any") rfl),
    He.free_ok X G (d.fact 63 (f := .free "bool") rfl),
    He.free_ok X G (d.fact 64 (f := .free "dict") rfl),
    He.free_ok X G (d.fact 65 (f := .free "enumerate") rfl),
    He.free_ok X G (d.fact 66 (f := .free "int") rfl),
    He.free_ok X G (d.fact 67 (f := .free "isinstance") rfl),
    He.free_ok X G (d.fact 68 (f := .free "len") rfl),
    He.free_ok X G (d.fact 69 (f := .free "range") rfl),
    He.free_ok X G (d.fact 70 (f := .free "sorted") rfl),
    He.free_ok X G (d.fact 72 (f := .free "tuple") rfl),
    He.free_ok X G (d.fact 73 (f := .free "zip") rfl),
    He.int_ok X G (d.fact 6 (f := .int "MOST_CORNER" 999) rfl),
    He.int_ok X G (d.fact 7 (f := .int "MOST_CORNERS" 7) rfl),
    He.int_ok X G (d.fact 8 (f := .int "MOST_SIDES" 600) rfl),
    He.cls_ok (d.fact 75 (f := .cls "Web") rfl),
    He.noat_ok (d.fact 77 (f := .noat "Web" "tops") rfl),
    He.noat_ok (d.fact 78 (f := .noat "Web" "lots") rfl),
    He.noat_ok (d.fact 79 (f := .noat "Web" "known") rfl),
    ⟨insW c.more (He.cls_ok (d.fact 75 (f := .cls "Web") rfl)), He.glo_ok X G (d.fact 74 (f := .glo "Web") rfl), (He.mkr_ok (d.fact 76 (f := .mkr "Web") rfl)).kp⟩⟩
  obtain ⟨fd_walls_of, F_walls_of⟩ := d.def_ 8 (d := Hd.d_walls_of) rfl
  obtain ⟨fd_check_walls, F_check_walls⟩ := d.def_ 13 (d := Hd.d_check_walls) rfl
  obtain ⟨fd_is_ascending, F_is_ascending⟩ := d.def_ 5 (d := Hd.d_is_ascending) rfl
  obtain ⟨fd_parts_of, F_parts_of⟩ := d.def_ 7 (d := Hd.d_parts_of) rfl
  obtain ⟨fd_is_integer, F_is_integer⟩ := d.def_ 0 (d := Hd.d_is_integer) rfl
  obtain ⟨fd_is_number, F_is_number⟩ := d.def_ 1 (d := Hd.d_is_number) rfl
  obtain ⟨fd_is_side_form, F_is_side_form⟩ := d.def_ 6 (d := Hd.d_is_side_form) rfl
  obtain ⟨fd_is_within, F_is_within⟩ := d.def_ 9 (d := Hd.d_is_within) rfl
  obtain ⟨fd_check_tops, F_check_tops⟩ := d.def_ 12 (d := Hd.d_check_tops) rfl
  obtain ⟨fd_Web, F_Web⟩ := d.def_ 10 (d := Hd.d_Web_init) rfl
  obtain ⟨fd_is_from_nought, F_is_from_nought⟩ := d.def_ 2 (d := Hd.d_is_from_nought) rfl
  obtain ⟨fd_is_modulus, F_is_modulus⟩ := d.def_ 3 (d := Hd.d_is_modulus) rfl
  obtain ⟨fd_is_pair, F_is_pair⟩ := d.def_ 4 (d := Hd.d_is_pair) rfl
  obtain ⟨fd_degree_asked, F_degree_asked⟩ := d.def_ 14 (d := Hd.d_degree_asked) rfl
  obtain ⟨fd_sides_of, F_sides_of⟩ := d.def_ 15 (d := Hd.d_sides_of) rfl
  obtain ⟨fd_modulus_asked, F_modulus_asked⟩ := d.def_ 16 (d := Hd.d_modulus_asked) rfl
  obtain ⟨fd_is_worth, F_is_worth⟩ := d.def_ 17 (d := Hd.d_is_worth) rfl
  obtain ⟨fd_is_sum_of_sides, F_is_sum_of_sides⟩ := d.def_ 18 (d := Hd.d_is_sum_of_sides) rfl
  obtain ⟨fd_chain_asked, F_chain_asked⟩ := d.def_ 19 (d := Hd.d_chain_asked) rfl
  obtain ⟨fd_chain_of, F_chain_of⟩ := d.def_ 20 (d := Hd.d_chain_of) rfl
  obtain ⟨fd_corners_once, F_corners_once⟩ := d.def_ 21 (d := Hd.d_corners_once) rfl
  obtain ⟨fd_in_order, F_in_order⟩ := d.def_ 22 (d := Hd.d_in_order) rfl
  obtain ⟨fd_has_form_of_map, F_has_form_of_map⟩ := d.def_ 23 (d := Hd.d_has_form_of_map) rfl
  obtain ⟨fd_maps, F_maps⟩ := d.def_ 24 (d := Hd.d_maps) rfl
  obtain ⟨fd_is_map, F_is_map⟩ := d.def_ 25 (d := Hd.d_is_map) rfl
  obtain ⟨fd_map_asked, F_map_asked⟩ := d.def_ 26 (d := Hd.d_map_asked) rfl
  obtain ⟨fd_put_row, F_put_row⟩ := d.def_ 27 (d := Hd.d_put_row) rfl
  obtain ⟨fd_led, F_led⟩ := d.def_ 28 (d := Hd.d_led) rfl
  obtain ⟨fd_led_chain, F_led_chain⟩ := d.def_ 29 (d := Hd.d_led_chain) rfl
  obtain ⟨fd_behind, F_behind⟩ := d.def_ 30 (d := Hd.d_behind) rfl
  obtain ⟨fd_tops_by_wall, F_tops_by_wall⟩ := d.def_ 31 (d := Hd.d_tops_by_wall) rfl
  obtain ⟨fd_sign_in, F_sign_in⟩ := d.def_ 32 (d := Hd.d_sign_in) rfl
  obtain ⟨fd_mates_of, F_mates_of⟩ := d.def_ 33 (d := Hd.d_mates_of) rfl
  obtain ⟨fd_walked_from_first, F_walked_from_first⟩ := d.def_ 34 (d := Hd.d_walked_from_first) rfl
  obtain ⟨fd_is_sheet, F_is_sheet⟩ := d.def_ 35 (d := Hd.d_is_sheet) rfl
  obtain ⟨fd_sheet_asked, F_sheet_asked⟩ := d.def_ 36 (d := Hd.d_sheet_asked) rfl
  obtain ⟨fd_rim_walls, F_rim_walls⟩ := d.def_ 37 (d := Hd.d_rim_walls) rfl
  obtain ⟨fd_way_back, F_way_back⟩ := d.def_ 38 (d := Hd.d_way_back) rfl
  obtain ⟨fd_turned_ring, F_turned_ring⟩ := d.def_ 39 (d := Hd.d_turned_ring) rfl
  obtain ⟨fd_told_signs, F_told_signs⟩ := d.def_ 40 (d := Hd.d_told_signs) rfl
  obtain ⟨fd_whole_chain, F_whole_chain⟩ := d.def_ 41 (d := Hd.d_whole_chain) rfl
  obtain ⟨fd_closed_sheet_asked, F_closed_sheet_asked⟩ := d.def_ 42 (d := Hd.d_closed_sheet_asked) rfl
  obtain ⟨fd_turns_sign, F_turns_sign⟩ := d.def_ 43 (d := Hd.d_turns_sign) rfl
  obtain ⟨fd_led_sign, F_led_sign⟩ := d.def_ 44 (d := Hd.d_led_sign) rfl
  obtain ⟨fd_degree_of, F_degree_of⟩ := d.def_ 45 (d := Hd.d_degree_of) rfl
  obtain ⟨fd_law_hand, F_law_hand⟩ := d.def_ 46 (d := Hd.d_law_hand) rfl
  obtain ⟨fd_law_draw, F_law_draw⟩ := d.def_ 47 (d := Hd.d_law_draw) rfl
  obtain ⟨fd_law_parts, F_law_parts⟩ := d.def_ 48 (d := Hd.d_law_parts) rfl
  obtain ⟨fd_law_rims, F_law_rims⟩ := d.def_ 50 (d := Hd.d_law_rims) rfl
  obtain ⟨fd_law_web, F_law_web⟩ := d.def_ 49 (d := Hd.d_law_web) rfl
  obtain ⟨fd_law_chain, F_law_chain⟩ := d.def_ 51 (d := Hd.d_law_chain) rfl
  obtain ⟨fd_law_sum, F_law_sum⟩ := d.def_ 52 (d := Hd.d_law_sum) rfl
  obtain ⟨fd_law_ring, F_law_ring⟩ := d.def_ 53 (d := Hd.d_law_ring) rfl
  obtain ⟨fd_law_walk, F_law_walk⟩ := d.def_ 54 (d := Hd.d_law_walk) rfl
  obtain ⟨fd_law_round, F_law_round⟩ := d.def_ 55 (d := Hd.d_law_round) rfl
  obtain ⟨fd_law_up, F_law_up⟩ := d.def_ 56 (d := Hd.d_law_up) rfl
  obtain ⟨fd_law, F_law⟩ := d.def_ 57 (d := Hd.d_law) rfl
  refine ⟨fd_law, fun s v => FunD.bindsA (ps := ["script"]) F_law (fun _ _ _ _ _ _ us hl => match us, hl with | [_], _ => rfl) s [v] rfl, fun base => ?_⟩
  have c_walls_of := (ok_walls_of (P := P) (w := w) (base := base) U F_walls_of (He.glo_ok X G (d.fact 11 (f := .glo "walls_of") rfl)) )
  have c_check_walls := (ok_check_walls (P := P) (w := w) (base := base) U F_check_walls (He.glo_ok X G (d.fact 14 (f := .glo "check_walls") rfl)) c_walls_of)
  have c_is_ascending := (ok_is_ascending (P := P) (w := w) (base := base) U F_is_ascending (He.glo_ok X G (d.fact 5 (f := .glo "is_ascending") rfl)) )
  have c_parts_of := (ok_parts_of (P := P) (w := w) (base := base) U F_parts_of (He.glo_ok X G (d.fact 10 (f := .glo "parts_of") rfl)) )
  have c_is_integer := (ok_is_integer (P := P) (w := w) (base := base) U F_is_integer (He.glo_ok X G (d.fact 0 (f := .glo "is_integer") rfl)) )
  have c_is_number := (ok_is_number (P := P) (w := w) (base := base) U F_is_number (He.glo_ok X G (d.fact 1 (f := .glo "is_number") rfl)) c_is_integer)
  have c_is_side_form := (ok_is_side_form (P := P) (w := w) (base := base) U F_is_side_form (He.glo_ok X G (d.fact 9 (f := .glo "is_side_form") rfl)) c_is_ascending c_is_number)
  have c_is_within := (ok_is_within (P := P) (w := w) (base := base) U F_is_within (He.glo_ok X G (d.fact 12 (f := .glo "is_within") rfl)) )
  have c_check_tops := (ok_check_tops (P := P) (w := w) (base := base) U F_check_tops (He.glo_ok X G (d.fact 13 (f := .glo "check_tops") rfl)) c_is_within)
  have c_Web := (ok_Web (P := P) (w := w) (base := base) U (He.mkr_ok (d.fact 76 (f := .mkr "Web") rfl)) F_Web c_check_tops c_check_walls c_is_ascending c_is_side_form c_parts_of)
  have c_is_from_nought := (ok_is_from_nought (P := P) (w := w) (base := base) U F_is_from_nought (He.glo_ok X G (d.fact 2 (f := .glo "is_from_nought") rfl)) c_is_integer)
  have c_is_modulus := (ok_is_modulus (P := P) (w := w) (base := base) U F_is_modulus (He.glo_ok X G (d.fact 3 (f := .glo "is_modulus") rfl)) c_is_number)
  have c_is_pair := (ok_is_pair (P := P) (w := w) (base := base) U F_is_pair (He.glo_ok X G (d.fact 4 (f := .glo "is_pair") rfl)) )
  have c_degree_asked := (ok_degree_asked (P := P) (w := w) (base := base) U F_degree_asked (He.glo_ok X G (d.fact 15 (f := .glo "degree_asked") rfl)) c_is_from_nought)
  have c_sides_of := (ok_sides_of (P := P) (w := w) (base := base) U F_sides_of (He.glo_ok X G (d.fact 16 (f := .glo "sides_of") rfl)) )
  have c_modulus_asked := (ok_modulus_asked (P := P) (w := w) (base := base) U F_modulus_asked (He.glo_ok X G (d.fact 17 (f := .glo "modulus_asked") rfl)) c_is_modulus)
  have c_is_worth := (ok_is_worth (P := P) (w := w) (base := base) U F_is_worth (He.glo_ok X G (d.fact 18 (f := .glo "is_worth") rfl)) c_is_integer)
  have c_is_sum_of_sides := (ok_is_sum_of_sides (P := P) (w := w) (base := base) U F_is_sum_of_sides (He.glo_ok X G (d.fact 19 (f := .glo "is_sum_of_sides") rfl)) c_is_ascending c_is_pair c_is_side_form c_is_worth)
  have c_chain_asked := (ok_chain_asked (P := P) (w := w) (base := base) U F_chain_asked (He.glo_ok X G (d.fact 20 (f := .glo "chain_asked") rfl)) c_is_sum_of_sides)
  have c_chain_of := (ok_chain_of (P := P) (w := w) (base := base) U F_chain_of (He.glo_ok X G (d.fact 21 (f := .glo "chain_of") rfl)) )
  have c_corners_once := (ok_corners_once (P := P) (w := w) (base := base) U F_corners_once (He.glo_ok X G (d.fact 22 (f := .glo "corners_once") rfl)) )
  have c_in_order := (ok_in_order (P := P) (w := w) (base := base) U F_in_order (He.glo_ok X G (d.fact 23 (f := .glo "in_order") rfl)) c_corners_once)
  have c_has_form_of_map := (ok_has_form_of_map (P := P) (w := w) (base := base) U F_has_form_of_map (He.glo_ok X G (d.fact 24 (f := .glo "has_form_of_map") rfl)) c_is_ascending c_is_integer c_is_pair)
  have c_maps := (ok_maps (P := P) (w := w) (base := base) U F_maps (He.glo_ok X G (d.fact 25 (f := .glo "maps") rfl)) c_corners_once c_has_form_of_map c_sides_of)
  have c_is_map := (ok_is_map (P := P) (w := w) (base := base) U F_is_map (He.glo_ok X G (d.fact 26 (f := .glo "is_map") rfl)) c_maps)
  have c_map_asked := (ok_map_asked (P := P) (w := w) (base := base) U F_map_asked (He.glo_ok X G (d.fact 27 (f := .glo "map_asked") rfl)) c_maps)
  have c_put_row := (ok_put_row (P := P) (w := w) (base := base) U F_put_row (He.glo_ok X G (d.fact 28 (f := .glo "put_row") rfl)) c_in_order)
  have c_led := (ok_led (P := P) (w := w) (base := base) U F_led (He.glo_ok X G (d.fact 29 (f := .glo "led") rfl)) c_chain_of c_put_row)
  have c_led_chain := (ok_led_chain (P := P) (w := w) (base := base) U F_led_chain (He.glo_ok X G (d.fact 30 (f := .glo "led_chain") rfl)) c_chain_asked c_degree_asked c_led c_map_asked c_modulus_asked)
  have c_behind := (ok_behind (P := P) (w := w) (base := base) U F_behind (He.glo_ok X G (d.fact 31 (f := .glo "behind") rfl)) c_map_asked)
  have c_tops_by_wall := (ok_tops_by_wall (P := P) (w := w) (base := base) U F_tops_by_wall (He.glo_ok X G (d.fact 32 (f := .glo "tops_by_wall") rfl)) c_walls_of)
  have c_sign_in := (ok_sign_in (P := P) (w := w) (base := base) U F_sign_in (He.glo_ok X G (d.fact 33 (f := .glo "sign_in") rfl)) c_walls_of)
  have c_mates_of := (ok_mates_of (P := P) (w := w) (base := base) U F_mates_of (He.glo_ok X G (d.fact 34 (f := .glo "mates_of") rfl)) c_sign_in c_tops_by_wall)
  have c_walked_from_first := (ok_walked_from_first (P := P) (w := w) (base := base) U F_walked_from_first (He.glo_ok X G (d.fact 35 (f := .glo "walked_from_first") rfl)) c_mates_of)
  have c_is_sheet := (ok_is_sheet (P := P) (w := w) (base := base) U F_is_sheet (He.glo_ok X G (d.fact 36 (f := .glo "is_sheet") rfl)) c_tops_by_wall c_walked_from_first)
  have c_sheet_asked := (ok_sheet_asked (P := P) (w := w) (base := base) U F_sheet_asked (He.glo_ok X G (d.fact 37 (f := .glo "sheet_asked") rfl)) c_is_sheet)
  have c_rim_walls := (ok_rim_walls (P := P) (w := w) (base := base) U F_rim_walls (He.glo_ok X G (d.fact 38 (f := .glo "rim_walls") rfl)) c_tops_by_wall)
  have c_way_back := (ok_way_back (P := P) (w := w) (base := base) U F_way_back (He.glo_ok X G (d.fact 39 (f := .glo "way_back") rfl)) )
  have c_turned_ring := (ok_turned_ring (P := P) (w := w) (base := base) U F_turned_ring (He.glo_ok X G (d.fact 40 (f := .glo "turned_ring") rfl)) c_mates_of c_way_back)
  have c_told_signs := (ok_told_signs (P := P) (w := w) (base := base) U F_told_signs (He.glo_ok X G (d.fact 41 (f := .glo "told_signs") rfl)) c_turned_ring c_walked_from_first)
  have c_whole_chain := (ok_whole_chain (P := P) (w := w) (base := base) U F_whole_chain (He.glo_ok X G (d.fact 42 (f := .glo "whole_chain") rfl)) c_sheet_asked c_told_signs)
  have c_closed_sheet_asked := (ok_closed_sheet_asked (P := P) (w := w) (base := base) U F_closed_sheet_asked (He.glo_ok X G (d.fact 43 (f := .glo "closed_sheet_asked") rfl)) c_rim_walls c_sheet_asked)
  have c_turns_sign := (ok_turns_sign (P := P) (w := w) (base := base) U F_turns_sign (He.glo_ok X G (d.fact 44 (f := .glo "turns_sign") rfl)) )
  have c_led_sign := (ok_led_sign (P := P) (w := w) (base := base) U F_led_sign (He.glo_ok X G (d.fact 45 (f := .glo "led_sign") rfl)) c_turns_sign)
  have c_degree_of := (ok_degree_of (P := P) (w := w) (base := base) U F_degree_of (He.glo_ok X G (d.fact 46 (f := .glo "degree_of") rfl)) c_closed_sheet_asked c_is_map c_led_sign c_told_signs)
  have c_law_hand := (ok_law_hand (P := P) (w := w) (base := base) U F_law_hand (He.glo_ok X G (d.fact 47 (f := .glo "_law_hand") rfl)) )
  have c_law_draw := (ok_law_draw (P := P) (w := w) (base := base) U F_law_draw (He.glo_ok X G (d.fact 48 (f := .glo "_law_draw") rfl)) )
  have c_law_parts := (ok_law_parts (P := P) (w := w) (base := base) U F_law_parts (He.glo_ok X G (d.fact 49 (f := .glo "_law_parts") rfl)) )
  have c_law_rims := (ok_law_rims (P := P) (w := w) (base := base) U F_law_rims (He.glo_ok X G (d.fact 51 (f := .glo "_law_rims") rfl)) )
  have c_law_web := (ok_law_web (P := P) (w := w) (base := base) U F_law_web (He.glo_ok X G (d.fact 50 (f := .glo "_law_web") rfl)) c_law_parts c_law_rims)
  have c_law_chain := (ok_law_chain (P := P) (w := w) (base := base) U F_law_chain (He.glo_ok X G (d.fact 52 (f := .glo "_law_chain") rfl)) )
  have c_law_sum := (ok_law_sum (P := P) (w := w) (base := base) U F_law_sum (He.glo_ok X G (d.fact 53 (f := .glo "_law_sum") rfl)) c_law_chain)
  have c_law_ring := (ok_law_ring (P := P) (w := w) (base := base) U F_law_ring (He.glo_ok X G (d.fact 54 (f := .glo "_law_ring") rfl)) c_law_web)
  have c_law_walk := (ok_law_walk (P := P) (w := w) (base := base) U F_law_walk (He.glo_ok X G (d.fact 55 (f := .glo "_law_walk") rfl)) c_law_draw)
  have c_law_round := (ok_law_round (P := P) (w := w) (base := base) U F_law_round (He.glo_ok X G (d.fact 56 (f := .glo "_law_round") rfl)) )
  have c_law_up := (ok_law_up (P := P) (w := w) (base := base) U F_law_up (He.glo_ok X G (d.fact 57 (f := .glo "_law_up") rfl)) )
  exact ok_law (P := P) (w := w) (base := base) U F_law (He.glo_ok X G (d.fact 58 (f := .glo "law") rfl)) c_Web c_law_draw c_law_hand c_law_ring c_law_round c_law_sum c_law_up c_law_walk c_law_web c_behind c_degree_of c_is_map c_led_chain c_whole_chain
end Wk
end

section
set_option Elab.async false
set_option linter.all false
set_option maxRecDepth 100000
namespace Pl
open PySem PySem.Spec L2 Ev Wk
set_option autoImplicit false
def hnd (b : Bool) (cs : List Int) (i x y c : Int) : S := .ls b [.lst (cs.map D.int), .int i, .int x, .int y, .int c]
def HandOk (b : Bool) (s : S) : Prop := ∃ cs i x y c, s = hnd b cs i x y c ∧ 0 ≤ i
/-- the part behind the taking of a cell -/
theorem at0 (a b c d e : D) : atI [a, b, c, d, e] 0 = some a := rfl
theorem at1 (a b c d e : D) : atI [a, b, c, d, e] 1 = some b := rfl
theorem at2 (a b c d e : D) : atI [a, b, c, d, e] 2 = some c := rfl
theorem at3 (a b c d e : D) : atI [a, b, c, d, e] 3 = some d := rfl
theorem at4 (a b c d e : D) : atI [a, b, c, d, e] 4 = some e := rfl
theorem ix0 : ixN 5 0 = some 0 := rfl
theorem ix1 : ixN 5 1 = some 1 := rfl
theorem ix2 : ixN 5 2 = some 2 := rfl
theorem ix3 : ixN 5 3 = some 3 := rfl
theorem ix4 : ixN 5 4 = some 4 := rfl
theorem draw_x (cs : List Int) (i x y c n : Int) (hx : 0 < x) (hn : 0 < n) (hn2 : n < 1073741824) : g_law_draw (hnd true cs i x y c) [.int n] = some (.imm (.int (x % n)), hnd true cs i (x / n) y c) := by
  have hi : ¬ (x = 0) := by omega
  have e1 : (x == 0) = false := by simp [hi]
  simp [g_law_draw, runI, startF, hnd, S.setIo, m_law_draw, mSeq, mIf, bAnd, mT, m2, m1, mFz, A.two, A.one, A.go, A.fin, vw, mC, mV, S.toD, fIx, fEq, D.sh, D.pl, D.dp, D.eqv, hi, e1, at0, at1, at2, at3, at4, ix0, ix1, ix2, ix3, ix4, mNx, fI2, hx, mSet, mPut, fInt, fI2c, cPos, cDv, hn, hn2, okSet, mRet, mMv, S.io, S.own]
theorem sml_of {i : Int} (h : 0 ≤ i) (k : i < 2147483648) : sml i = true := by
  unfold sml; simp; omega
def num (y c : Int) : Int := (y + 7919 * (c + 1)) * 40692 % 2147483399
def dig (y c n : Int) : Int := num y c * (num y c / 1009 + 30011) % 2147483647 / 32 % n
theorem draw_b (cs : List Int) (i x y c n : Int) (hx : x < 0) (hn : 0 < n) (hn2 : n < 1073741824) : g_law_draw (hnd true cs i x y c) [.int n] = some (.imm (.int (dig y c n)), hnd true cs i x y (c + 1)) := by
  have hi : ¬ (x = 0) := by omega
  have e1 : (x == 0) = false := by simp [hi]
  have e2 : ¬ (0 < x) := by omega
  have s0 : sml 7919 = true := by decide
  have s1 : sml 40692 = true := by decide
  have s2 : sml ((y + 7919 * (c + 1)) * 40692 % 2147483399) = true := sml_of (Int.emod_nonneg _ (by decide)) (Int.lt_trans (Int.emod_lt_of_pos _ (by decide)) (by decide))
  simp [g_law_draw, runI, startF, hnd, S.setIo, m_law_draw, mSeq, mIf, bAnd, mT, m2, m1, mFz, A.two, A.one, A.go, A.fin, vw, mC, mV, S.toD, fIx, fEq, D.sh, D.pl, D.dp, D.eqv, hi, e1, at0, at1, at2, at3, at4, ix0, ix1, ix2, ix3, ix4, mNx, fI2, e2, mSet, mPut, fInt, fI2c, cPos, cDv, hn, hn2, okSet, mRet, mMv, S.io, S.own, fAdd, fMul, cMul, s0, s1, s2, num, dig]
/-- no cell is left -/
theorem draw_c (cs : List Int) (i y c n : Int) (hc : (cs.length : Int) ≤ i) (hn : 0 < n) (hn2 : n < 1073741824) : g_law_draw (hnd true cs i 0 y c) [.int n] = some (.imm (.int (dig y c n)), hnd true cs i 0 y (c + 1)) := by
  have e2 : ¬ (i < (cs.length : Int)) := by omega
  have s0 : sml 7919 = true := by decide
  have s1 : sml 40692 = true := by decide
  have s2 : sml ((y + 7919 * (c + 1)) * 40692 % 2147483399) = true := sml_of (Int.emod_nonneg _ (by decide)) (Int.lt_trans (Int.emod_lt_of_pos _ (by decide)) (by decide))
  simp [g_law_draw, runI, startF, hnd, S.setIo, m_law_draw, mSeq, mIf, bAnd, mT, m2, m1, mFz, A.two, A.one, A.go, A.fin, vw, mC, mV, S.toD, fIx, fEq, D.sh, D.pl, D.dp, D.eqv, at0, at1, at2, at3, at4, ix0, ix1, ix2, ix3, ix4, mNx, fI2, mSet, mPut, fInt, fI2c, cPos, cDv, hn, hn2, okSet, mRet, mMv, S.io, S.own, fAdd, fMul, cMul, s0, s1, s2, num, dig, fLen, fLt, e2]
def nexty (y z : Int) : Int := (y * 48271 + z % 2147483629 * 69621 + 17) % 2147483629
theorem pw15 : cPw 10 15 = true := by decide
theorem draw_d (cs : List Int) (i y c n z : Int) (hc : i < (cs.length : Int)) (hz : atI (cs.map D.int) i = some (.int z)) (h15 : 1000000000000000 ≤ z) (hn : 0 < n) (hn2 : n < 1073741824) : g_law_draw (hnd true cs i 0 y c) [.int n] = some (.imm (.int (z % n)), hnd true cs (i + 1) (z / n) (nexty y z) c) := by
  have s0 : sml 48271 = true := by decide
  have s1 : sml 69621 = true := by decide
  have z0 : 0 < z := by omega
  simp [g_law_draw, runI, startF, hnd, S.setIo, m_law_draw, mSeq, mIf, bAnd, mT, m2, m1, mFz, A.two, A.one, A.go, A.fin, vw, mC, mV, S.toD, fIx, fEq, D.sh, D.pl, D.dp, D.eqv, at0, at1, at2, at3, at4, ix0, ix1, ix2, ix3, ix4, mNx, fI2, mSet, mPut, fInt, fI2c, cPos, cDv, hn, hn2, okSet, mRet, mMv, S.io, S.own, fAdd, fMul, cMul, s0, s1, num, dig, fLen, fLt, hc, hz, h15, z0, pw15, nexty]
theorem draw_e (cs : List Int) (i y c n z : Int) (hc : i < (cs.length : Int)) (hz : atI (cs.map D.int) i = some (.int z)) (h15 : z < 1000000000000000) (hn : 0 < n) (hn2 : n < 1073741824) : g_law_draw (hnd true cs i 0 y c) [.int n] = some (.imm (.int (dig (nexty y z) c n)), hnd true cs (i + 1) 0 (nexty y z) (c + 1)) := by
  have s0 : sml 48271 = true := by decide
  have s1 : sml 69621 = true := by decide
  have s3 : sml 7919 = true := by decide
  have s4 : sml 40692 = true := by decide
  have s2 : sml (((y * 48271 + z % 2147483629 * 69621 + 17) % 2147483629 + 7919 * (c + 1)) * 40692 % 2147483399) = true := sml_of (Int.emod_nonneg _ (by decide)) (Int.lt_trans (Int.emod_lt_of_pos _ (by decide)) (by decide))
  have h16 : ¬ (1000000000000000 ≤ z) := by omega
  simp [g_law_draw, runI, startF, hnd, S.setIo, m_law_draw, mSeq, mIf, bAnd, mT, m2, m1, mFz, A.two, A.one, A.go, A.fin, vw, mC, mV, S.toD, fIx, fEq, D.sh, D.pl, D.dp, D.eqv, at0, at1, at2, at3, at4, ix0, ix1, ix2, ix3, ix4, mNx, fI2, mSet, mPut, fInt, fI2c, cPos, cDv, hn, hn2, okSet, mRet, mMv, S.io, S.own, fAdd, fMul, cMul, s0, s1, num, dig, fLen, fLt, hc, hz, h16, pw15, nexty, s2, s3, s4]
theorem dig_ok (y c n : Int) (hn : 0 < n) : 0 ≤ dig y c n ∧ dig y c n < n := ⟨Int.emod_nonneg _ (by omega), Int.emod_lt_of_pos _ hn⟩
theorem mod_ok (x n : Int) (hn : 0 < n) : 0 ≤ x % n ∧ x % n < n := ⟨Int.emod_nonneg _ (by omega), Int.emod_lt_of_pos _ hn⟩
/-- a draw tells a digit and leaves a hand -/
theorem draw_ok {s : S} {n : Int} (h : HandOk true s) (hn : 0 < n) (hn2 : n < 1073741824) : ∃ d s', g_law_draw s [.int n] = some (.imm (.int d), s') ∧ 0 ≤ d ∧ d < n ∧ HandOk true s' := by
  obtain ⟨cs, i, x, y, c, rfl, hi⟩ := h
  rcases Int.lt_trichotomy x 0 with hx | hx | hx
  · exact ⟨_, _, draw_b cs i x y c n hx hn hn2, (dig_ok y c n hn).1, (dig_ok y c n hn).2, cs, i, x, y, _, rfl, hi⟩
  · subst hx
    by_cases hc : i < (cs.length : Int)
    · have hk : i.toNat < cs.length := by omega
      have hz : atI (cs.map D.int) i = some (.int cs[i.toNat]) := by
        unfold atI ixN
        rw [if_pos hi, if_pos (by rw [List.length_map]; exact hc)]
        show (cs.map D.int)[i.toNat]? = _
        rw [List.getElem?_map, List.getElem?_eq_getElem hk]; rfl
      by_cases h15 : 1000000000000000 ≤ cs[i.toNat]
      · exact ⟨_, _, draw_d cs i y c n _ hc hz h15 hn hn2, (mod_ok _ n hn).1, (mod_ok _ n hn).2, cs, i + 1, _, _, _, rfl, by omega⟩
      · exact ⟨_, _, draw_e cs i y c n _ hc hz (by omega) hn hn2, (dig_ok _ _ n hn).1, (dig_ok _ _ n hn).2, cs, i + 1, _, _, _, rfl, by omega⟩
    · exact ⟨_, _, draw_c cs i y c n (by omega) hn hn2, (dig_ok _ _ n hn).1, (dig_ok _ _ n hn).2, cs, i, _, _, _, rfl, hi⟩
  · exact ⟨_, _, draw_x cs i x y c n hx hn hn2, (mod_ok x n hn).1, (mod_ok x n hn).2, cs, i, _, y, c, rfl, hi⟩
theorem draw_any {b : Bool} {s : S} {n : Int} (h : HandOk b s) (hn : 0 < n) (hn2 : n < 1073741824) : ∃ d s', g_law_draw s [.int n] = some (.imm (.int d), s') ∧ 0 ≤ d ∧ d < n ∧ HandOk true s' := by
  obtain ⟨cs, i, x, y, c, rfl, hi⟩ := h
  exact draw_ok (s := hnd true cs i x y c) ⟨cs, i, x, y, c, rfl, hi⟩ hn hn2
theorem HandOk.io {b b' : Bool} {s : S} (h : HandOk b s) : HandOk b' (s.setIo b') := by
  obtain ⟨cs, i, x, y, c, rfl, hi⟩ := h
  exact ⟨cs, i, x, y, c, rfl, hi⟩
theorem HandOk.ls {b : Bool} {s : S} (h : HandOk b s) : s.own = true ∧ s.io = b := by
  obtain ⟨cs, i, x, y, c, rfl, hi⟩ := h
  exact ⟨rfl, rfl⟩
theorem call_drawS {b : Bool} {j : Nat} {σ : Fr} {s : S} {n : Int} {ms : List (M D)} (hm : mL ms σ = some ([.int n], σ)) (e : σ[j]? = some (some s)) (h : HandOk b s) (hn : 0 < n) (hn2 : n < 1073741824) :
    ∃ d s', mCallI j 2 g_law_draw ms σ = some (.imm (.int d), σ.set j (some s')) ∧ 0 ≤ d ∧ d < n ∧ HandOk b s' := by
  obtain ⟨d, s', h1, h2, h3, h4⟩ := draw_any h hn hn2
  refine ⟨d, s'.setIo b, ?_, h2, h3, h4.io⟩
  unfold mCallI
  simp only [e, hm, h.ls.1, h.ls.2, h1]
  rfl
/-- a draw as an expression, from the hand in slot j -/
theorem call_draw {b : Bool} {j : Nat} {σ : Fr} {s : S} {n : Int} {ms : List (M D)} (hm : mL ms σ = some ([.int n], σ)) (e : σ[j]? = some (some s)) (h : HandOk b s) (hn : 0 < n) (hn2 : n < 1073741824) :
    ∃ d s', mFz (mCallI j 2 g_law_draw ms) σ = some (.int d, σ.set j (some s')) ∧ 0 ≤ d ∧ d < n ∧ HandOk b s' := by
  obtain ⟨d, s', h1, h2, h3, h4⟩ := draw_any h hn hn2
  refine ⟨d, s'.setIo b, ?_, h2, h3, h4.io⟩
  unfold mFz mCallI
  simp only [e, hm, h.ls.1, h.ls.2, h1]
  rfl
end Pl
end

section
set_option Elab.async false
set_option linter.all false
set_option maxRecDepth 100000
namespace Pl
open PySem PySem.Spec L2 Ev Wk
set_option autoImplicit false
/-- a row of places, each next to the one ahead -/
def Steps (ws : List Int) : Prop := ∀ (i : Nat) (a b : Int), ws[i]? = some a → ws[i + 1]? = some b → b - a = 1 ∨ b - a = 0 ∨ b - a = -1
theorem Steps.snoc {ws : List Int} {p q : Int} (h : Steps (ws ++ [p])) (hq : q - p = 1 ∨ q - p = 0 ∨ q - p = -1) : Steps (ws ++ [p] ++ [q]) := fun i a b ha hb => by
  have hl : i + 1 < (ws ++ [p] ++ [q]).length := (List.getElem?_eq_some_iff.mp hb).1
  simp only [List.length_append, List.length_cons, List.length_nil] at hl
  rw [List.getElem?_append_left (by simp; omega)] at ha
  by_cases hi : i + 1 < (ws ++ [p]).length
  · rw [List.getElem?_append_left hi] at hb
    exact h i a b ha hb
  · simp only [List.length_append, List.length_cons, List.length_nil] at hi
    have e : i = ws.length := by omega
    subst e
    rw [List.getElem?_append_right (by simp)] at hb
    rw [List.getElem?_append_right (by simp)] at ha
    simp at ha hb
    subst ha hb
    exact hq
def stepM : M Fl := (mSeq (mSet 3 (mIf (mT (m2 (fI2 fun i j => .bl (decide (j < i))) (.pk 5) (.val (mC (.int 0))))) (m2 fAdd (.pk 3) (.val (mFz (m2 fIx (.val (mFz (mLst [(mC (.int 1)), (mC (.int 1)), (mFz (m1 fNeg (.val (mC (.int 1))))), (mC (.int 0))]))) (.val (mFz (mCallI 0 2 g_law_draw [(mC (.int 4))]))))))) (m2 fAdd (.pk 3) (.val (mC (.int 1)))))) (mDrop (mApp 4 (mV 3))))
def wf (h : S) (m s p : Int) (ws : List Int) (rise : Int) (k : Option S) : Fr := [some h, some (.imm (.int m)), some (.imm (.int s)), some (.imm (.int p)), some (.ls false (ws.map D.int)), some (.imm (.int rise)), k]
theorem fours (d : Int) (h0 : 0 ≤ d) (h4 : d < 4) : ∃ q : Int, atI [D.int 1, .int 1, .int (-1), .int 0] d = some (.int q) ∧ (q = 1 ∨ q = 0 ∨ q = -1) := by
  have : d = 0 ∨ d = 1 ∨ d = 2 ∨ d = 3 := by omega
  rcases this with rfl | rfl | rfl | rfl
  · exact ⟨1, rfl, .inl rfl⟩
  · exact ⟨1, rfl, .inl rfl⟩
  · exact ⟨-1, rfl, .inr (.inr rfl)⟩
  · exact ⟨0, rfl, .inr (.inl rfl)⟩
theorem step_ok {h : S} {m s p rise : Int} {ws : List Int} {k : Option S} (hh : HandOk true h) (hl : ws.length < 100) : ∃ q h', stepM (wf h m s p ws rise k) = some (.nx, wf h' m s q (ws ++ [q]) rise k) ∧ HandOk true h' ∧ (q - p = 1 ∨ q - p = 0 ∨ q - p = -1) := by
  have hL : ws.length < LIM := Nat.lt_of_lt_of_le hl (by decide)
  have l4 : 4 ≤ LIM := by decide
  by_cases hr : 0 < rise
  · obtain ⟨d, h', h1, h2, h3, h4⟩ := call_drawS (j := 0) (σ := wf h m s p ws rise k) (ms := [mC (.int 4)]) (n := 4) rfl rfl hh (by decide) (by decide)
    obtain ⟨z, z1, z2⟩ := fours d h2 h3
    refine ⟨p + z, h', ?_, h4, by omega⟩
    unfold stepM
    simp [mSeq, mSet, mIf, mT, m2, A.two, A.go, A.fin, vw, wf, mC, S.toD, fI2, hr, mFz, mLst, mL, m1, A.one, fNeg] at h1 ⊢
    simp [mSeq, mSet, mIf, mT, m2, A.two, A.go, A.fin, vw, wf, mC, S.toD, fI2, hr, mFz, mLst, mL, m1, A.one, fNeg, l4, h1, fIx, z1, fAdd, okSet, S.io, mDrop, mApp, mV, hL]
  · refine ⟨p + 1, h, ?_, hh, by omega⟩
    unfold stepM
    simp [mSeq, mSet, mIf, mT, m2, A.two, A.go, A.fin, vw, wf, mC, S.toD, fI2, hr, mFz, fAdd, okSet, S.io, mDrop, mApp, mV, hL]
theorem loop_ok {m s rise : Int} : ∀ (ds : List Int) {h : S} {p : Int} {ws : List Int} {k : Option S}, HandOk true h → (∀ x, k = some x → x.io = false) → ws.length + ds.length < 100 → Steps (ws ++ [p]) →
    ∃ h' p' ws' k', lpF (.nm 6) stepM (ds.map D.int) (wf h m s p (ws ++ [p]) rise k) = some (.nx, wf h' m s p' (ws' ++ [p']) rise k') ∧ HandOk true h' ∧ Steps (ws' ++ [p']) ∧ ws'.length = ws.length + ds.length ∧ (ws' ++ [p'])[0]? = (ws ++ [p])[0]?
  | [], h, p, ws, k, hh, _, _, hs => ⟨h, p, ws, k, rfl, hh, hs, rfl, rfl⟩
  | d :: ds, h, p, ws, k, hh, hk, hl, hs => by
    obtain ⟨q, h1, e1, hh1, hq⟩ := step_ok (h := h) (m := m) (s := s) (p := p) (rise := rise) (ws := ws ++ [p]) (k := some (.imm (.int d))) hh (by simp at hl ⊢; omega)
    obtain ⟨h', p', ws', k', e2, hh2, hs2, hl2, h0⟩ := loop_ok (m := m) (s := s) (rise := rise) ds (h := h1) (p := q) (ws := ws ++ [p]) (k := some (.imm (.int d))) hh1 (fun x e => by cases e; rfl) (by simp at hl ⊢; omega) (hs.snoc hq)
    refine ⟨h', p', ws', k', ?_, hh2, hs2, by rw [hl2]; simp; omega, by rw [h0]; cases ws <;> rfl⟩
    have ho : okSet (wf h m s p (ws ++ [p]) rise k) 6 = true := by
      cases k with
      | none => rfl
      | some x => show (decide (6 < 7) && !x.io) = true; rw [hk x rfl]; rfl
    have es : (wf h m s p (ws ++ [p]) rise k).set 6 (some (.imm (.int d))) = wf h m s p (ws ++ [p]) rise (some (.imm (.int d))) := rfl
    rw [List.map_cons]
    simp only [lpF, Tg.put, ho, if_true, es, e1]
    exact e2
/-- what a walk is -/
structure WalkOk (m s : Int) (ws : List Int) : Prop where
  len : (ws.length : Int) = m
  first : ∃ a, ws[0]? = some a ∧ 0 ≤ a ∧ a < s
  steps : Steps ws
  close : ∀ a b, ws[0]? = some a → ws[ws.length - 1]? = some b → (b - a) % s = 0 ∨ (b - a) % s = 1 ∨ (b - a) % s = s - 1
def endM : M S := (mIf (mT (m2 (fInA false) (.val (mFz (m2 (fI2c cPos fun i j => .int (i % j)) (.val (mFz (m2 (fI2 fun i j => .int (i - j)) (.val (mFz (m2 fIx (.pk 4) (.val (mFz (m1 fNeg (.val (mC (.int 1))))))))) (.val (mFz (m2 fIx (.pk 4) (.val (mC (.int 0))))))))) (.pk 2)))) (.val (mFz (mTup [(mC (.int 0)), (mC (.int 1)), (mFz (m2 (fI2 fun i j => .int (i - j)) (.pk 2) (.val (mC (.int 1)))))]))))) (mMv 4) (mIm (mC .non)))
theorem atI_map0 (ws : List Int) {a : Int} (h : ws[0]? = some a) : atI (ws.map D.int) 0 = some (.int a) := by
  have hl : 0 < ws.length := (List.getElem?_eq_some_iff.mp h).1
  unfold atI ixN
  rw [if_pos (by decide), if_pos (by rw [List.length_map]; omega)]
  show (ws.map D.int)[0]? = _
  rw [List.getElem?_map, h]; rfl
theorem atI_mapL (ws : List Int) {a : Int} (hl : 0 < ws.length) (h : ws[ws.length - 1]? = some a) : atI (ws.map D.int) (-1) = some (.int a) := by
  unfold atI ixN
  rw [if_neg (by decide), if_pos (by rw [List.length_map]; omega)]
  show (ws.map D.int)[(-1 + ((ws.map D.int).length : Int)).toNat]? = _
  have e : (-1 + ((ws.map D.int).length : Int)).toNat = ws.length - 1 := by rw [List.length_map]; omega
  rw [e, List.getElem?_map, h]; rfl
theorem end_ok {h : S} {m s p rise a l : Int} {ws : List Int} {k : Option S} (hs : 0 < s) (h0 : ws[0]? = some a) (h1 : ws[ws.length - 1]? = some l) :
    endM (wf h m s p ws rise k) = some (if (l - a) % s = 0 ∨ (l - a) % s = 1 ∨ (l - a) % s = s - 1 then (.ls false (ws.map D.int), (wf h m s p ws rise k).set 4 none) else (.imm .non, wf h m s p ws rise k)) := by
  have hl : 0 < ws.length := (List.getElem?_eq_some_iff.mp h0).1
  have l3 : 3 ≤ LIM := by decide
  have hb : ((0 : Int) == (l - a) % s || ((1 : Int) == (l - a) % s || (s - 1) == (l - a) % s)) = decide ((l - a) % s = 0 ∨ (l - a) % s = 1 ∨ (l - a) % s = s - 1) := by
    rw [Bool.eq_iff_iff]
    simp only [Bool.or_eq_true, beq_iff_eq, decide_eq_true_eq]
    constructor
    · rintro (z | z | z)
      · exact .inl z.symm
      · exact .inr (.inl z.symm)
      · exact .inr (.inr z.symm)
    · rintro (z | z | z)
      · exact .inl z.symm
      · exact .inr (.inl z.symm)
      · exact .inr (.inr z.symm)
  have st : (mT (m2 (fInA false) (.val (mFz (m2 (fI2c cPos fun i j => .int (i % j)) (.val (mFz (m2 (fI2 fun i j => .int (i - j)) (.val (mFz (m2 fIx (.pk 4) (.val (mFz (m1 fNeg (.val (mC (.int 1))))))))) (.val (mFz (m2 fIx (.pk 4) (.val (mC (.int 0))))))))) (.pk 2)))) (.val (mFz (mTup [(mC (.int 0)), (mC (.int 1)), (mFz (m2 (fI2 fun i j => .int (i - j)) (.pk 2) (.val (mC (.int 1)))))]))))) (wf h m s p ws rise k) = some (decide ((l - a) % s = 0 ∨ (l - a) % s = 1 ∨ (l - a) % s = s - 1), wf h m s p ws rise k) := by
    rw [← hb]
    simp [mT, m2, m1, mFz, A.two, A.one, A.go, A.fin, vw, mC, S.toD, wf, fIx, atI_map0 ws h0, atI_mapL ws hl h1, fNeg, fI2, fI2c, cPos, hs, mTup, mL, l3, fInA, D.flat, D.eqv]
  unfold endM mIf
  rw [st]
  by_cases hc : (l - a) % s = 0 ∨ (l - a) % s = 1 ∨ (l - a) % s = s - 1
  · rw [if_pos hc, decide_eq_true hc]; rfl
  · rw [if_neg hc, decide_eq_false hc]; rfl
end Pl
end

section
set_option Elab.async false
set_option linter.all false
set_option maxRecDepth 100000
namespace Pl
open PySem PySem.Spec L2 Ev Wk
set_option autoImplicit false
/-! ### steps of a mirror -/
theorem seq_nx {m n : M Fl} {σ σ' : Fr} (h : m σ = some (.nx, σ')) : mSeq m n σ = n σ' := by unfold mSeq; rw [h]
theorem seq_rt {m n : M Fl} {σ σ' : Fr} {s : S} (h : m σ = some (.rt s, σ')) : mSeq m n σ = some (.rt s, σ') := by unfold mSeq; rw [h]
theorem set_eq {i : Nat} {m : M S} {σ σ' : Fr} {s : S} (h : m σ = some (s, σ')) (ho : okSet σ' i = true) : mSet i m σ = some (.nx, σ'.set i (some s)) := by
  unfold mSet; rw [h]; show (if okSet σ' i = true then _ else _) = _; rw [if_pos ho]
theorem ret_eq {m : M S} {σ σ' : Fr} {s : S} (h : m σ = some (s, σ')) : mRet m σ = some (.rt s, σ') := by unfold mRet; rw [h]
theorem drop_eq {m : M S} {σ σ' : Fr} {s : S} (h : m σ = some (s, σ')) : mDrop m σ = some (.nx, σ') := by unfold mDrop; rw [h]
theorem for_eq {it : MI} {T : Tg} {b : M Fl} {σ σ1 : Fr} {ds : List D} (h : it σ = some (ds, σ1)) : mFor it T b σ = lpF T b ds σ1 := by unfold mFor; rw [h]
theorem ifT {α : Type} {t : M Bool} {p q : M α} {σ σ' : Fr} (h : t σ = some (true, σ')) : mIf t p q σ = p σ' := by unfold mIf; rw [h]
theorem ifF {α : Type} {t : M Bool} {p q : M α} {σ σ' : Fr} (h : t σ = some (false, σ')) : mIf t p q σ = q σ' := by unfold mIf; rw [h]
theorem fz_eq {m : M S} {σ σ' : Fr} {s : S} (h : m σ = some (s, σ')) : mFz m σ = some (s.toD, σ') := by unfold mFz; rw [h]
theorem nx_eq {σ : Fr} : mNx σ = some (.nx, σ) := rfl
theorem runI_rt {n : Nat} {m : M Fl} {s0 s h : S} {ds : List D} {σ : Fr} (e : m (startF (s0.setIo true :: ds.map .imm) n) = some (.rt s, σ)) (e0 : σ[0]? = some (some h)) (ho : h.own = true) : runI n m s0 ds = some (s, h) := by
  unfold runI; rw [e]; show (match σ[0]? with | some (some s1) => _ | _ => _) = _; rw [e0]; show (if h.own = true then _ else _) = _; rw [if_pos ho]
theorem runV_rt {n : Nat} {m : M Fl} {ds : List D} {s : S} {σ : Fr} (e : m (startF (ds.map .imm) n) = some (.rt s, σ)) : runV n m ds = some s := by
  unfold runV; rw [e]
theorem runV_nx {n : Nat} {m : M Fl} {ds : List D} {σ : Fr} (e : m (startF (ds.map .imm) n) = some (.nx, σ)) : runV n m ds = some (.imm .non) := by
  unfold runV; rw [e]
theorem call_eq {n : Nat} {g : List D → Option S} {ms : List (M D)} {σ σ' : Fr} {ds : List D} {s : S} (h : mL ms σ = some (ds, σ')) (hl : ds.length = n) (hg : g ds = some s) : mCall n g ms σ = some (s, σ') := by
  unfold mCall; rw [h]; show (if ds.length = n then _ else _) = _; rw [if_pos hl, hg]
/-! ### a walk -/
theorem m_walk_eq : m_law_walk = mSeq (mSet 3 (mCallI 0 2 g_law_draw [(mV 2)])) (mSeq (mSet 4 (mLst [(mV 3)])) (mSeq (mSet 5 (mCallI 0 2 g_law_draw [(mC (.int 3))])) (mSeq (mFor (itR1 (mFz (m2 (fI2 fun i j => .int (i - j)) (.pk 1) (.val (mC (.int 1)))))) (.nm 6) stepM) (mRet endM)))) := rfl
theorem dRng_int (n : Nat) : dRng 0 n = ((List.range n).map fun i : Nat => (i : Int)).map D.int := by
  unfold dRng
  rw [List.map_map]
  apply List.map_congr_left
  intro i _
  show D.int (0 + (i : Int)) = D.int (i : Int)
  rw [Int.zero_add]
theorem walk_ok {b : Bool} {h : S} {m s : Int} (hh : HandOk b h) (hm : 2 ≤ m) (hm2 : m < 50) (hs : 0 < s) (hs2 : s < 1000) :
    ∃ r h', g_law_walk h [.int m, .int s] = some (r, h') ∧ HandOk true h' ∧ (r = .imm .non ∨ ∃ ws, r = .ls false (ws.map D.int) ∧ WalkOk m s ws) := by
  have h0 := hh.io (b' := true)
  obtain ⟨p, h1, e1, p1, p2, hh1⟩ := call_drawS (j := 0) (σ := [some (h.setIo true), some (.imm (.int m)), some (.imm (.int s)), none, none, none, none]) (ms := [mV 2]) (n := s) rfl rfl h0 hs (by omega)
  obtain ⟨rise, h2, e2, r1, r2, hh2⟩ := call_drawS (j := 0) (σ := [some h1, some (.imm (.int m)), some (.imm (.int s)), some (.imm (.int p)), some (.ls false [.int p]), none, none]) (ms := [mC (.int 3)]) (n := 3) rfl rfl hh1 (by decide) (by decide)
  obtain ⟨h3, p3, ws, k3, e3, hh3, hs3, hl3, hf3⟩ := loop_ok (m := m) (s := s) (rise := rise) ((List.range (m - 1).toNat).map fun i : Nat => (i : Int)) (h := h2) (p := p) (ws := []) (k := none) hh2 (fun _ e => by cases e) (by simp; omega) (fun i a b ha hb => by simp at hb)
  have hlen : ((ws ++ [p3]).length : Int) = m := by
    simp at hl3 ⊢; omega
  have hne : 0 < (ws ++ [p3]).length := by simp
  have hf : (ws ++ [p3])[0]? = some p := by rw [hf3]; rfl
  have hlast : (ws ++ [p3])[(ws ++ [p3]).length - 1]? = some p3 := by simp
  have hr : itR1 (mFz (m2 (fI2 fun i j => .int (i - j)) (.pk 1) (.val (mC (.int 1))))) (wf h2 m s p ([] ++ [p]) rise none) = some (dRng 0 (m - 1).toNat, wf h2 m s p ([] ++ [p]) rise none) := by
    have ok : okR (m - 1) = true := by unfold okR; simp; omega
    show (if okR (m - 1) = true then _ else _) = _
    rw [if_pos ok]
  have E := end_ok (h := h3) (m := m) (s := s) (p := p3) (rise := rise) (ws := ws ++ [p3]) (k := k3) hs hf hlast
  have run : ∀ r σ', endM (wf h3 m s p3 (ws ++ [p3]) rise k3) = some (r, σ') → m_law_walk (startF (h.setIo true :: [D.int m, D.int s].map .imm) 7) = some (.rt r, σ') := fun r σ' er => by
    rw [m_walk_eq]
    refine (seq_nx (set_eq e1 rfl)).trans ?_
    refine (seq_nx (set_eq (i := 4) (s := .ls false [.int p]) (σ' := [some h1, some (.imm (.int m)), some (.imm (.int s)), some (.imm (.int p)), none, none, none]) rfl rfl)).trans ?_
    refine (seq_nx (set_eq e2 rfl)).trans ?_
    refine (seq_nx ((for_eq hr).trans ?_)).trans (ret_eq er)
    rw [dRng_int]
    exact e3
  split at E
  · rename_i hc
    refine ⟨_, h3, runI_rt (run _ _ E) rfl hh3.ls.1, hh3, .inr ⟨_, rfl, hlen, ⟨p, hf, p1, p2⟩, hs3, fun a b ha hb => ?_⟩⟩
    rw [hf] at ha; rw [hlast] at hb
    cases ha; cases hb
    exact hc
  · exact ⟨_, h3, runI_rt (run _ _ E) rfl hh3.ls.1, hh3, .inl rfl⟩
end Pl
end

section
set_option Elab.async false
set_option linter.all false
set_option maxRecDepth 100000
set_option maxHeartbeats 0
namespace Pl
open PySem PySem.Spec L2 Ev Wk
set_option autoImplicit false
/-! ### comprehensions -/
theorem set_same {σ : Fr} {j : Nat} (h : σ[j]? = some none) : σ.set j none = σ := by
  apply List.ext_getElem?
  intro i
  rw [List.getElem?_set]
  by_cases e : j = i
  · subst e; rw [if_pos rfl, if_pos (List.getElem?_eq_some_iff.mp h).1, h]
  · rw [if_neg e]
theorem lpC_nm {j : Nat} {te : M D} {σ : Fr} {f : D → D} (h0 : σ[j]? = some none) : ∀ {ds : List D}, (∀ d ∈ ds, te (σ.set j (some (.imm d))) = some (f d, σ.set j (some (.imm d)))) → lpC (.nm j) mYes te [j] ds σ = some (ds.map f, σ)
  | [], _ => rfl
  | d :: ds, ht => by
    have hj : j < σ.length := (List.getElem?_eq_some_iff.mp h0).1
    have ho : okSet σ j = true := by unfold okSet; rw [h0]; simp [hj]
    have hh : hide (σ.set j (some (.imm d))) [j] = σ := by
      show (σ.set j (some (.imm d))).set j none = σ
      rw [List.set_set]; exact set_same h0
    simp only [lpC, Tg.put, ho, if_true, mYes, ht d (List.mem_cons_self ..), hh, lpC_nm h0 (fun e he => ht e (List.mem_cons_of_mem _ he)), List.map_cons]
theorem lpC_tp {i j : Nat} {te : M D} {σ : Fr} {f : D → D} (hij : i ≠ j) (h0 : σ[i]? = some none) (h1 : σ[j]? = some none) : ∀ {ds : List D}, (∀ d ∈ ds, ∃ k x y, d = .tup k [x, y] ∧ te ((σ.set i (some (.imm x))).set j (some (.imm y))) = some (f d, (σ.set i (some (.imm x))).set j (some (.imm y)))) → lpC (.tp [.nm i, .nm j]) mYes te [i, j] ds σ = some (ds.map f, σ)
  | [], _ => rfl
  | d :: ds, ht => by
    obtain ⟨k, x, y, rfl, he⟩ := ht d (List.mem_cons_self ..)
    have hi : i < σ.length := (List.getElem?_eq_some_iff.mp h0).1
    have hj : j < σ.length := (List.getElem?_eq_some_iff.mp h1).1
    have ho : okSet σ i = true := by unfold okSet; rw [h0]; simp [hi]
    have ho2 : okSet (σ.set i (some (.imm x))) j = true := by unfold okSet; rw [List.getElem?_set_ne hij, h1]; simp [hj]
    have hh : hide ((σ.set i (some (.imm x))).set j (some (.imm y))) [i, j] = σ := by
      show (((σ.set i (some (.imm x))).set j (some (.imm y))).set j none).set i none = σ
      rw [List.set_set, List.set_comm _ _ hij, List.set_set, set_same h1, set_same h0]
    simp only [lpC, Tg.put, Tg.puts, ho, ho2, if_true, mYes, he, hh, lpC_tp hij h0 h1 (fun e he => ht e (List.mem_cons_of_mem _ he)), List.map_cons]
theorem shown1 {σ : Fr} {j : Nat} : shown (σ.set j none) σ [j] = σ := by
  apply List.ext_getElem?
  intro i
  unfold shown
  rw [List.getElem?_mapIdx, List.getElem?_set]
  by_cases e : j = i
  · subst e
    by_cases hj : j < σ.length
    · simp [hj]
    · simp [hj]
  · rw [if_neg e]
    by_cases hi : i < σ.length
    · simp [hi, Ne.symm e, List.getElem?_eq_getElem]
    · simp [hi]
theorem shown2 {σ : Fr} {i j : Nat} : shown ((σ.set j none).set i none) σ [i, j] = σ := by
  apply List.ext_getElem?
  intro k
  unfold shown
  rw [List.getElem?_mapIdx]
  by_cases hk : k < σ.length
  · by_cases e : k = i
    · subst e; simp [hk]
    · by_cases e2 : k = j
      · subst e2; simp [hk, List.getElem?_set, e, Ne.symm e]
      · simp [hk, List.getElem?_set, e, Ne.symm e, e2, Ne.symm e2]
  · simp [hk, Nat.not_lt.mp hk]
theorem mLc_nm {j : Nat} {it : MI} {te : M D} {σ σ1 : Fr} {f : D → D} {ds : List D} (hi : it σ = some (ds, σ1)) (hl : ds.length ≤ LIM) (hj : j < σ1.length) (ht : ∀ d ∈ ds, te (σ1.set j (some (.imm d))) = some (f d, σ1.set j (some (.imm d)))) :
    mLc it (.nm j) mYes te [j] σ = some (.ls false (ds.map f), σ1) := by
  have h0 : (σ1.set j none)[j]? = some none := by rw [List.getElem?_set_self hj]
  have e := lpC_nm (te := te) (f := f) (ds := ds) h0 (by simpa only [List.set_set] using ht)
  have hh : hide σ1 [j] = σ1.set j none := rfl
  unfold mLc
  simp only [hi, if_pos hl, hh, e, shown1]
theorem mLc_tp {i j : Nat} {it : MI} {te : M D} {σ σ1 : Fr} {f : D → D} {ds : List D} (hi : it σ = some (ds, σ1)) (hl : ds.length ≤ LIM) (hij : i ≠ j) (h1 : i < σ1.length) (h2 : j < σ1.length) (ht : ∀ d ∈ ds, ∃ k x y, d = .tup k [x, y] ∧ te ((σ1.set i (some (.imm x))).set j (some (.imm y))) = some (f d, (σ1.set i (some (.imm x))).set j (some (.imm y)))) :
    mLc it (.tp [.nm i, .nm j]) mYes te [i, j] σ = some (.ls false (ds.map f), σ1) := by
  have q0 : ((σ1.set j none).set i none)[i]? = some none := by rw [List.getElem?_set_self (by simpa using h1)]
  have q1 : ((σ1.set j none).set i none)[j]? = some none := by rw [List.getElem?_set_ne hij, List.getElem?_set_self h2]
  have q2 : ∀ x y : Option S, (((σ1.set j none).set i none).set i x).set j y = (σ1.set i x).set j y := fun x y => by
    rw [List.set_set, List.set_comm _ _ (Ne.symm hij), List.set_set]
  have e := lpC_tp (te := te) (f := f) (ds := ds) hij q0 q1 (by simpa only [q2] using ht)
  have hh : hide σ1 [i, j] = (σ1.set j none).set i none := rfl
  unfold mLc
  simp only [hi, if_pos hl, hh, e, shown2]
end Pl
end

section
set_option Elab.async false
set_option linter.all false
set_option maxRecDepth 100000
set_option maxHeartbeats 0
namespace Pl
set_option autoImplicit false
/-! ### how often a closed walk goes over an edge -/
/-- 1: over p upwards; -1: downwards -/
def cc (p : Int × Int) (x y : Int) : Int := if x = p.1 ∧ y = p.2 then 1 else if x = p.2 ∧ y = p.1 then -1 else 0
def net (p : Int × Int) (f : Int → Int) : List (Int × Int × Int) → Int
  | [] => 0
  | (a, b, g) :: r => g * cc p (f a) (f b) + net p f r
def ups (n : Nat) : List (Int × Int × Int) := (List.range n).map fun k : Nat => ((k : Int) + 1, (k : Int) + 2, 1)
/-- the tops of a ring of n, with their signs -/
def tri (n : Nat) : List (Int × Int × Int) := (0, 1, 1) :: (0, (n : Int) - 1, -1) :: ups (n - 2)
def edges (s : Int) : List (Int × Int) := if s = 3 then [(0, 1), (0, 2), (1, 2)] else [(0, 1), (0, 3), (1, 2), (2, 3)]
def sgn (p : Int × Int) : Int := if p.2 = p.1 + 1 then 1 else -1
def jmp (s : Int) (p : Int × Int) : Int := if p.2 = p.1 + 1 then p.1 else s - 1
/-- what grows at the edge p -/
def ff (s : Int) (p : Int × Int) (x : Int) : Int := (x - jmp s p - 1) / s
theorem net_append (p : Int × Int) (f : Int → Int) (l r : List (Int × Int × Int)) : net p f (l ++ r) = net p f l + net p f r := by
  induction l with
  | nil => simp [net]
  | cons a l ih => obtain ⟨a, b, g⟩ := a; simp only [List.cons_append, net, ih]; omega
def near (x y : Int) : Prop := y - x = 1 ∨ y - x = 0 ∨ y - x = -1
theorem near.symm {x y : Int} (h : near x y) : near y x := by unfold near at *; omega
def S34 (s : Int) : Prop := s = 3 ∨ s = 4
theorem edge3 {p : Int × Int} (h : p ∈ edges 3) : p = (0, 1) ∨ p = (0, 2) ∨ p = (1, 2) := by
  unfold edges at h; rw [if_pos rfl] at h; simpa using h
theorem edge4 {p : Int × Int} (h : p ∈ edges 4) : p = (0, 1) ∨ p = (0, 3) ∨ p = (1, 2) ∨ p = (2, 3) := by
  unfold edges at h; rw [if_neg (by decide)] at h; simpa using h
theorem cc_step {s : Int} {p : Int × Int} (hs : S34 s) (hp : p ∈ edges s) {x y : Int} (h : near x y) : cc p (x % s) (y % s) = sgn p * (ff s p y - ff s p x) := by
  unfold near at h
  rcases hs with rfl | rfl
  · rcases edge3 hp with rfl | rfl | rfl
    · show (if _ then _ else _) = (1 : Int) * ((y - 0 - 1) / 3 - (x - 0 - 1) / 3)
      simp only []
      split
      · omega
      · split <;> omega
    · show (if _ then _ else _) = (-1 : Int) * ((y - (3 - 1) - 1) / 3 - (x - (3 - 1) - 1) / 3)
      simp only []
      split
      · omega
      · split <;> omega
    · show (if _ then _ else _) = (1 : Int) * ((y - 1 - 1) / 3 - (x - 1 - 1) / 3)
      simp only []
      split
      · omega
      · split <;> omega
  · rcases edge4 hp with rfl | rfl | rfl | rfl
    · show (if _ then _ else _) = (1 : Int) * ((y - 0 - 1) / 4 - (x - 0 - 1) / 4)
      simp only []
      split
      · omega
      · split <;> omega
    · show (if _ then _ else _) = (-1 : Int) * ((y - (4 - 1) - 1) / 4 - (x - (4 - 1) - 1) / 4)
      simp only []
      split
      · omega
      · split <;> omega
    · show (if _ then _ else _) = (1 : Int) * ((y - 1 - 1) / 4 - (x - 1 - 1) / 4)
      simp only []
      split
      · omega
      · split <;> omega
    · show (if _ then _ else _) = (1 : Int) * ((y - 2 - 1) / 4 - (x - 2 - 1) / 4)
      simp only []
      split
      · omega
      · split <;> omega
theorem ff_round {s : Int} {p : Int × Int} (hs : S34 s) (x t : Int) : ff s p (x + s * t) = ff s p x + t := by
  unfold ff
  generalize jmp s p = j
  rcases hs with rfl | rfl <;> omega
/-- f is a closed walk of m steps on a ring of s, t times round -/
def Lift (m s : Int) (f : Int → Int) (t : Int) : Prop := ∃ w : Int → Int, (∀ k, 0 ≤ k → k < m → f k = w k % s) ∧ (∀ k, 0 ≤ k → k < m → near (w k) (w (k + 1))) ∧ w m = w 0 + s * t
theorem net_ups {s : Int} {p : Int × Int} (hs : S34 s) (hp : p ∈ edges s) {m : Int} {f w : Int → Int} (h1 : ∀ k, 0 ≤ k → k < m → f k = w k % s) (h2 : ∀ k, 0 ≤ k → k < m → near (w k) (w (k + 1))) :
    ∀ n : Nat, (n : Int) + 1 < m → net p f (ups n) = sgn p * (ff s p (w ((n : Int) + 1)) - ff s p (w 1))
  | 0, _ => by
    show (0 : Int) = sgn p * (ff s p (w (((0 : Nat) : Int) + 1)) - ff s p (w 1))
    rw [show (((0 : Nat) : Int) + 1) = 1 from rfl, Int.sub_self, Int.mul_zero]
  | n + 1, h => by
    have h' : (n : Int) + 1 + 1 < m := by omega
    have ih := net_ups hs hp h1 h2 n (by omega)
    unfold ups at ih ⊢
    rw [List.range_succ, List.map_append, net_append, ih]
    show _ + (1 * cc p (f ((n : Int) + 1)) (f ((n : Int) + 2)) + 0) = _
    have e : ((n : Int) + 1) + 1 = (n : Int) + 2 := by omega
    have e2 : (((n + 1 : Nat) : Int) + 1) = (n : Int) + 2 := by omega
    rw [h1 _ (by omega) (by omega), h1 ((n : Int) + 2) (by omega) (by omega), cc_step hs hp (e ▸ h2 ((n : Int) + 1) (by omega) (by omega)), e2]
    generalize sgn p = z
    generalize ff s p (w ((n : Int) + 2)) = a
    generalize ff s p (w ((n : Int) + 1)) = b
    generalize ff s p (w 1) = c
    simp only [Int.mul_sub]
    omega
theorem net_eq {s : Int} {p : Int × Int} {m : Nat} {f : Int → Int} {t : Int} (hs : S34 s) (hp : p ∈ edges s) (hm : 3 ≤ m) (h : Lift m s f t) : net p f (tri m) = t * sgn p := by
  obtain ⟨w, h1, h2, h3⟩ := h
  have hu := net_ups hs hp h1 h2 (m - 2) (by omega)
  have e : ((m - 2 : Nat) : Int) + 1 = (m : Int) - 1 := by omega
  rw [e] at hu
  have n1 := h2 0 (by omega) (by omega)
  have n2 := (h2 ((m : Int) - 1) (by omega) (by omega)).symm
  rw [Int.zero_add] at n1
  rw [Int.sub_add_cancel] at n2
  have f0 : f 0 = w m % s := by
    rw [h1 0 (by omega) (by omega), h3, Int.add_mul_emod_self_left]
  unfold tri
  show 1 * cc p (f 0) (f 1) + (-1 * cc p (f 0) (f ((m : Int) - 1)) + net p f (ups (m - 2))) = _
  rw [hu]
  have c1 : cc p (f 0) (f 1) = sgn p * (ff s p (w 1) - ff s p (w 0)) := by
    rw [h1 0 (by omega) (by omega), h1 1 (by omega) (by omega)]; exact cc_step hs hp n1
  have c2 : cc p (f 0) (f ((m : Int) - 1)) = sgn p * (ff s p (w ((m : Int) - 1)) - ff s p (w m)) := by
    rw [f0, h1 ((m : Int) - 1) (by omega) (by omega)]; exact cc_step hs hp n2
  have c3 : ff s p (w m) = ff s p (w 0) + t := by rw [h3]; exact ff_round hs _ _
  rw [c1, c2, c3]
  generalize sgn p = z
  generalize ff s p (w ((m : Int) - 1)) = a
  generalize ff s p (w 0) = b
  generalize ff s p (w 1) = c
  simp only [Int.mul_sub, Int.mul_add, Int.mul_comm t z]
  omega
theorem lift_small {m s t : Int} {f : Int → Int} (h : Lift m s f t) (hm : m ≤ 9) (h0 : 0 ≤ m) (hs : S34 s) : -3 ≤ t ∧ t ≤ 3 := by
  obtain ⟨w, _, h2, h3⟩ := h
  have key : ∀ n : Nat, (n : Int) ≤ m → w n - w 0 ≤ n ∧ -(n : Int) ≤ w n - w 0 := fun n => by
    induction n with
    | zero => intro _; simp
    | succ n ih =>
      intro hn
      have := ih (by omega)
      have q := h2 n (by omega) (by omega)
      unfold near at q
      rw [Int.natCast_add, Int.natCast_one]
      omega
  have k := key m.toNat (by omega)
  rw [Int.toNat_of_nonneg h0] at k
  rcases hs with rfl | rfl <;> omega
/-- places next to each other on the ring -/
def Adj (s x y : Int) : Prop := 0 ≤ x ∧ x < s ∧ 0 ≤ y ∧ y < s ∧ (s = 4 → y - x ≠ 2 ∧ x - y ≠ 2)
theorem adj_of {s x y : Int} (hs : S34 s) (h : near x y) : Adj s (x % s) (y % s) := by
  unfold Adj; unfold near at h
  rcases hs with rfl | rfl <;> omega
theorem lift_adj {s : Int} {m : Nat} {f : Int → Int} {t : Int} (hs : S34 s) (hm : 3 ≤ m) (h : Lift m s f t) : ∀ q ∈ tri m, 0 ≤ q.1 ∧ q.1 < m ∧ 0 ≤ q.2.1 ∧ q.2.1 < m ∧ (q.2.2 = 1 ∨ q.2.2 = -1) ∧ Adj s (f q.1) (f q.2.1) := by
  obtain ⟨w, h1, h2, h3⟩ := h
  have n1 := h2 0 (by omega) (by omega)
  have n2 := (h2 ((m : Int) - 1) (by omega) (by omega)).symm
  rw [Int.zero_add] at n1
  rw [Int.sub_add_cancel] at n2
  have f0 : f 0 = w m % s := by
    rw [h1 0 (by omega) (by omega), h3, Int.add_mul_emod_self_left]
  intro q hq
  unfold tri ups at hq
  simp only [List.mem_cons, List.mem_map, List.mem_range] at hq
  rcases hq with rfl | rfl | ⟨k, hk, rfl⟩
  · dsimp only; refine ⟨by omega, by omega, by omega, by omega, .inl rfl, ?_⟩
    show Adj s (f 0) (f 1)
    rw [h1 0 (by omega) (by omega), h1 1 (by omega) (by omega)]; exact adj_of hs n1
  · dsimp only; refine ⟨by omega, by omega, by omega, by omega, .inr rfl, ?_⟩
    show Adj s (f 0) (f ((m : Int) - 1))
    rw [f0, h1 ((m : Int) - 1) (by omega) (by omega)]; exact adj_of hs n2
  · have n3 := h2 ((k : Int) + 1) (by omega) (by omega)
    have e : ((k : Int) + 1) + 1 = (k : Int) + 2 := by omega
    rw [e] at n3
    dsimp only; refine ⟨by omega, by omega, by omega, by omega, .inl rfl, ?_⟩
    show Adj s (f ((k : Int) + 1)) (f ((k : Int) + 2))
    rw [h1 _ (by omega) (by omega), h1 ((k : Int) + 2) (by omega) (by omega)]; exact adj_of hs n3
/-! ### one behind the other -/
theorem g_step {s t : Int} {w : Int → Int} (hs : S34 s) (h2 : ∀ k, 0 ≤ k → k < s → near (w k) (w (k + 1))) (h3 : w s = w 0 + 3 * t) (x : Int) : near (w (x % s) + 3 * (t * (x / s))) (w ((x + 1) % s) + 3 * (t * ((x + 1) / s))) := by
  unfold near at *
  rcases hs with rfl | rfl
  · have : x % 3 = 0 ∨ x % 3 = 1 ∨ x % 3 = 2 := by omega
    have k0 := h2 0 (by decide) (by decide)
    have k1 := h2 1 (by decide) (by decide)
    have k2 := h2 2 (by decide) (by decide)
    simp only [Int.reduceAdd] at k0 k1 k2
    rcases this with e | e | e
    · have a : (x + 1) % 3 = 1 := by omega
      have b : (x + 1) / 3 = x / 3 := by omega
      rw [e, a, b]; omega
    · have a : (x + 1) % 3 = 2 := by omega
      have b : (x + 1) / 3 = x / 3 := by omega
      rw [e, a, b]; omega
    · have a : (x + 1) % 3 = 0 := by omega
      have b : (x + 1) / 3 = x / 3 + 1 := by omega
      rw [e, a, b, Int.mul_add, Int.mul_one]; omega
  · have : x % 4 = 0 ∨ x % 4 = 1 ∨ x % 4 = 2 ∨ x % 4 = 3 := by omega
    have k0 := h2 0 (by decide) (by decide)
    have k1 := h2 1 (by decide) (by decide)
    have k2 := h2 2 (by decide) (by decide)
    have k3 := h2 3 (by decide) (by decide)
    simp only [Int.reduceAdd] at k0 k1 k2 k3
    rcases this with e | e | e | e
    · have a : (x + 1) % 4 = 1 := by omega
      have b : (x + 1) / 4 = x / 4 := by omega
      rw [e, a, b]; omega
    · have a : (x + 1) % 4 = 2 := by omega
      have b : (x + 1) / 4 = x / 4 := by omega
      rw [e, a, b]; omega
    · have a : (x + 1) % 4 = 3 := by omega
      have b : (x + 1) / 4 = x / 4 := by omega
      rw [e, a, b]; omega
    · have a : (x + 1) % 4 = 0 := by omega
      have b : (x + 1) / 4 = x / 4 + 1 := by omega
      rw [e, a, b, Int.mul_add, Int.mul_one]; omega
theorem lift_comp {m s t u : Int} {f g : Int → Int} (hm : 0 < m) (hs : S34 s) (hf : Lift m s f t) (hg : Lift s 3 g u) : Lift m 3 (fun k => g (f k)) (t * u) := by
  obtain ⟨w, h1, h2, h3⟩ := hf
  obtain ⟨v, k1, k2, k3⟩ := hg
  have s0 : 0 < s := by rcases hs with rfl | rfl <;> decide
  refine ⟨fun k => v (w k % s) + 3 * (u * (w k / s)), fun k a b => ?_, fun k a b => ?_, ?_⟩
  · show g (f k) = _
    rw [h1 k a b, k1 _ (Int.emod_nonneg _ (by omega)) (Int.emod_lt_of_pos _ s0)]
    exact (Int.add_mul_emod_self_left _ _ _).symm
  · have q := h2 k a b
    have st := g_step hs k2 k3
    show near (v (w k % s) + 3 * (u * (w k / s))) (v (w (k + 1) % s) + 3 * (u * (w (k + 1) / s)))
    rcases q with q | q | q
    · rw [show w (k + 1) = w k + 1 by omega]; exact st _
    · rw [show w (k + 1) = w k by omega]; exact .inr (.inl (by omega))
    · have z := (st (w (k + 1))).symm
      rw [show w (k + 1) + 1 = w k by omega] at z
      exact z
  · show v (w m % s) + 3 * (u * (w m / s)) = v (w 0 % s) + 3 * (u * (w 0 / s)) + 3 * (t * u)
    have e : w m / s = w 0 / s + t := by rw [h3, Int.add_mul_ediv_left _ _ (by omega)]
    rw [e, show w m % s = w 0 % s by rw [h3, Int.add_mul_emod_self_left], Int.mul_add, Int.mul_comm t u]
    omega
end Pl
end

section
set_option Elab.async false
set_option linter.all false
set_option maxRecDepth 100000
set_option maxHeartbeats 0
namespace Pl
open PySem PySem.Spec L2 Ev Wk
set_option autoImplicit false
/-! ### the webs -/
def tpsD (n : Int) : D := match g_law_ring [.int n] with
  | some s => (match fIx s.toD (.int 0) with
    | some t => t.toD
    | none => .non)
  | none => .non
def Wb (n : Int) : D := match w_Web [tpsD n] with
  | some d => d
  | none => .non
def fld (d : D) (j : Nat) : D := match d with
  | .ins _ l => l.getD j .non
  | _ => .non
def topD (q : Int × Int × Int) : D := .tup false [.int q.1, .int q.2.1]
def topsD (n : Nat) : D := .tup true ((tri n).map topD)
def N39 (n : Nat) : Prop := 3 ≤ n ∧ n ≤ 9
theorem N39.cases {n : Nat} (h : N39 n) : n = 3 ∨ n = 4 ∨ n = 5 ∨ n = 6 ∨ n = 7 ∨ n = 8 ∨ n = 9 := by unfold N39 at h; omega
theorem web_ins {n : Nat} (h : N39 n) : Wb n = .ins 0 [topsD n, fld (Wb n) 1, fld (Wb n) 2] := by
  rcases h.cases with rfl | rfl | rfl | rfl | rfl | rfl | rfl <;> kernel_rfl
theorem web_closed {n : Nat} (h : N39 n) : g_closed_sheet_asked [Wb n] = some (.imm .non) := by
  rcases h.cases with rfl | rfl | rfl | rfl | rfl | rfl | rfl <;> kernel_rfl
def signsD (n : Nat) : D := .tup false [.str "signs", .tup false ((tri n).map fun q => .int q.2.2)]
theorem web_signs {n : Nat} (h : N39 n) : g_told_signs [Wb n] = some (.imm (signsD n)) := by
  rcases h.cases with rfl | rfl | rfl | rfl | rfl | rfl | rfl <;> kernel_rfl
def whole (n : Nat) : D := .tup true ((tri n).map fun q => .tup false [topD q, .int q.2.2])
theorem web_whole {n : Nat} (h : N39 n) : g_whole_chain [Wb n] = some (.imm (whole n)) := by
  rcases h.cases with rfl | rfl | rfl | rfl | rfl | rfl | rfl <;> kernel_rfl
theorem web_chain {n : Nat} (h : N39 n) : g_chain_asked [Wb n, .int 1, .int 0, whole n] = some (.imm .non) := by
  rcases h.cases with rfl | rfl | rfl | rfl | rfl | rfl | rfl <;> kernel_rfl
/-- a map of corners -/
def mp (m : Nat) (f : Int → Int) : D := .tup true ((List.range m).map fun k : Nat => .tup false [.int k, .int (f k)])
def leads (m : Nat) (f : Int → Int) : List (D × D) := (List.range m).map fun k : Nat => (.int k, .int (f k))
theorem dict_mp {m : Nat} (h : N39 m) (f : Int → Int) : fDict (mp m f) = some (.ds false false (leads m f)) := by
  rcases h.cases with rfl | rfl | rfl | rfl | rfl | rfl | rfl <;> kernel_rfl
theorem find_lead (f : Int → Int) (a : Nat) : ∀ m : Nat, ((List.range m).map fun k : Nat => (D.int k, D.int (f k))).find? (fun p => D.eqv p.1 (.int a)) = if a < m then some (.int a, .int (f a)) else none
  | 0 => rfl
  | m + 1 => by
    rw [List.range_succ, List.map_append, List.find?_append, find_lead f a m]
    by_cases h : a < m
    · rw [if_pos h, if_pos (by omega)]; rfl
    · rw [if_neg h, Option.none_or, List.map_cons, List.map_nil, List.find?_cons]
      have q : D.eqv (D.int m) (D.int a) = decide (m = a) := by
        show ((m : Int) == (a : Int)) = _
        rw [Bool.eq_iff_iff]; simp; omega
      simp only [q]
      by_cases e : m = a
      · subst e; rw [if_pos (by omega)]; simp
      · simp only [e, decide_false]; rw [if_neg (by omega)]; rfl
theorem look {m : Nat} {f : Int → Int} {a : Int} (h0 : 0 ≤ a) (h1 : a < m) : fIx (.dct false (leads m f)) (.int a) = some (.imm (.int (f a))) := by
  obtain ⟨n, rfl⟩ : ∃ n : Nat, a = n := ⟨a.toNat, by omega⟩
  show (dLook (leads m f) (.int n)).map S.imm = _
  unfold dLook leads
  rw [find_lead, if_pos (by omega)]
  rfl
/-! ### is it a map -/
def mapC : M Bool := bOr (bNot (mTru (.val (mFz (mCall 1 g_has_form_of_map [(mV 2)]))))) (mT (m2 fNe (.val (mFz (mLc (itD (mV 2)) (.nm 5) mYes (mFz (m2 fIx (.pk 5) (.val (mC (.int 0))))) [5]))) (.val (mFz (mLc (itD (mFz (mCall 2 g_sides_of [(mV 0), (mC (.int 0))]))) (.nm 6) mYes (mFz (m2 fIx (.pk 6) (.val (mC (.int 0))))) [6])))))
theorem map_pre {m : Nat} (h : N39 m) (f : Int → Int) (o : D) : mapC [some (.imm (Wb m)), some (.imm o), some (.imm (mp m f)), none, none, none, none, none] = some (false, [some (.imm (Wb m)), some (.imm o), some (.imm (mp m f)), none, none, none, none, none]) := by
  rcases h.cases with rfl | rfl | rfl | rfl | rfl | rfl | rfl <;> kernel_rfl
def co (x y : Int) : S := .imm (if x = y then .tup false [.int x] else if x < y then .tup false [.int x, .int y] else .tup false [.int y, .int x])
theorem tab_known {s x y : Int} (hs : S34 s) (h : Adj s x y) : g_corners_once [.lst [.int x, .int y]] = some (co x y) ∧ fInA false (co x y).toD (fld (Wb s) 2) = some (.imm (.bl true)) := by
  unfold Adj at h
  rcases hs with rfl | rfl
  · have hx : x = 0 ∨ x = 1 ∨ x = 2 := by omega
    have hy : y = 0 ∨ y = 1 ∨ y = 2 := by omega
    rcases hx with rfl | rfl | rfl <;> rcases hy with rfl | rfl | rfl <;> exact ⟨by kernel_rfl, by kernel_rfl⟩
  · have hx : x = 0 ∨ x = 1 ∨ x = 2 ∨ x = 3 := by omega
    have hy : y = 0 ∨ y = 1 ∨ y = 2 ∨ y = 3 := by omega
    rcases hx with rfl | rfl | rfl | rfl <;> rcases hy with rfl | rfl | rfl | rfl <;> first | omega | exact ⟨by kernel_rfl, by kernel_rfl⟩
end Pl
end

section
set_option Elab.async false
set_option linter.all false
set_option maxRecDepth 100000
set_option maxHeartbeats 0
namespace Pl
open PySem PySem.Spec L2 Ev Wk
set_option autoImplicit false
theorem mV_imm {σ : Fr} {i : Nat} {d : D} (e : σ[i]? = some (some (.imm d))) : mV i σ = some (d, σ) := by unfold mV; rw [e]
theorem fld0 {n : Nat} (h : N39 n) {i : Nat} {σ : Fr} (e : σ[i]? = some (some (.imm (Wb n)))) : mFld 0 0 (mV i) σ = some (topsD n, σ) := by
  unfold mFld; rw [mV_imm e, web_ins h]; rfl
theorem fld2 {n : Nat} (h : N39 n) {i : Nat} {σ : Fr} (e : σ[i]? = some (some (.imm (Wb n)))) : mFld 0 2 (mV i) σ = some (fld (Wb n) 2, σ) := by
  unfold mFld; rw [mV_imm e]
  have q := web_ins h
  generalize fld (Wb n) 2 = k at q ⊢
  generalize fld (Wb n) 1 = l at q
  rw [q]; rfl
theorem vals2 {m n : M D} {σ σ1 σ2 : Fr} {d e : D} {f : D → D → Option S} {s : S} (h1 : m σ = some (d, σ1)) (h2 : n σ1 = some (e, σ2)) (hf : f d e = some s) : m2 f (.val m) (.val n) σ = some (s, σ2) := by
  unfold m2 A.two A.go A.fin; simp only [h1, h2, hf]
theorem vals1 {m : M D} {σ σ1 : Fr} {d : D} {f : D → Option S} {s : S} (h1 : m σ = some (d, σ1)) (hf : f d = some s) : m1 f (.val m) σ = some (s, σ1) := by
  unfold m1 A.one A.go A.fin; simp only [h1, hf]
theorem pks2 {i j : Nat} {σ : Fr} {s t : S} {f : D → D → Option S} {r : S} (h1 : σ[i]? = some (some s)) (h2 : σ[j]? = some (some t)) (hf : f s.toD t.toD = some r) : m2 f (.pk i) (.pk j) σ = some (r, σ) := by
  unfold m2 A.two A.go A.fin vw; simp only [h1, h2, hf]
theorem pkval {i : Nat} {m : M D} {σ : Fr} {s : S} {d : D} {f : D → D → Option S} {r : S} (h1 : σ[i]? = some (some s)) (h2 : m σ = some (d, σ)) (hf : f s.toD d = some r) : m2 f (.pk i) (.val m) σ = some (r, σ) := by
  unfold m2 A.two A.go A.fin vw; simp only [h1, h2, hf]
theorem valpk {i : Nat} {m : M D} {σ σ1 : Fr} {s : S} {d : D} {f : D → D → Option S} {r : S} (h2 : m σ = some (d, σ1)) (h1 : σ1[i]? = some (some s)) (hf : f d s.toD = some r) : m2 f (.val m) (.pk i) σ = some (r, σ1) := by
  unfold m2 A.two A.go A.fin vw; simp only [h1, h2, hf]
theorem pk1 {i : Nat} {σ : Fr} {s : S} {f : D → Option S} {r : S} (h1 : σ[i]? = some (some s)) (hf : f s.toD = some r) : m1 f (.pk i) σ = some (r, σ) := by
  unfold m1 A.one A.go A.fin vw; simp only [h1, hf]
theorem mL1 {m : M D} {σ σ1 : Fr} {d : D} (h : m σ = some (d, σ1)) : mL [m] σ = some ([d], σ1) := by
  simp only [mL, h]
theorem mL2 {m n : M D} {σ σ1 σ2 : Fr} {d e : D} (h : m σ = some (d, σ1)) (h2 : n σ1 = some (e, σ2)) : mL [m, n] σ = some ([d, e], σ2) := by
  simp only [mL, h, h2]
theorem mL3 {m n k : M D} {σ σ1 σ2 σ3 : Fr} {d e g : D} (h : m σ = some (d, σ1)) (h2 : n σ1 = some (e, σ2)) (h3 : k σ2 = some (g, σ3)) : mL [m, n, k] σ = some ([d, e, g], σ3) := by
  simp only [mL, h, h2, h3]
theorem itD_eq {m : M D} {σ σ1 : Fr} {d : D} {l : List D} (h : m σ = some (d, σ1)) (hl : dItems d = some l) : itD m σ = some (l, σ1) := by
  unfold itD; rw [h]; show (match dItems d with | some l => _ | none => _) = _; rw [hl]
/-- the corners of a top, led -/
theorem pair_led {σ : Fr} {i j d : Nat} {m : Nat} {f : Int → Int} {q : Int × Int × Int} {s : S} (hi : σ[i]? = some (some (.imm (topD q)))) (hd : σ[d]? = some (some s)) (hs : s.toD = .dct false (leads m f)) (hj : j < σ.length) (hdj : j ≠ d) (ha : 0 ≤ q.1) (ha2 : q.1 < m) (hb : 0 ≤ q.2.1) (hb2 : q.2.1 < m) :
    mFz (mLc (itD (mV i)) (.nm j) mYes (mFz (m2 fIx (.pk d) (.pk j))) [j]) σ = some (.lst [.int (f q.1), .int (f q.2.1)], σ) := by
  have one : ∀ a : Int, 0 ≤ a → a < m → mFz (m2 fIx (.pk d) (.pk j)) (σ.set j (some (.imm (.int a)))) = some (.int (f a), σ.set j (some (.imm (.int a)))) := fun a h0 h1 =>
    fz_eq (pks2 (s := s) (t := .imm (.int a)) (by rw [List.getElem?_set_ne hdj]; exact hd) (List.getElem?_set_self hj) (by rw [hs]; exact look h0 h1))
  refine fz_eq (s := .ls false [.int (f q.1), .int (f q.2.1)]) (mLc_nm (f := fun d => match d with | .int k => .int (f k) | x => x) (itD_eq (l := [.int q.1, .int q.2.1]) (mV_imm hi) rfl) (by show 2 ≤ LIM; decide) hj ?_)
  intro x hx
  simp only [List.mem_cons, List.not_mem_nil, or_false] at hx
  rcases hx with rfl | rfl
  · exact one _ ha ha2
  · exact one _ hb hb2
/-- all tops are led to sides -/
def Good (m : Nat) (s : Int) (f : Int → Int) : Prop := ∀ q ∈ tri m, 0 ≤ q.1 ∧ q.1 < m ∧ 0 ≤ q.2.1 ∧ q.2.1 < m ∧ (q.2.2 = 1 ∨ q.2.2 = -1) ∧ Adj s (f q.1) (f q.2.1)
theorem tri_len (m : Nat) : (tri m).length = m - 2 + 2 := by unfold tri ups; simp
theorem S34.n {s : Nat} (h : S34 s) : N39 s := by unfold S34 at h; unfold N39; omega
theorem bls_true (n : Nat) : D.bls (List.replicate n (D.bl true)) = some (List.replicate n true) := by
  induction n with
  | zero => rfl
  | succ n ih => rw [List.replicate_succ, List.replicate_succ]; simp only [D.bls, ih]
theorem maps_ok {m s : Nat} {f : Int → Int} (hm : N39 m) (hs : S34 s) (hg : Good m s f) : g_maps [Wb m, Wb s, mp m f] = some (.imm (.bl true)) := by
  have hLIM : (tri m).length ≤ LIM := by rw [tri_len]; exact Nat.le_trans (show m - 2 + 2 ≤ 9 by unfold N39 at hm; omega) (by decide)
  refine runV_rt (σ := [some (.imm (Wb m)), some (.imm (Wb s)), some (.imm (mp m f)), some (.ds false false (leads m f)), none, none, none, none]) ?_
  refine (seq_nx ((ifF (map_pre hm f (Wb s))).trans nx_eq)).trans ?_
  refine (seq_nx (set_eq (σ' := [some (.imm (Wb m)), some (.imm (Wb s)), some (.imm (mp m f)), none, none, none, none, none]) (pk1 rfl (dict_mp hm f)) rfl)).trans ?_
  refine ret_eq (vals1 (fz_eq (mLc_nm (f := fun _ => .bl true) (itD_eq (fld0 hm rfl) (l := (tri m).map topD) rfl) (by rw [List.length_map]; exact hLIM) (by simp) ?_)) ?_)
  · intro d hd
    obtain ⟨q, hq, rfl⟩ := List.mem_map.mp hd
    obtain ⟨a1, a2, b1, b2, _, ad⟩ := hg q hq
    obtain ⟨t1, t2⟩ := tab_known hs ad
    refine fz_eq (s := .imm (.bl true)) (vals2 (fz_eq (call_eq (mL1 (pair_led (s := .ds false false (leads m f)) rfl rfl rfl (by simp) (by decide) a1 a2 b1 b2)) rfl t1)) (fld2 hs.n rfl) t2)
  · show (match D.bls (((tri m).map topD).map fun _ => D.bl true) with | some bs => some (S.imm (.bl (bs.all id))) | none => none) = _
    have e : (((tri m).map topD).map fun _ => D.bl true) = List.replicate (tri m).length (D.bl true) := by
      rw [List.map_map]; exact List.eq_replicate_iff.mpr ⟨by simp, fun b hb => by obtain ⟨_, _, rfl⟩ := List.mem_map.mp hb; rfl⟩
    rw [e, bls_true]; simp
theorem is_map_ok {m s : Nat} {f : Int → Int} (hm : N39 m) (hs : S34 s) (hg : Good m s f) : g_is_map [Wb m, Wb s, mp m f] = some (.imm (.bl true)) :=
  runV_rt (σ := [some (.imm (Wb m)), some (.imm (Wb s)), some (.imm (mp m f))]) (ret_eq (call_eq (mL3 rfl rfl rfl) rfl (maps_ok hm hs hg)))
theorem asked_eq {m : M D} {σ σ' : Fr} (h : m σ = some (.bl true, σ')) : mIf (bNot (mTru (.val m))) mNo mNx σ = some (.nx, σ') := by
  refine (ifF ?_).trans nx_eq
  unfold bNot mTru A.one A.go A.fin
  simp only [h, fTru]; rfl
theorem map_asked_ok {m s : Nat} {f : Int → Int} (hm : N39 m) (hs : S34 s) (hg : Good m s f) : g_map_asked [Wb m, Wb s, mp m f] = some (.imm .non) :=
  runV_nx (σ := [some (.imm (Wb m)), some (.imm (Wb s)), some (.imm (mp m f))]) (asked_eq (fz_eq (call_eq (mL3 rfl rfl rfl) rfl (maps_ok hm hs hg))))
end Pl
end

section
set_option Elab.async false
set_option linter.all false
set_option maxRecDepth 100000
set_option maxHeartbeats 0
namespace Pl
open PySem PySem.Spec L2 Ev Wk
set_option autoImplicit false
/-! ### degree_of -/
theorem aug_eq {i : Nat} {p : Int → Int → Int} {m : M D} {σ σ' : Fr} {x y : Int} (h0 : σ[i]? = some (some (.imm (.int x)))) (h : m σ = some (.int y, σ')) (ho : okSet σ' i = true) : mAug i p m σ = some (.nx, σ'.set i (some (.imm (.int (p x y))))) := by
  unfold mAug; rw [h0]; simp only [h, ho, if_true]
theorem tab_sign {s x y : Int} (hs : S34 s) (h : Adj s x y) : g_led_sign [.lst [.int x, .int y], topD (0, 1, 1)] = some (.imm (.int (cc (0, 1) x y))) := by
  unfold Adj at h
  have hx : x = 0 ∨ x = 1 ∨ x = 2 ∨ x = 3 := by unfold S34 at hs; omega
  have hy : y = 0 ∨ y = 1 ∨ y = 2 ∨ y = 3 := by unfold S34 at hs; omega
  clear h
  rcases hx with rfl | rfl | rfl | rfl <;> rcases hy with rfl | rfl | rfl | rfl <;> kernel_rfl
theorem at_zero (d : D) (l : List D) : atI (d :: l) 0 = some d := by
  unfold atI ixN
  rw [if_pos (by decide), if_pos (by simp)]; rfl
theorem top0 (n : Nat) : fIx (topsD n) (.int 0) = some (.imm (topD (0, 1, 1))) := by
  show (atI ((tri n).map topD) 0).map S.imm = _
  unfold tri
  rw [List.map_cons, at_zero]; rfl
theorem sml1 {g : Int} (h : g = 1 ∨ g = -1) : sml g = true := by rcases h with rfl | rfl <;> decide
theorem fMul1 {g c : Int} (h : g = 1 ∨ g = -1) : fMul (.int g) (.int c) = some (.imm (.int (g * c))) := by
  show (if cMul g c = true then _ else _) = _
  rw [if_pos (by unfold cMul; rw [sml1 h]; rfl)]
def degBody : M Fl := mAug 4 (fun i j => i + j) (mFz (m2 fMul (.pk 8) (.val (mFz (mCall 2 g_led_sign [(mFz (mLc (itD (mV 7)) (.nm 9) mYes (mFz (m2 fIx (.pk 3) (.pk 9))) [9])), (mFz (m2 fIx (.val (mFld 0 0 (mV 1))) (.val (mC (.int 0)))))])))))
/-- what is known of a web -/
structure WebF (A : D) (n : Nat) : Prop where
  closed : g_closed_sheet_asked [A] = some (.imm .non)
  signs : g_told_signs [A] = some (.imm (signsD n))
  tops : ∀ (i : Nat) (σ : Fr), σ[i]? = some (some (.imm A)) → mFld 0 0 (mV i) σ = some (topsD n, σ)
theorem web_f {n : Nat} (h : N39 n) : WebF (Wb n) n := ⟨web_closed h, web_signs h, fun _ _ e => fld0 h e⟩
def dfr (A B P : D) (m s : Nat) (f : Int → Int) (x : Int) (k7 k8 : Option S) : Fr := [some (.imm A), some (.imm B), some (.imm P), some (.ds false false (leads m f)), some (.imm (.int x)), some (.imm (signsD m)), some (.imm (signsD s)), k7, k8, none]
section
variable {A B P : D} {m s : Nat} {f : Int → Int}
theorem deg_step (hB : WebF B s) (hs : S34 s) {q : Int × Int × Int} (a1 : 0 ≤ q.1) (a2 : q.1 < m) (b1 : 0 ≤ q.2.1) (b2 : q.2.1 < m) (g1 : q.2.2 = 1 ∨ q.2.2 = -1) (ad : Adj s (f q.1) (f q.2.1)) (x : Int) :
    degBody (dfr A B P m s f x (some (.imm (topD q))) (some (.imm (.int q.2.2)))) = some (.nx, dfr A B P m s f (x + q.2.2 * cc (0, 1) (f q.1) (f q.2.1)) (some (.imm (topD q))) (some (.imm (.int q.2.2)))) :=
  aug_eq rfl (fz_eq (pkval (s := .imm (.int q.2.2)) rfl (fz_eq (call_eq (mL2 (pair_led (s := .ds false false (leads m f)) rfl rfl rfl (by show 9 < 10; decide) (by decide) a1 a2 b1 b2) (fz_eq (vals2 (hB.tops _ _ rfl) rfl (s := .imm (topD (0, 1, 1))) (top0 s)))) rfl (tab_sign hs ad))) (fMul1 g1))) rfl
def ioF (k : Option S) : Prop := ∀ s, k = some s → s.io = false
theorem okSet_of {σ : Fr} {i : Nat} {k : Option S} (h : σ[i]? = some k) (hk : ioF k) : okSet σ i = true := by
  unfold okSet
  rw [h, Bool.and_eq_true]
  refine ⟨decide_eq_true (List.getElem?_eq_some_iff.mp h).1, ?_⟩
  cases k with
  | none => rfl
  | some s => show (!s.io) = true; rw [hk s rfl]; rfl
theorem ioF_imm (d : D) : ioF (some (.imm d)) := fun s e => by cases e; rfl
theorem ioF_none : ioF none := fun s e => by cases e
theorem deg_loop (hB : WebF B s) (hs : S34 s) : ∀ (l : List (Int × Int × Int)) (x : Int) (k7 k8 : Option S), ioF k7 → ioF k8 → (∀ q ∈ l, 0 ≤ q.1 ∧ q.1 < m ∧ 0 ≤ q.2.1 ∧ q.2.1 < m ∧ (q.2.2 = 1 ∨ q.2.2 = -1) ∧ Adj s (f q.1) (f q.2.1)) →
    ∃ j7 j8, lpF (.tp [(.nm 7), (.nm 8)]) degBody (l.map fun q => .tup false [topD q, .int q.2.2]) (dfr A B P m s f x k7 k8) = some (.nx, dfr A B P m s f (x + net (0, 1) f l) j7 j8)
  | [], x, k7, k8, _, _, _ => ⟨k7, k8, by rw [show net (0, 1) f [] = 0 from rfl, Int.add_zero]; rfl⟩
  | q :: l, x, k7, k8, h7, h8, hl => by
    obtain ⟨a1, a2, b1, b2, g1, ad⟩ := hl q (List.mem_cons_self ..)
    obtain ⟨j7, j8, ih⟩ := deg_loop hB hs l (x + q.2.2 * cc (0, 1) (f q.1) (f q.2.1)) (some (.imm (topD q))) (some (.imm (.int q.2.2))) (ioF_imm _) (ioF_imm _) (fun r hr => hl r (List.mem_cons_of_mem _ hr))
    refine ⟨j7, j8, ?_⟩
    have o1 : okSet (dfr A B P m s f x k7 k8) 7 = true := okSet_of rfl h7
    have o2 : okSet ((dfr A B P m s f x k7 k8).set 7 (some (.imm (topD q)))) 8 = true := okSet_of rfl h8
    have e : ((dfr A B P m s f x k7 k8).set 7 (some (.imm (topD q)))).set 8 (some (.imm (.int q.2.2))) = dfr A B P m s f x (some (.imm (topD q))) (some (.imm (.int q.2.2))) := rfl
    rw [List.map_cons]
    simp only [lpF, Tg.put, Tg.puts, o1, o2, if_true, e, deg_step hB hs a1 a2 b1 b2 g1 ad x, ih]
    show some (Fl.nx, dfr A B P m s f (x + q.2.2 * cc (0, 1) (f q.1) (f q.2.1) + net (0, 1) f l) j7 j8) = some (Fl.nx, dfr A B P m s f (x + (q.2.2 * cc (0, 1) (f q.1) (f q.2.1) + net (0, 1) f l)) j7 j8)
    rw [Int.add_assoc]
def degC : M Bool := (bOr (mT (m2 fEq (.val (mFz (m2 fIx (.pk 5) (.val (mC (.int 0)))))) (.val (mC (.str "ring"))))) (bOr (mT (m2 fEq (.val (mFz (m2 fIx (.pk 6) (.val (mC (.int 0)))))) (.val (mC (.str "ring"))))) (mT (m2 fNe (.val (mFz (m1 fLen (.val (mFz (m2 fIx (.val (mFld 0 0 (mV 0))) (.val (mC (.int 0))))))))) (.val (mFz (m1 fLen (.val (mFz (m2 fIx (.val (mFld 0 0 (mV 1))) (.val (mC (.int 0)))))))))))))
def d0 (A B P : D) (k3 k4 k5 k6 : Option S) : Fr := [some (.imm A), some (.imm B), some (.imm P), k3, k4, k5, k6, none, none, none]
theorem bOr_ff {m n : M Bool} {σ σ1 σ2 : Fr} (h1 : m σ = some (false, σ1)) (h2 : n σ1 = some (false, σ2)) : bOr m n σ = some (false, σ2) := by
  unfold bOr; rw [h1]; exact h2
theorem mT_eq {m : M S} {σ σ1 : Fr} {b : Bool} (h : m σ = some (.imm (.bl b), σ1)) : mT m σ = some (b, σ1) := by
  unfold mT; rw [h]
theorem degC_ok (hA : WebF A m) (hB : WebF B s) : degC (d0 A B P none none (some (.imm (signsD m))) (some (.imm (signsD s)))) = some (false, d0 A B P none none (some (.imm (signsD m))) (some (.imm (signsD s)))) := by
  have q : fEq (.str "signs") (.str "ring") = some (.imm (.bl false)) := by kernel_rfl
  have i5 : mFz (m2 fIx (.pk 5) (.val (mC (.int 0)))) (d0 A B P none none (some (.imm (signsD m))) (some (.imm (signsD s)))) = some (.str "signs", d0 A B P none none (some (.imm (signsD m))) (some (.imm (signsD s)))) := fz_eq (s := .imm (.str "signs")) (pkval (s := .imm (signsD m)) rfl rfl rfl)
  have i6 : mFz (m2 fIx (.pk 6) (.val (mC (.int 0)))) (d0 A B P none none (some (.imm (signsD m))) (some (.imm (signsD s)))) = some (.str "signs", d0 A B P none none (some (.imm (signsD m))) (some (.imm (signsD s)))) := fz_eq (s := .imm (.str "signs")) (pkval (s := .imm (signsD s)) rfl rfl rfl)
  refine bOr_ff (mT_eq (vals2 i5 rfl q)) (bOr_ff (mT_eq (vals2 i6 rfl q)) (mT_eq (vals2 (d := .int 2) (e := .int 2) (fz_eq (s := .imm (.int 2)) (vals1 (fz_eq (s := .imm (topD (0, 1, 1))) (vals2 (hA.tops _ _ rfl) rfl (top0 m))) rfl)) (fz_eq (s := .imm (.int 2)) (vals1 (fz_eq (s := .imm (topD (0, 1, 1))) (vals2 (hB.tops _ _ rfl) rfl (top0 s))) rfl)) (by kernel_rfl))))
theorem dZip_tri (m : Nat) : dZip ((tri m).map topD) ((tri m).map fun q => .int q.2.2) = (tri m).map fun q => .tup false [topD q, .int q.2.2] := by
  unfold dZip
  rw [List.zip_map', List.map_map]; rfl
theorem degree_gen (hA : WebF A m) (hB : WebF B s) (hs : S34 s) (hM : g_is_map [A, B, P] = some (.imm (.bl true))) (hP : fDict P = some (.ds false false (leads m f))) (hg : Good m s f) : g_degree_of [A, B, P] = some (.imm (.int (net (0, 1) f (tri m)))) := by
  obtain ⟨j7, j8, hl⟩ := deg_loop (A := A) (P := P) hB hs (tri m) 0 none none ioF_none ioF_none hg
  rw [Int.zero_add] at hl
  refine runV_rt (σ := dfr A B P m s f (net (0, 1) f (tri m)) j7 j8) ?_
  have e1 : mDrop (mCall 1 g_closed_sheet_asked [(mV 0)]) (d0 A B P none none none none) = some (.nx, d0 A B P none none none none) := drop_eq (call_eq (mL1 rfl) rfl (hA.closed))
  have e2 : mDrop (mCall 1 g_closed_sheet_asked [(mV 1)]) (d0 A B P none none none none) = some (.nx, d0 A B P none none none none) := drop_eq (call_eq (mL1 rfl) rfl (hB.closed))
  refine (seq_nx e1).trans ?_
  refine (seq_nx e2).trans ?_
  refine (seq_nx (σ' := d0 A B P none none (some (.imm (signsD m))) (some (.imm (signsD s)))) ?_).trans ?_
  · have e : mL [(mFz (mCall 1 g_told_signs [(mV 0)])), (mFz (mCall 1 g_told_signs [(mV 1)]))] (d0 A B P none none none none) = some ([signsD m, signsD s], d0 A B P none none none none) := mL2 (fz_eq (call_eq (mL1 rfl) rfl (hA.signs))) (fz_eq (call_eq (mL1 rfl) rfl (hB.signs)))
    show mPar 5 6 _ (d0 A B P none none none none) = _
    unfold mPar
    rw [e]; rfl
  refine (seq_nx ((ifF (degC_ok hA hB)).trans nx_eq)).trans ?_
  refine (seq_nx (σ' := d0 A B P none none (some (.imm (signsD m))) (some (.imm (signsD s)))) (asked_eq (fz_eq (call_eq (mL3 rfl rfl rfl) rfl (hM))))).trans ?_
  refine (seq_nx (set_eq (σ' := d0 A B P none none (some (.imm (signsD m))) (some (.imm (signsD s)))) (pk1 rfl (hP)) rfl)).trans ?_
  refine (seq_nx (set_eq (σ' := d0 A B P (some (.ds false false (leads m f))) none (some (.imm (signsD m))) (some (.imm (signsD s)))) (s := .imm (.int 0)) rfl rfl)).trans ?_
  refine (seq_nx ((for_eq (ds := (tri m).map fun q => .tup false [topD q, .int q.2.2]) (σ1 := dfr A B P m s f 0 none none) ?_).trans hl)).trans (ret_eq rfl)
  have e : mL [mFld 0 0 (mV 0), mFz (m2 fIx (.pk 5) (.val (mC (.int 1))))] (dfr A B P m s f 0 none none) = some ([topsD m, .tup false ((tri m).map fun q => .int q.2.2)], dfr A B P m s f 0 none none) := mL2 (hA.tops _ _ rfl) (fz_eq (pkval (s := .imm (signsD m)) (r := .imm (.tup false ((tri m).map fun q => .int q.2.2))) rfl rfl rfl))
  show itZ _ _ (dfr A B P m s f 0 none none) = _
  unfold itZ
  rw [e]
  show some (dZip ((tri m).map topD) ((tri m).map fun q => .int q.2.2), _) = _
  rw [dZip_tri]
end
theorem degree_ok {m s : Nat} {f : Int → Int} (hm : N39 m) (hs : S34 s) (hg : Good m s f) : g_degree_of [Wb m, Wb s, mp m f] = some (.imm (.int (net (0, 1) f (tri m)))) :=
  degree_gen (web_f hm) (web_f hs.n) hs (is_map_ok hm hs hg) (dict_mp hm f) hg
end Pl
end

section
set_option Elab.async false
set_option linter.all false
set_option maxRecDepth 100000
set_option maxHeartbeats 0
namespace Pl
open PySem PySem.Spec L2 Ev Wk
set_option autoImplicit false
/-! ### led chains -/
def ekey (p : Int × Int) : D := .tup false [.int p.1, .int p.2]
def rep (ks : List (Int × Int)) (cnt : Int × Int → Int) : List (D × D) := ks.map fun p => (ekey p, .int (cnt p))
theorem ekey_eqv (p q : Int × Int) : D.eqv (ekey p) (ekey q) = decide (p = q) := by
  show ((p.1 == q.1) && ((p.2 == q.2) && true)) = _
  rw [Bool.eq_iff_iff]
  simp [Prod.ext_iff]
theorem rep_look (p : Int × Int) (cnt : Int × Int → Int) : ∀ ks : List (Int × Int), dLook (rep ks cnt) (ekey p) = if p ∈ ks then some (.int (cnt p)) else none
  | [] => rfl
  | q :: ks => by
    have ih := rep_look p cnt ks
    unfold dLook rep at ih ⊢
    rw [List.map_cons, List.find?_cons]
    simp only [ekey_eqv]
    by_cases e : q = p
    · subst e; simp
    · have e' : ¬ p = q := fun z => e z.symm
      simp only [e, decide_false]
      rw [ih]
      simp [e']
theorem rep_has (p : Int × Int) (cnt : Int × Int → Int) (ks : List (Int × Int)) : dHas (rep ks cnt) (ekey p) = decide (p ∈ ks) := by
  unfold dHas rep
  rw [Bool.eq_iff_iff, List.any_map, List.any_eq_true]
  simp only [Function.comp_apply, ekey_eqv, decide_eq_true_eq]
  constructor
  · rintro ⟨q, hq, rfl⟩; exact hq
  · intro h; exact ⟨p, h, rfl⟩
def upc (cnt : Int × Int → Int) (p : Int × Int) (v : Int) : Int × Int → Int := fun q => if q = p then v else cnt q
def addk (ks : List (Int × Int)) (p : Int × Int) : List (Int × Int) := if p ∈ ks then ks else ks ++ [p]
theorem rep_put (p : Int × Int) (v : Int) (cnt : Int × Int → Int) (ks : List (Int × Int)) : dPut (rep ks cnt) (ekey p) (.int v) = rep (addk ks p) (upc cnt p v) := by
  unfold dPut addk
  rw [rep_has]
  by_cases h : p ∈ ks
  · rw [if_pos (decide_eq_true h), if_pos h]
    unfold rep
    rw [List.map_map]
    apply List.map_congr_left
    intro q _
    show (if D.eqv (ekey q) (ekey p) = true then _ else _) = _
    rw [ekey_eqv]
    unfold upc
    by_cases e : q = p
    · subst e; simp
    · simp [e]
  · rw [if_neg (by simpa using h), if_neg h]
    unfold rep
    rw [List.map_append]
    congr 1
    · apply List.map_congr_left
      intro q hq
      unfold upc
      rw [if_neg (fun e : q = p => h (e ▸ hq))]
    · show [(ekey p, D.int v)] = [(ekey p, D.int (upc cnt p v p))]
      unfold upc; rw [if_pos rfl]
theorem runI_nx {n : Nat} {m : M Fl} {s0 h : S} {ds : List D} {σ : Fr} (e : m (startF (s0.setIo true :: ds.map .imm) n) = some (.nx, σ)) (e0 : σ[0]? = some (some h)) (ho : h.own = true) : runI n m s0 ds = some (.imm .non, h) := by
  unfold runI; rw [e]; show (match σ[0]? with | some (some s1) => _ | _ => _) = _; rw [e0]; show (if h.own = true then _ else _) = _; rw [if_pos ho]
theorem get_eq {i : Nat} {mk mx : M D} {σ : Fr} {io t : Bool} {l : List (D × D)} {k z : D} (hi : σ[i]? = some (some (.ds io t l))) (hk : mk σ = some (k, σ)) (hx : mx σ = some (z, σ)) (hok : keyOk t k = true) : mGet (.pk i) mk mx σ = some ((dLook l k).getD z, σ) := by
  unfold mGet A.go A.fin vw; simp only [hi, hk, hx, S.toD, hok, if_true]
theorem put_eq {i : Nat} {mk mv : M D} {σ : Fr} {io t : Bool} {l : List (D × D)} {k v : D} (hi : σ[i]? = some (some (.ds io t l))) (hv : mv σ = some (v, σ)) (hk : mk σ = some (k, σ)) (hok : (keyOk t k && decide (l.length < LIM)) = true) : mPut i mk mv σ = some (.nx, σ.set i (some (.ds io t (dPut l k v)))) := by
  unfold mPut vw; simp only [hv, hi, hk, hok, if_true]
/-! in_order, put_row -/
def ord (x y : Int) : Int × Int := if x < y then (x, y) else (y, x)
def osg (x y : Int) : Int := if x < y then 1 else -1
def inO (x y : Int) : D := if x = y then .non else .tup false [ekey (ord x y), .int (osg x y)]
theorem tab_order {s x y : Int} (hs : S34 s) (h : Adj s x y) : g_in_order [.lst [.int x, .int y]] = some (.imm (inO x y)) := by
  unfold Adj at h
  have hx : x = 0 ∨ x = 1 ∨ x = 2 ∨ x = 3 := by unfold S34 at hs; omega
  have hy : y = 0 ∨ y = 1 ∨ y = 2 ∨ y = 3 := by unfold S34 at hs; omega
  clear h
  rcases hx with rfl | rfl | rfl | rfl <;> rcases hy with rfl | rfl | rfl | rfl <;> kernel_rfl
def pfr (l : List (D × D)) (x y g : Int) (r : Option S) : Fr := [some (.ds true true l), some (.imm (.lst [.int x, .int y])), some (.imm (.int g)), r]
theorem put_same {s x : Int} (hs : S34 s) (h : Adj s x x) (b : Bool) (l : List (D × D)) (g : Int) : g_put_row (.ds b true l) [.lst [.int x, .int x], .int g] = some (.imm .non, .ds true true l) := by
  have e : inO x x = .non := by unfold inO; rw [if_pos rfl]
  have t := tab_order hs h
  rw [e] at t
  have r : m_put_row (pfr l x x g none) = some (.nx, pfr l x x g (some (.imm .non))) := by
    refine (seq_nx (set_eq (σ' := pfr l x x g none) (call_eq (mL1 rfl) rfl t) rfl)).trans ?_
    exact (ifF (mT_eq (b := false) (pkval (s := .imm .non) rfl rfl rfl))).trans nx_eq
  exact runI_nx r rfl rfl
theorem ekey_ok (p : Int × Int) : keyOk true (ekey p) = true := rfl
theorem put_new {s x y : Int} (hs : S34 s) (h : Adj s x y) (hxy : x ≠ y) (b : Bool) {ks : List (Int × Int)} {cnt : Int × Int → Int} (h0 : ∀ p, p ∉ ks → cnt p = 0) (hl : ks.length < 100) {g : Int} (hg : g = 1 ∨ g = -1) :
    g_put_row (.ds b true (rep ks cnt)) [.lst [.int x, .int y], .int g] = some (.imm .non, .ds true true (rep (addk ks (ord x y)) (upc cnt (ord x y) (cnt (ord x y) + osg x y * g)))) := by
  have e : inO x y = .tup false [ekey (ord x y), .int (osg x y)] := by unfold inO; rw [if_neg hxy]
  have t := tab_order hs h
  rw [e] at t
  generalize hp : ord x y = p at *
  generalize ho : osg x y = o at *
  have og : o = 1 ∨ o = -1 := by rw [← ho]; unfold osg; split; exact .inl rfl; exact .inr rfl
  let σ := pfr (rep ks cnt) x y g (some (.imm (.tup false [ekey p, .int o])))
  have k0 : mFz (m2 fIx (.pk 3) (.val (mC (.int 0)))) σ = some (ekey p, σ) := fz_eq (s := .imm (ekey p)) (pkval (s := .imm (.tup false [ekey p, .int o])) rfl rfl rfl)
  have k1 : mFz (m2 fIx (.pk 3) (.val (mC (.int 1)))) σ = some (.int o, σ) := fz_eq (s := .imm (.int o)) (pkval (s := .imm (.tup false [ekey p, .int o])) rfl rfl rfl)
  have k2 : mFz (m2 fMul (.val (mFz (m2 fIx (.pk 3) (.val (mC (.int 1)))))) (.pk 2)) σ = some (.int (o * g), σ) := fz_eq (s := .imm (.int (o * g))) (valpk k1 (s := .imm (.int g)) rfl (fMul1 og))
  have k3 : mGet (.pk 0) (mFz (m2 fIx (.pk 3) (.val (mC (.int 0))))) (mC (.int 0)) σ = some (.int (cnt p), σ) := by
    rw [get_eq (io := true) (t := true) (l := rep ks cnt) (z := .int 0) rfl k0 rfl (ekey_ok p), rep_look]
    by_cases q : p ∈ ks
    · rw [if_pos q]; rfl
    · rw [if_neg q, h0 p q]; rfl
  have k4 : mFz (m2 fAdd (.val (mGet (.pk 0) (mFz (m2 fIx (.pk 3) (.val (mC (.int 0))))) (mC (.int 0)))) (.val (mFz (m2 fMul (.val (mFz (m2 fIx (.pk 3) (.val (mC (.int 1)))))) (.pk 2))))) σ = some (.int (cnt p + o * g), σ) := fz_eq (s := .imm (.int (cnt p + o * g))) (vals2 k3 k2 rfl)
  have hlen : (keyOk true (ekey p) && decide ((rep ks cnt).length < LIM)) = true := by
    rw [ekey_ok, Bool.true_and]
    exact decide_eq_true (by unfold rep; rw [List.length_map]; exact Nat.lt_of_lt_of_le hl (by decide))
  have r : m_put_row (pfr (rep ks cnt) x y g none) = some (.nx, pfr (rep (addk ks p) (upc cnt p (cnt p + o * g))) x y g (some (.imm (.tup false [ekey p, .int o])))) := by
    refine (seq_nx (set_eq (σ' := pfr (rep ks cnt) x y g none) (call_eq (mL1 rfl) rfl t) rfl)).trans ?_
    refine (ifT (mT_eq (b := true) (pkval (s := .imm (.tup false [ekey p, .int o])) rfl rfl rfl))).trans ?_
    refine (put_eq (σ := σ) (io := true) (t := true) (l := rep ks cnt) rfl k4 k0 hlen).trans ?_
    rw [rep_put]; rfl
  exact runI_nx r rfl rfl
end Pl
end

section
set_option Elab.async false
set_option linter.all false
set_option maxRecDepth 100000
set_option maxHeartbeats 0
namespace Pl
open PySem PySem.Spec L2 Ev Wk
set_option autoImplicit false
theorem callI_eq {i n : Nat} {g : S → List D → Option (S × S)} {ms : List (M D)} {σ σ' : Fr} {ds : List D} {s0 s1 s s' : S} (h0 : σ[i]? = some (some s1)) (hm : mL ms σ = some (ds, σ')) (h1 : σ'[i]? = some (some s0)) (ho : s0.own = true) (hn : ds.length + 1 = n) (hg : g s0 ds = some (s, s')) : mCallI i n g ms σ = some (s, σ'.set i (some (s'.setIo s0.io))) := by
  unfold mCallI; simp only [h0, hm, h1, ho, hn, decide_true, Bool.and_self, if_true, hg]
structure LInv (s : Int) (ks : List (Int × Int)) (cnt : Int × Int → Int) : Prop where
  nd : ks.Nodup
  sub : ∀ p ∈ ks, p ∈ edges s
  zero : ∀ p, p ∉ ks → cnt p = 0
theorem edge_lt {s : Int} (hs : S34 s) {p : Int × Int} (h : p ∈ edges s) : p.1 < p.2 := by
  rcases hs with rfl | rfl
  · rcases edge3 h with rfl | rfl | rfl <;> decide
  · rcases edge4 h with rfl | rfl | rfl | rfl <;> decide
theorem ord_edge {s x y : Int} (hs : S34 s) (h : Adj s x y) (hxy : x ≠ y) : ord x y ∈ edges s := by
  unfold Adj at h
  have hx : x = 0 ∨ x = 1 ∨ x = 2 ∨ x = 3 := by unfold S34 at hs; omega
  have hy : y = 0 ∨ y = 1 ∨ y = 2 ∨ y = 3 := by unfold S34 at hs; omega
  rcases hs with rfl | rfl <;> rcases hx with rfl | rfl | rfl | rfl <;> rcases hy with rfl | rfl | rfl | rfl <;> first | omega | decide
theorem cc_same (p : Int × Int) (x : Int) (h : p.1 < p.2) : cc p x x = 0 := by
  unfold cc; rw [if_neg (by omega), if_neg (by omega)]
theorem cc_ord (p : Int × Int) (x y : Int) (h : p.1 < p.2) (hxy : x ≠ y) : cc p x y = if p = ord x y then osg x y else 0 := by
  obtain ⟨a, b⟩ := p
  unfold cc ord osg
  dsimp only at h ⊢
  by_cases q : x < y
  · rw [if_pos q, if_pos q]
    by_cases e : x = a ∧ y = b
    · rw [if_pos e, if_pos (by rw [e.1, e.2])]
    · rw [if_neg e, if_neg (by omega), if_neg (fun z => e (by cases z; exact ⟨rfl, rfl⟩))]
  · rw [if_neg q, if_neg q, if_neg (by omega)]
    by_cases e : x = b ∧ y = a
    · rw [if_pos e, if_pos (by rw [e.1, e.2])]
    · rw [if_neg e, if_neg (fun z => e (by cases z; exact ⟨rfl, rfl⟩))]
def ledBody : M Fl := (mDrop (mCallI 3 3 g_put_row [(mFz (mLc (itD (mV 4)) (.nm 6) mYes (mFz (m2 fIx (.pk 0) (.pk 6))) [6])), (mV 5)]))
def lfr (C : D) (m : Nat) (f : Int → Int) (ks : List (Int × Int)) (cnt : Int × Int → Int) (k4 k5 : Option S) : Fr := [some (.imm (.dct false (leads m f))), some (.imm (.int 0)), some (.imm C), some (.ds false true (rep ks cnt)), k4, k5, none]
theorem led_step {C : D} {m s : Nat} {f : Int → Int} (hs : S34 s) {q : Int × Int × Int} (a1 : 0 ≤ q.1) (a2 : q.1 < m) (b1 : 0 ≤ q.2.1) (b2 : q.2.1 < m) (g1 : q.2.2 = 1 ∨ q.2.2 = -1) (ad : Adj s (f q.1) (f q.2.1)) {ks : List (Int × Int)} {cnt : Int × Int → Int} (hI : LInv s ks cnt) (hl : ks.length < 100) :
    ∃ ks' cnt', ledBody (lfr C m f ks cnt (some (.imm (topD q))) (some (.imm (.int q.2.2)))) = some (.nx, lfr C m f ks' cnt' (some (.imm (topD q))) (some (.imm (.int q.2.2)))) ∧ LInv s ks' cnt' ∧ ks'.length ≤ ks.length + 1 ∧ ∀ p ∈ edges s, cnt' p = cnt p + q.2.2 * cc p (f q.1) (f q.2.1) := by
  have hm : mL [(mFz (mLc (itD (mV 4)) (.nm 6) mYes (mFz (m2 fIx (.pk 0) (.pk 6))) [6])), (mV 5)] (lfr C m f ks cnt (some (.imm (topD q))) (some (.imm (.int q.2.2)))) = some ([.lst [.int (f q.1), .int (f q.2.1)], .int q.2.2], lfr C m f ks cnt (some (.imm (topD q))) (some (.imm (.int q.2.2)))) :=
    mL2 (pair_led (s := .imm (.dct false (leads m f))) rfl rfl rfl (by show 6 < 7; decide) (by decide) a1 a2 b1 b2) rfl
  by_cases e : f q.1 = f q.2.1
  · have r := put_same (x := f q.2.1) hs (by rw [e] at ad; exact ad) false (rep ks cnt) q.2.2
    rw [e] at hm
    refine ⟨ks, cnt, drop_eq (callI_eq (s0 := .ds false true (rep ks cnt)) rfl hm rfl rfl rfl r), hI, by omega, fun p hp => ?_⟩
    rw [e, cc_same p _ (edge_lt hs hp), Int.mul_zero, Int.add_zero]
  · have r := put_new hs ad e false hI.zero hl g1
    refine ⟨_, _, drop_eq (callI_eq (s0 := .ds false true (rep ks cnt)) rfl hm rfl rfl rfl r), ⟨?_, ?_, ?_⟩, ?_, fun p hp => ?_⟩
    · unfold addk
      split
      · exact hI.nd
      · rename_i h
        exact List.nodup_append.mpr ⟨hI.nd, by simp, fun a ha b hb => by simp at hb; subst hb; exact fun z => h (z ▸ ha)⟩
    · intro p hp
      unfold addk at hp
      split at hp
      · exact hI.sub p hp
      · rcases List.mem_append.mp hp with hp | hp
        · exact hI.sub p hp
        · simp at hp; subst hp; exact ord_edge hs ad e
    · intro p hp
      have hne : p ≠ ord (f q.1) (f q.2.1) := fun z => by
        subst z
        apply hp
        unfold addk
        split
        · assumption
        · simp
      unfold upc; rw [if_neg hne]
      refine hI.zero p fun z => hp ?_
      unfold addk; split
      · exact z
      · exact List.mem_append_left _ z
    · unfold addk; split
      · omega
      · simp
    · rw [cc_ord p _ _ (edge_lt hs hp) e]
      unfold upc
      by_cases z : p = ord (f q.1) (f q.2.1)
      · rw [if_pos z, if_pos z, z, Int.mul_comm]
      · rw [if_neg z, if_neg z, Int.mul_zero, Int.add_zero]
theorem led_loop {C : D} {m s : Nat} {f : Int → Int} (hs : S34 s) : ∀ (l : List (Int × Int × Int)) {ks : List (Int × Int)} {cnt : Int × Int → Int} {k4 k5 : Option S}, ioF k4 → ioF k5 → (∀ q ∈ l, 0 ≤ q.1 ∧ q.1 < m ∧ 0 ≤ q.2.1 ∧ q.2.1 < m ∧ (q.2.2 = 1 ∨ q.2.2 = -1) ∧ Adj s (f q.1) (f q.2.1)) → LInv s ks cnt → ks.length + l.length < 100 →
    ∃ ks' cnt' j4 j5, lpF (.tp [(.nm 4), (.nm 5)]) ledBody (l.map fun q => .tup false [topD q, .int q.2.2]) (lfr C m f ks cnt k4 k5) = some (.nx, lfr C m f ks' cnt' j4 j5) ∧ LInv s ks' cnt' ∧ ∀ p ∈ edges s, cnt' p = cnt p + net p f l
  | [], ks, cnt, k4, k5, _, _, _, hI, _ => ⟨ks, cnt, k4, k5, rfl, hI, fun p _ => by rw [show net p f [] = 0 from rfl, Int.add_zero]⟩
  | q :: l, ks, cnt, k4, k5, h4, h5, hl, hI, hn => by
    obtain ⟨a1, a2, b1, b2, g1, ad⟩ := hl q (List.mem_cons_self ..)
    rw [List.length_cons] at hn
    obtain ⟨ks1, cnt1, e1, hI1, hl1, hc1⟩ := led_step (C := C) hs a1 a2 b1 b2 g1 ad hI (by omega)
    obtain ⟨ks2, cnt2, j4, j5, e2, hI2, hc2⟩ := led_loop (C := C) hs l (k4 := some (.imm (topD q))) (k5 := some (.imm (.int q.2.2))) (ioF_imm _) (ioF_imm _) (fun r hr => hl r (List.mem_cons_of_mem _ hr)) hI1 (by omega)
    refine ⟨ks2, cnt2, j4, j5, ?_, hI2, fun p hp => ?_⟩
    · have o1 : okSet (lfr C m f ks cnt k4 k5) 4 = true := okSet_of rfl h4
      have o2 : okSet ((lfr C m f ks cnt k4 k5).set 4 (some (.imm (topD q)))) 5 = true := okSet_of rfl h5
      have e : ((lfr C m f ks cnt k4 k5).set 4 (some (.imm (topD q)))).set 5 (some (.imm (.int q.2.2))) = lfr C m f ks cnt (some (.imm (topD q))) (some (.imm (.int q.2.2))) := rfl
      rw [List.map_cons]
      simp only [lpF, Tg.put, Tg.puts, o1, o2, if_true, e, e1, e2]
    · rw [hc2 p hp, hc1 p hp]
      show cnt p + q.2.2 * cc p (f q.1) (f q.2.1) + net p f l = cnt p + (q.2.2 * cc p (f q.1) (f q.2.1) + net p f l)
      rw [Int.add_assoc]
/-! the words at the end, all of them -/
def lists (E : List (Int × Int)) : Nat → List (List (Int × Int))
  | 0 => [[]]
  | n + 1 => [] :: E.flatMap fun a => (lists E n).map fun l => a :: l
theorem mem_lists {E : List (Int × Int)} : ∀ (n : Nat) (ks : List (Int × Int)), ks.length ≤ n → (∀ p ∈ ks, p ∈ E) → ks ∈ lists E n
  | 0, ks, h, _ => by
    cases ks with
    | nil => exact List.mem_cons_self ..
    | cons a l => simp at h
  | n + 1, [], _, _ => List.mem_cons_self ..
  | n + 1, a :: l, h, hE => by
    refine List.mem_cons_of_mem _ (List.mem_flatMap.mpr ⟨a, hE a (List.mem_cons_self ..), List.mem_map.mpr ⟨l, mem_lists n l (by simpa using h) (fun p hp => hE p (List.mem_cons_of_mem _ hp)), rfl⟩⟩)
theorem nodup_len : ∀ (ks L : List (Int × Int)), ks.Nodup → (∀ p ∈ ks, p ∈ L) → ks.length ≤ L.length
  | [], _, _, _ => Nat.zero_le _
  | a :: ks, L, h, hs => by
    have ha := hs a (List.mem_cons_self ..)
    have hn := List.nodup_cons.mp h
    have ih := nodup_len ks (L.erase a) hn.2 (fun p hp => (List.mem_erase_of_ne (fun z : p = a => hn.1 (z ▸ hp))).mpr (hs p (List.mem_cons_of_mem _ hp)))
    rw [List.length_erase_of_mem ha] at ih
    have := List.length_pos_of_mem ha
    rw [List.length_cons]; omega
def ndb : List (Int × Int) → Bool
  | [] => true
  | a :: l => !(l.any fun b => a.1 == b.1 && a.2 == b.2) && ndb l
theorem ndb_of : ∀ {l : List (Int × Int)}, l.Nodup → ndb l = true
  | [], _ => rfl
  | a :: l, h => by
    have hn := List.nodup_cons.mp h
    unfold ndb
    rw [ndb_of hn.2, Bool.and_true, Bool.not_eq_true']
    rw [Bool.eq_false_iff]
    intro z
    rw [List.any_eq_true] at z
    obtain ⟨b, hb, e⟩ := z
    rw [Bool.and_eq_true, beq_iff_eq, beq_iff_eq] at e
    exact hn.1 (by rw [Prod.ext e.1 e.2]; exact hb)
def fin (s : Nat) (t : Int) (ks : List (Int × Int)) : Bool := match g_chain_of [.dct true (rep ks fun p => t * sgn p), .int 0], g_law_sum [.int 0, .lst [.tup false [.int t, whole s]]] with
  | some a, some b => (match fNe a.toD b.toD with
    | some (.imm (.bl false)) => true
    | _ => false)
  | _, _ => false
theorem fin_ok {s : Nat} {t : Int} {ks : List (Int × Int)} (h : fin s t ks = true) : ∃ a b, g_chain_of [.dct true (rep ks fun p => t * sgn p), .int 0] = some a ∧ g_law_sum [.int 0, .lst [.tup false [.int t, whole s]]] = some b ∧ fNe a.toD b.toD = some (.imm (.bl false)) := by
  unfold fin at h
  split at h
  · rename_i a b ea eb
    split at h
    · rename_i e; exact ⟨a, b, ea, eb, e⟩
    · cases h
  · cases h
def finAll (s : Nat) : Bool := [(-3 : Int), -2, -1, 0, 1, 2, 3].all fun t => (lists (edges s) (edges s).length).all fun ks => !ndb ks || (t != 0 && ks.length != (edges s).length) || fin s t ks
theorem fin3 : finAll 3 = true := by kernel_rfl
theorem fin4 : finAll 4 = true := by kernel_rfl
end Pl
end

section
set_option Elab.async false
set_option linter.all false
set_option maxRecDepth 100000
set_option maxHeartbeats 0
namespace Pl
open PySem PySem.Spec L2 Ev Wk
set_option autoImplicit false
theorem lift_good {m s : Nat} {f : Int → Int} {t : Int} (hm : N39 m) (hs : S34 s) (h : Lift m s f t) : Good m s f := lift_adj hs hm.1 h
theorem lift_in {m s t : Int} {f : Int → Int} (hs : S34 s) (h : Lift m s f t) {k : Int} (h0 : 0 ≤ k) (h1 : k < m) : 0 ≤ f k ∧ f k < s := by
  obtain ⟨w, q, _, _⟩ := h
  have s0 : 0 < s := by rcases hs with rfl | rfl <;> decide
  rw [q k h0 h1]
  exact ⟨Int.emod_nonneg _ (by omega), Int.emod_lt_of_pos _ s0⟩
theorem edges_len {s : Nat} (hs : S34 s) : (edges s).Nodup := by
  have hs' : s = 3 ∨ s = 4 := by unfold S34 at hs; omega
  rcases hs' with rfl | rfl <;> decide
theorem fin_of {s : Nat} (hs : S34 s) {t : Int} (h3 : -3 ≤ t ∧ t ≤ 3) {ks : List (Int × Int)} (hn : ks.Nodup) (hE : ∀ p ∈ ks, p ∈ edges s) (hl : t ≠ 0 → ks.length = (edges s).length) : fin s t ks = true := by
  have hA : finAll s = true := by
    have hs' : s = 3 ∨ s = 4 := by unfold S34 at hs; omega
    rcases hs' with rfl | rfl
    · exact fin3
    · exact fin4
  unfold finAll at hA
  have ht : t ∈ [(-3 : Int), -2, -1, 0, 1, 2, 3] := by
    have : t = -3 ∨ t = -2 ∨ t = -1 ∨ t = 0 ∨ t = 1 ∨ t = 2 ∨ t = 3 := by omega
    rcases this with rfl | rfl | rfl | rfl | rfl | rfl | rfl <;> decide
  have h1 := List.all_eq_true.mp hA t ht
  have h2 := List.all_eq_true.mp h1 ks (mem_lists _ ks (nodup_len ks _ hn hE) hE)
  rw [ndb_of hn] at h2
  by_cases z : t = 0
  · subst z; simpa using h2
  · have e := hl z
    simpa [e] using h2
theorem led_gen {m s : Nat} {f : Int → Int} {t : Int} (hm : N39 m) (hs : S34 s) (hL : Lift m s f t) : ∃ a b, g_led [.dct false (leads m f), .int 0, whole m] = some a ∧ g_law_sum [.int 0, .lst [.tup false [.int t, whole s]]] = some b ∧ fNe a.toD b.toD = some (.imm (.bl false)) := by
  have hlen : (tri m).length < 100 := by rw [tri_len]; have := hm.2; omega
  obtain ⟨ks, cnt, j4, j5, e, hI, hc⟩ := led_loop (C := whole m) hs (tri m) (ks := []) (cnt := fun _ => 0) ioF_none ioF_none (lift_good hm hs hL) ⟨List.nodup_nil, by simp, fun _ _ => rfl⟩ (by simpa using hlen)
  have hc' : ∀ p ∈ edges s, cnt p = t * sgn p := fun p hp => by
    rw [hc p hp, net_eq hs hp hm.1 hL, Int.zero_add]
  have hrep : rep ks cnt = rep ks fun p => t * sgn p := by
    unfold rep
    apply List.map_congr_left
    intro p hp
    rw [hc' p (hI.sub p hp)]
  have s0 : ∀ p, sgn p = 1 ∨ sgn p = -1 := fun p => by unfold sgn; split; exact .inl rfl; exact .inr rfl
  have full : t ≠ 0 → ks.length = (edges s).length := fun ht => by
    refine Nat.le_antisymm (nodup_len ks _ hI.nd hI.sub) (nodup_len _ ks (edges_len hs) fun p hp => ?_)
    by_cases hk : p ∈ ks
    · exact hk
    · have z := hI.zero p hk
      rw [hc' p hp] at z
      rcases s0 p with q | q <;> rw [q] at z <;> omega
  obtain ⟨a, b, ha, hb, hne⟩ := fin_ok (fin_of hs (lift_small hL (by have := hm.2; omega) (by omega) hs) hI.nd hI.sub full)
  refine ⟨a, b, ?_, hb, hne⟩
  let σ : Fr := [some (.imm (.dct false (leads m f))), some (.imm (.int 0)), some (.imm (whole m)), some (.imm (.dct true (rep ks cnt))), j4, j5, none]
  refine runV_rt (σ := σ) ?_
  refine (seq_nx (set_eq (σ' := [some (.imm (.dct false (leads m f))), some (.imm (.int 0)), some (.imm (whole m)), none, none, none, none]) (s := .ds false true []) rfl rfl)).trans ?_
  refine (seq_nx ((for_eq (itD_eq (l := (tri m).map fun q => .tup false [topD q, .int q.2.2]) rfl rfl)).trans e)).trans ?_
  refine ret_eq (call_eq (ds := [.dct true (rep ks cnt), .int 0]) rfl rfl ?_)
  rw [hrep]; exact ha
theorem led_ok {m s : Nat} {f : Int → Int} {t : Int} (hm : N39 m) (hs : S34 s) (hL : Lift m s f t) : ∃ a b, g_led_chain [Wb m, Wb s, mp m f, .int 1, .int 0, whole m] = some a ∧ g_law_sum [.int 0, .lst [.tup false [.int t, whole s]]] = some b ∧ fNe a.toD b.toD = some (.imm (.bl false)) := by
  obtain ⟨a, b, ha, hb, hne⟩ := led_gen hm hs hL
  refine ⟨a, b, ?_, hb, hne⟩
  have hM := map_asked_ok hm hs (lift_good hm hs hL)
  have hC := web_chain hm
  have hD := dict_mp hm f
  clear hne hb hL hs
  generalize Wb m = A at *
  generalize Wb s = B at *
  generalize mp m f = P at *
  generalize whole m = C at *
  let σ : Fr := [some (.imm A), some (.imm B), some (.imm P), some (.imm (.int 1)), some (.imm (.int 0)), some (.imm C)]
  have hd : g_degree_asked [.int 1] = some (.imm .non) := by kernel_rfl
  have hn : g_modulus_asked [.int 0] = some (.imm .non) := by kernel_rfl
  have e1 : mDrop (mCall 3 g_map_asked [(mV 0), (mV 1), (mV 2)]) σ = some (.nx, σ) := drop_eq (call_eq (mL3 rfl rfl rfl) rfl hM)
  have e2 : mDrop (mCall 1 g_degree_asked [(mV 3)]) σ = some (.nx, σ) := drop_eq (call_eq (mL1 rfl) rfl hd)
  have e3 : mDrop (mCall 1 g_modulus_asked [(mV 4)]) σ = some (.nx, σ) := drop_eq (call_eq (mL1 rfl) rfl hn)
  have e4 : mDrop (mCall 4 g_chain_asked [(mV 0), (mV 3), (mV 4), (mV 5)]) σ = some (.nx, σ) := drop_eq (call_eq (ds := [A, .int 1, .int 0, C]) rfl rfl hC)
  refine runV_rt (σ := σ) ?_
  refine (seq_nx e1).trans ((seq_nx e2).trans ((seq_nx e3).trans ((seq_nx e4).trans ?_)))
  exact ret_eq (call_eq (mL3 (fz_eq (pk1 (s := .imm P) rfl hD)) rfl rfl) rfl ha)
/-! ### behind -/
theorem behind_ok {m s : Nat} {f g : Int → Int} {t u : Int} (hm : N39 m) (hs : S34 s) (hf : Lift m s f t) (hg : Lift s 3 g u) : g_behind [Wb m, Wb s, Wb 3, mp m f, mp s g] = some (.imm (mp m fun k => g (f k))) := by
  have h3 : S34 ((3 : Nat) : Int) := .inl rfl
  have hM1 := map_asked_ok hm hs (lift_good hm hs hf)
  have hM2 : g_map_asked [Wb s, Wb 3, mp s g] = some (.imm .non) := map_asked_ok hs.n h3 (lift_good hs.n h3 hg)
  have hD := dict_mp hs.n g
  have hin : ∀ k : Nat, k < m → 0 ≤ f k ∧ f k < s := fun k hk => lift_in hs hf (by omega) (by omega)
  have hLIM : m ≤ LIM := Nat.le_trans hm.2 (by decide)
  clear hf hg hs hm
  generalize Wb m = A at *
  generalize Wb s = B at *
  generalize Wb 3 = C at *
  generalize mp s g = P2 at *
  let σ : Fr := [some (.imm A), some (.imm B), some (.imm C), some (.imm (mp m f)), some (.imm P2), none, none, none]
  let σ1 : Fr := [some (.imm A), some (.imm B), some (.imm C), some (.imm (mp m f)), some (.imm P2), some (.ds false false (leads s g)), none, none]
  have e1 : mDrop (mCall 3 g_map_asked [(mV 0), (mV 1), (mV 3)]) σ = some (.nx, σ) := drop_eq (call_eq (mL3 rfl rfl rfl) rfl hM1)
  have e2 : mDrop (mCall 3 g_map_asked [(mV 1), (mV 2), (mV 4)]) σ = some (.nx, σ) := drop_eq (call_eq (mL3 rfl rfl rfl) rfl hM2)
  have e3 : mSet 5 (m1 fDict (.pk 4)) σ = some (.nx, σ1) := set_eq (pk1 (s := .imm P2) rfl hD) rfl
  refine runV_rt (σ := σ1) ?_
  refine (seq_nx e1).trans ((seq_nx e2).trans ((seq_nx e3).trans ?_))
  let F : D → D := fun d => match d with
    | .tup _ [k, .int x] => .tup false [k, .int (g x)]
    | x => x
  have hL : mLc (itD (mV 3)) (.tp [(.nm 6), (.nm 7)]) mYes (mFz (mTup [(mV 6), (mFz (m2 fIx (.pk 5) (.pk 7)))])) [6, 7] σ1 = some (.ls false (((List.range m).map fun k : Nat => D.tup false [.int k, .int (f k)]).map F), σ1) := by
    refine mLc_tp (itD_eq (l := (List.range m).map fun k : Nat => D.tup false [.int k, .int (f k)]) rfl rfl) (by simpa using hLIM) (by decide) (by show 6 < 8; decide) (by show 7 < 8; decide) ?_
    intro d hd
    obtain ⟨k, hk, rfl⟩ := List.mem_map.mp hd
    obtain ⟨h0, h1⟩ := hin k (List.mem_range.mp hk)
    refine ⟨false, .int k, .int (f k), rfl, ?_⟩
    refine fz_eq (s := .imm (.tup false [.int k, .int (g (f k))])) ?_
    have q : mFz (m2 fIx (.pk 5) (.pk 7)) [some (.imm A), some (.imm B), some (.imm C), some (.imm (mp m f)), some (.imm P2), some (.ds false false (leads s g)), some (.imm (.int k)), some (.imm (.int (f k)))] = some (.int (g (f k)), [some (.imm A), some (.imm B), some (.imm C), some (.imm (mp m f)), some (.imm P2), some (.ds false false (leads s g)), some (.imm (.int k)), some (.imm (.int (f k)))]) :=
      fz_eq (s := .imm (.int (g (f k)))) (pks2 (s := .ds false false (leads s g)) (t := .imm (.int (f k))) rfl rfl (look h0 h1))
    show mTup [(mV 6), (mFz (m2 fIx (.pk 5) (.pk 7)))] [some (.imm A), some (.imm B), some (.imm C), some (.imm (mp m f)), some (.imm P2), some (.ds false false (leads s g)), some (.imm (.int k)), some (.imm (.int (f k)))] = _
    unfold mTup
    rw [mL2 rfl q]; rfl
  refine ret_eq (vals1 (fz_eq hL) ?_)
  show some (S.imm (.tup (dictable (((List.range m).map fun k : Nat => D.tup false [.int k, .int (f k)]).map F)) (((List.range m).map fun k : Nat => D.tup false [.int k, .int (f k)]).map F))) = _
  have e : (((List.range m).map fun k : Nat => D.tup false [.int k, .int (f k)]).map F) = (List.range m).map fun k : Nat => D.tup false [.int k, .int (g (f k))] := by
    rw [List.map_map]; rfl
  rw [e]
  have dk : dictable ((List.range m).map fun k : Nat => D.tup false [.int k, .int (g (f k))]) = true := by
    unfold dictable
    rw [List.all_map]
    exact List.all_eq_true.mpr fun _ _ => rfl
  rw [dk]; rfl
end Pl
end

section
set_option Elab.async false
set_option linter.all false
set_option maxRecDepth 100000
set_option maxHeartbeats 0
namespace Pl
open PySem PySem.Spec L2 Ev Wk
set_option autoImplicit false
/-! ### the hand -/
def cellOf (i : Int) : Int := (if i < 0 then -i else i) % 10 ^ 36
theorem hand_ok {ns : List Int} (hn : ns.length ≤ 63) : ∃ h, g_law_hand [.scr ns] = some h ∧ HandOk false h := by
  let σ : Fr := [some (.imm (.scr ns)), none, none]
  let xs := dCut ns none (some 60)
  have hx : xs.length ≤ LIM := Nat.le_trans (Nat.le_trans (by show ((ns.drop _).take _).length ≤ ns.length; rw [List.length_take, List.length_drop]; omega) hn) (by decide)
  let F : D → D := fun d => match d with | .int i => .int (cellOf i) | x => x
  have pw : mFz (m2 (fI2c cPw fun i j => .int (i ^ j.toNat)) (.val (mC (.int 10))) (.val (mC (.int 36)))) = fun σ => some (.int (10 ^ 36), σ) := by
    funext σ
    exact fz_eq (s := .imm (.int (10 ^ 36))) (vals2 rfl rfl (by kernel_rfl))
  have hL : mLc (itD (mFz (mSl (.pk 0) .no (.at_ (mC (.int 60)))))) (.nm 2) mYes (mFz (m2 (fI2c cPos fun i j => .int (i % j)) (.val (mFz (m1 fAbs (.val (mFz (m1 fInt (.pk 2))))))) (.val (mFz (m2 (fI2c cPw fun i j => .int (i ^ j.toNat)) (.val (mC (.int 10))) (.val (mC (.int 36)))))))) [2] σ = some (.ls false ((xs.map D.int).map F), σ) := by
    refine mLc_nm (itD_eq (l := xs.map D.int) rfl rfl) (by rw [List.length_map]; exact hx) (by show 2 < 3; decide) ?_
    intro d hd
    obtain ⟨i, _, rfl⟩ := List.mem_map.mp hd
    rw [pw]
    refine fz_eq (s := .imm (.int (cellOf i))) (vals2 (d := .int (if i < 0 then -i else i)) (fz_eq (s := .imm (.int (if i < 0 then -i else i))) (vals1 (fz_eq (s := .imm (.int i)) (pk1 (s := .imm (.int i)) rfl rfl)) rfl)) rfl ?_)
    show (if cPos (if i < 0 then -i else i) (10 ^ 36) = true then some (S.imm (.int ((if i < 0 then -i else i) % 10 ^ 36))) else none) = _
    rw [if_pos (by show decide ((0 : Int) < 10 ^ 36) = true; decide)]; rfl
  have e : (xs.map D.int).map F = (xs.map cellOf).map D.int := by
    rw [List.map_map, List.map_map]; rfl
  rw [e] at hL
  let σ1 : Fr := [some (.imm (.scr ns)), some (.ls false ((xs.map cellOf).map D.int)), none]
  let σ2 : Fr := [some (.imm (.scr ns)), some (.imm (.lst ((xs.map cellOf).map D.int))), none]
  have e1 : mSet 1 _ σ = some (.nx, σ1) := set_eq hL rfl
  refine ⟨hnd false (xs.map cellOf) 0 0 (4271 + 31 * (((xs.map cellOf).map D.int).length : Int)) 0, runV_rt (σ := σ2) ((seq_nx e1).trans (ret_eq ?_)), ⟨_, _, _, _, _, rfl, by decide⟩⟩
  have q : mFz (m2 fAdd (.val (mC (.int 4271))) (.val (mFz (m2 fMul (.val (mC (.int 31))) (.val (mFz (m1 fLen (.pk 1)))))))) σ2 = some (.int (4271 + 31 * (((xs.map cellOf).map D.int).length : Int)), σ2) := by
    refine fz_eq (s := .imm _) (vals2 rfl (fz_eq (s := .imm (.int (31 * (((xs.map cellOf).map D.int).length : Int)))) (vals2 rfl (fz_eq (s := .imm (.int (((xs.map cellOf).map D.int).length : Int))) (pk1 (s := .imm (.lst ((xs.map cellOf).map D.int))) rfl rfl)) ?_)) rfl)
    have c : cMul 31 (((xs.map cellOf).map D.int).length : Int) = true := by unfold cMul; rw [show sml 31 = true by decide]; rfl
    show (if cMul 31 (((xs.map cellOf).map D.int).length : Int) = true then some (S.imm (.int (31 * (((xs.map cellOf).map D.int).length : Int)))) else none) = _
    rw [if_pos c]
  unfold mLst
  have m0 : mV 1 σ1 = some (.lst ((xs.map cellOf).map D.int), σ2) := rfl
  have mm : mL [(mV 1), (mC (.int 0)), (mC (.int 0)), (mFz (m2 fAdd (.val (mC (.int 4271))) (.val (mFz (m2 fMul (.val (mC (.int 31))) (.val (mFz (m1 fLen (.pk 1))))))))), (mC (.int 0))] σ1 = some ([.lst ((xs.map cellOf).map D.int), .int 0, .int 0, .int (4271 + 31 * (((xs.map cellOf).map D.int).length : Int)), .int 0], σ2) := by
    simp only [mL, m0, mC] at q ⊢
    rw [q]
  rw [mm]; rfl
/-! ### round -/
def rnd (s a l : Int) : Int := (l + (if (a - l) % s < 2 then (a - l) % s else -1) - a) / s
theorem round_ok {ws : List Int} {a l s : Int} (h0 : ws[0]? = some a) (h1 : ws[ws.length - 1]? = some l) (hs : 0 < s) (hs2 : s < 1073741824) : g_law_round [.lst (ws.map D.int), .int s] = some (.imm (.int (rnd s a l))) := by
  have hl : 0 < ws.length := (List.getElem?_eq_some_iff.mp h0).1
  unfold rnd
  by_cases hc : (a - l) % s < 2
  · simp [g_law_round, runV, startF, m_law_round, mSeq, mSet, m2, m1, mFz, A.two, A.one, A.go, A.fin, vw, mC, S.toD, fIx, atI_map0 ws h0, atI_mapL ws hl h1, fNeg, fI2, fI2c, cPos, hs, hs2, mIf, mT, fLt, mMv, okSet, S.io, mRet, fAdd, cDv, hc]
  · simp [g_law_round, runV, startF, m_law_round, mSeq, mSet, m2, m1, mFz, A.two, A.one, A.go, A.fin, vw, mC, S.toD, fIx, atI_map0 ws h0, atI_mapL ws hl h1, fNeg, fI2, fI2c, cPos, hs, hs2, mIf, mT, fLt, mMv, okSet, S.io, mRet, fAdd, cDv, hc]
/-- where corners go -/
def wmap (ws : List Int) (s k : Int) : Int := ws.getD k.toNat 0 % s
theorem walk_lift {m s : Int} {ws : List Int} (hw : WalkOk m s ws) (hs : S34 s) : ∃ a l, ws[0]? = some a ∧ ws[ws.length - 1]? = some l ∧ Lift m s (wmap ws s) (rnd s a l) := by
  obtain ⟨a, ha, a0, a1⟩ := hw.first
  have hl : 0 < ws.length := (List.getElem?_eq_some_iff.mp ha).1
  have hlen := hw.len
  obtain ⟨l, hlast⟩ : ∃ l, ws[ws.length - 1]? = some l := ⟨_, List.getElem?_eq_getElem (by omega)⟩
  refine ⟨a, l, ha, hlast, ?_⟩
  have hc := hw.close a l ha hlast
  refine ⟨fun k => if k < m then ws.getD k.toNat 0 else l + (if (a - l) % s < 2 then (a - l) % s else -1), fun k k0 k1 => ?_, fun k k0 k1 => ?_, ?_⟩
  · show wmap ws s k = (if k < m then _ else _) % s
    rw [if_pos k1]; rfl
  · show near (if k < m then _ else _) (if k + 1 < m then _ else _)
    rw [if_pos k1]
    have e1 : ws[k.toNat]? = some (ws.getD k.toNat 0) := by
      rw [List.getD_eq_getElem?_getD, List.getElem?_eq_getElem (by omega)]; rfl
    by_cases hk : k + 1 < m
    · rw [if_pos hk]
      have en : (k + 1).toNat = k.toNat + 1 := by omega
      have e2 : ws[k.toNat + 1]? = some (ws.getD (k + 1).toNat 0) := by
        rw [en, List.getD_eq_getElem?_getD, List.getElem?_eq_getElem (by omega)]; rfl
      exact hw.steps k.toNat _ _ e1 e2
    · rw [if_neg hk]
      have ek : k.toNat = ws.length - 1 := by omega
      rw [ek, hlast] at e1
      rw [ek, ← Option.some.inj e1]
      unfold near
      rcases hs with rfl | rfl
      · split <;> omega
      · split <;> omega
  · show (if m < m then _ else _) = (if (0 : Int) < m then _ else _) + _
    rw [if_neg (show ¬ (m < m) by omega), if_pos (show (0 : Int) < m by omega)]
    have e0 : ws.getD (0 : Int).toNat 0 = a := by
      rw [List.getD_eq_getElem?_getD, show (0 : Int).toNat = 0 from rfl, ha]; rfl
    rw [e0]
    unfold rnd
    rcases hs with rfl | rfl
    · split <;> omega
    · split <;> omega
/-- standing still -/
theorem still_ok {m : Nat} {s : Int} (hm : 0 < m) (hs : 0 < s) : WalkOk m s (List.replicate m 0) := by
  have el : ∀ (i : Nat) (a : Int), (List.replicate m (0 : Int))[i]? = some a → a = 0 := fun i a h => by
    have := List.mem_of_getElem? h
    exact (List.mem_replicate.mp this).2
  refine ⟨by simp, ⟨0, by rw [List.getElem?_replicate, if_pos hm], by decide, hs⟩, fun i a b ha hb => ?_, fun a b ha hb => ?_⟩
  · rw [el _ _ ha, el _ _ hb]; exact .inr (.inl (by decide))
  · rw [el _ _ ha, el _ _ hb]; exact .inl (by simp)
end Pl
end

section
set_option Elab.async false
set_option linter.all false
set_option maxRecDepth 100000
set_option maxHeartbeats 0
namespace Pl
open PySem PySem.Spec L2 Ev Wk
set_option autoImplicit false
/-! ### the parts of the law -/
def lw1 : M Fl := (mSet 1 (mCall 1 g_law_hand [(mV 0)]))
def lw2 : M Fl := (mSet 2 (mLst [(mFz (m2 fAdd (.val (mC (.int 3))) (.val (mFz (mCallI 1 2 g_law_draw [(mC (.int 7))]))))), (mFz (m2 fAdd (.val (mC (.int 3))) (.val (mFz (mCallI 1 2 g_law_draw [(mC (.int 2))]))))), (mC (.int 3))]))
def lw3 : M Fl := (mSet 3 (mLc (itD (mV 2)) (.nm 20) mYes (mFz (mCall 1 g_Web [(mFz (m2 fIx (.val (mFz (mCall 1 g_law_ring [(mV 20)]))) (.val (mC (.int 0)))))])) [20]))
def lw4 : M Fl := (mSet 4 (mLst []))
def lw5 : M Fl := (mFor (itR1 (mC (.int 2))) (.nm 5) (mSeq (mSet 15 (mIm (mC .non))) (mSeq (mFor (itR1 (mC (.int 20))) (.nm 16) (mSet 15 (mIf (mT (m2 (fIsN false) (.pk 15) (.val (mC .non)))) (mCallI 1 3 g_law_walk [(mFz (m2 fIx (.pk 2) (.pk 5))), (mFz (m2 fIx (.pk 2) (.val (mFz (m2 fAdd (.pk 5) (.val (mC (.int 1))))))))]) (mMv 15)))) (mDrop (mApp 4 (mFz (mIf (mT (m2 (fIsN true) (.pk 15) (.val (mC .non)))) (mMv 15) (m2 fMul (.val (mFz (mLst [(mC (.int 0))]))) (.val (mFz (m2 fIx (.pk 2) (.pk 5))))))))))))
def lw6 : M Fl := (mSet 6 (mLc (itR1 (mC (.int 2))) (.nm 9) mYes (mFz (m1 fTup (.val (mFz (mLc (itR1 (mFz (m2 fIx (.pk 2) (.pk 9)))) (.nm 5) mYes (mFz (mTup [(mV 5), (mFz (m2 (fI2c cPos fun i j => .int (i % j)) (.val (mFz (m2 fIx (.val (mFz (m2 fIx (.pk 4) (.pk 9)))) (.pk 5)))) (.val (mFz (m2 fIx (.pk 2) (.val (mFz (m2 fAdd (.pk 9) (.val (mC (.int 1)))))))))))])) [5]))))) [9]))
def lw7 : M Fl := (mSet 7 (mLc (itD (mV 3)) (.nm 21) mYes (mFz (mCall 1 g_whole_chain [(mV 21)])) [21]))
def lw8 : M Fl := (mSet 8 (mLst []))
def lw9 : M Fl := (mFor (itR1 (mC (.int 2))) (.nm 9) (mSeq (mIf (mT (m2 (fIsB true) (.val (mFz (mCall 3 g_is_map [(mFz (m2 fIx (.pk 3) (.pk 9))), (mFz (m2 fIx (.pk 3) (.val (mFz (m2 fAdd (.pk 9) (.val (mC (.int 1)))))))), (mFz (m2 fIx (.pk 6) (.pk 9)))]))) (.val (mC (.bl true))))) (mRet (mIm (mC (.bl false)))) mNx) (mSeq (mSet 14 (mCall 3 g_degree_of [(mFz (m2 fIx (.pk 3) (.pk 9))), (mFz (m2 fIx (.pk 3) (.val (mFz (m2 fAdd (.pk 9) (.val (mC (.int 1)))))))), (mFz (m2 fIx (.pk 6) (.pk 9)))])) (mSeq (mIf (mT (m2 fNe (.val (mFz (mCall 6 g_led_chain [(mFz (m2 fIx (.pk 3) (.pk 9))), (mFz (m2 fIx (.pk 3) (.val (mFz (m2 fAdd (.pk 9) (.val (mC (.int 1)))))))), (mFz (m2 fIx (.pk 6) (.pk 9))), (mC (.int 1)), (mC (.int 0)), (mFz (m2 fIx (.pk 7) (.pk 9)))]))) (.val (mFz (mCall 2 g_law_sum [(mC (.int 0)), (mFz (mLst [(mFz (mTup [(mV 14), (mFz (m2 fIx (.pk 7) (.val (mFz (m2 fAdd (.pk 9) (.val (mC (.int 1))))))))]))]))]))))) (mRet (mIm (mC (.bl false)))) mNx) (mSeq (mSet 17 (mLc (itR1 (mC (.int 2))) (.nm 5) mYes (mFz (m2 fIx (.val (mFz (m1 fDict (.val (mFz (mCall 2 g_law_up [(mFz (m2 fIx (.pk 7) (.val (mFz (m2 fAdd (.pk 9) (.pk 5)))))), (mFz (m2 fIx (.pk 2) (.val (mFz (m2 fAdd (.pk 9) (.pk 5))))))])))))) (.val (mC (.int 0))))) [5])) (mSeq (mIf (mT (m2 fNe (.val (mFz (m2 fMul (.val (mFz (m2 fMul (.pk 14) (.val (mFz (m2 fIx (.pk 17) (.val (mC (.int 0))))))))) (.val (mFz (m2 fIx (.pk 17) (.val (mC (.int 1))))))))) (.val (mFz (mCall 2 g_law_round [(mFz (m2 fIx (.pk 4) (.pk 9))), (mFz (m2 fIx (.pk 2) (.val (mFz (m2 fAdd (.pk 9) (.val (mC (.int 1))))))))]))))) (mRet (mIm (mC (.bl false)))) mNx) (mDrop (mApp 8 (mV 14)))))))))
def lw10 : M Fl := (mSet 10 (mCall 5 g_behind [(mFz (m2 fIx (.pk 3) (.val (mC (.int 0))))), (mFz (m2 fIx (.pk 3) (.val (mC (.int 1))))), (mFz (m2 fIx (.pk 3) (.val (mC (.int 2))))), (mFz (m2 fIx (.pk 6) (.val (mC (.int 0))))), (mFz (m2 fIx (.pk 6) (.val (mC (.int 1)))))]))
def lw11 : M Fl := (mIf (mT (m2 fNe (.val (mFz (mCall 3 g_degree_of [(mFz (m2 fIx (.pk 3) (.val (mC (.int 0))))), (mFz (m2 fIx (.pk 3) (.val (mC (.int 2))))), (mV 10)]))) (.val (mFz (m2 fMul (.val (mFz (m2 fIx (.pk 8) (.val (mC (.int 0)))))) (.val (mFz (m2 fIx (.pk 8) (.val (mC (.int 1))))))))))) (mRet (mIm (mC (.bl false)))) mNx)
def lw12 : M Fl := (mSet 11 (m2 fAdd (.val (mC (.int 3))) (.val (mFz (mCallI 1 2 g_law_draw [(mC (.int 3))])))))
def lw13 : M Fl := (mSet 12 (mCall 1 g_Web [(mFz (m2 fIx (.val (mFz (mCall 1 g_law_web [(mFz (mLc (itR1 (mV 11)) (.nm 9) mYes (mFz (m1 fTup (.val (mFz (mLc (itR1 (mV 11)) (.nm 5) (mT (m2 fNe (.pk 5) (.pk 9))) (mV 5) [5]))))) [9]))]))) (.val (mC (.int 0)))))]))
def lw14 : M Fl := (mAsg (.tp [(.nm 18), (.nm 19)]) (mFz (mTup [(mFz (mCallI 1 2 g_law_draw [(mV 11)])), (mFz (mCallI 1 2 g_law_draw [(mV 11)]))])))
def lw15 : M Fl := (mSet 13 (mLc (itR1 (mV 11)) (.nm 5) mYes (mFz (m2 fIx (.val (mFz (mLst [(mV 5), (mV 19), (mV 18)]))) (.val (mFz (m2 fAdd (.val (mFz (m1 fInt (.val (mFz (m2 fEq (.pk 5) (.pk 18))))))) (.val (mFz (m2 fMul (.val (mC (.int 2))) (.val (mFz (m1 fInt (.val (mFz (mAnd (m2 fEq (.pk 5) (.pk 19)) (m2 fNe (.pk 18) (.pk 19)))))))))))))))) [5]))
def lw16 : M Fl := (mSet 14 (mCall 3 g_degree_of [(mV 12), (mV 12), (mFz (m1 fTup (.val (mFz (mLc (itR1 (mV 11)) (.nm 5) mYes (mFz (mTup [(mV 5), (mFz (m2 fIx (.pk 13) (.pk 5)))])) [5])))))]))
def lw17 : M Fl := (mRet (m2 fEq (.pk 14) (.val (mFz (mIf (mT (m2 fEq (.pk 18) (.pk 19))) (mIm (mC (.int 1))) (m1 fNeg (.val (mC (.int 1)))))))))
theorem m_law_eq : m_law = mSeq lw1 (mSeq lw2 (mSeq lw3 (mSeq lw4 (mSeq lw5 (mSeq lw6 (mSeq lw7 (mSeq lw8 (mSeq lw9 (mSeq lw10 (mSeq lw11 (mSeq lw12 (mSeq lw13 (mSeq lw14 (mSeq lw15 (mSeq lw16 (lw17)))))))))))))))) := rfl
def L (ns : List Int) (h : S) (a2 a3 a4 a5 a6 a7 a8 a9 a10 a11 a12 a13 a14 a15 a16 a17 a18 a19 : Option S) : Fr := [some (.imm (.scr ns)), some h, a2, a3, a4, a5, a6, a7, a8, a9, a10, a11, a12, a13, a14, a15, a16, a17, a18, a19, none, none]
/-! sizes -/
theorem sizes_ok {ns : List Int} {h : S} (hh : HandOk false h) : ∃ (m s : Nat) (h' : S), lw2 (L ns h none none none none none none none none none none none none none none none none none none) = some (.nx, L ns h' (some (.ls false [.int m, .int s, .int 3])) none none none none none none none none none none none none none none none none none) ∧ HandOk false h' ∧ N39 m ∧ S34 s := by
  obtain ⟨d1, h1, e1, p1, q1, hh1⟩ := call_draw (j := 1) (σ := L ns h none none none none none none none none none none none none none none none none none none) (ms := [mC (.int 7)]) (n := 7) rfl rfl hh (by decide) (by decide)
  obtain ⟨d2, h2, e2, p2, q2, hh2⟩ := call_draw (j := 1) (σ := L ns h1 none none none none none none none none none none none none none none none none none none) (ms := [mC (.int 2)]) (n := 2) rfl rfl hh1 (by decide) (by decide)
  obtain ⟨m, hm⟩ : ∃ m : Nat, (3 : Int) + d1 = m := ⟨(3 + d1).toNat, by omega⟩
  obtain ⟨s, hs⟩ : ∃ s : Nat, (3 : Int) + d2 = s := ⟨(3 + d2).toNat, by omega⟩
  refine ⟨m, s, h2, ?_, hh2, by unfold N39; omega, by unfold S34; omega⟩
  refine set_eq (s := .ls false [.int m, .int s, .int 3]) (σ' := L ns h2 none none none none none none none none none none none none none none none none none none) ?_ rfl
  have a1 : mFz (m2 fAdd (.val (mC (.int 3))) (.val (mFz (mCallI 1 2 g_law_draw [(mC (.int 7))])))) (L ns h none none none none none none none none none none none none none none none none none none) = some (.int m, L ns h1 none none none none none none none none none none none none none none none none none none) := fz_eq (s := .imm (.int m)) (vals2 rfl e1 (by rw [← hm]; rfl))
  have a2 : mFz (m2 fAdd (.val (mC (.int 3))) (.val (mFz (mCallI 1 2 g_law_draw [(mC (.int 2))])))) (L ns h1 none none none none none none none none none none none none none none none none none none) = some (.int s, L ns h2 none none none none none none none none none none none none none none none none none none) := fz_eq (s := .imm (.int s)) (vals2 rfl e2 (by rw [← hs]; rfl))
  unfold mLst
  rw [mL3 a1 a2 rfl]; rfl
/-! webs -/
def ringS (n : Int) : S := match g_law_ring [.int n] with
  | some r => r
  | none => .prv
theorem ring_ok {n : Nat} (h : N39 n) : g_law_ring [.int n] = some (ringS n) ∧ fIx (ringS n).toD (.int 0) = some (.imm (tpsD n)) ∧ g_Web [tpsD n] = some (.imm (Wb n)) := by
  rcases h.cases with rfl | rfl | rfl | rfl | rfl | rfl | rfl <;> exact ⟨by kernel_rfl, by kernel_rfl, by kernel_rfl⟩
def webOf : D → D := fun d => match d with
  | .int n => Wb n
  | x => x
theorem webOf_int (n : Int) : webOf (.int n) = Wb n := by simp only [webOf]
theorem web_te {n : Int} {σ : Fr} (hn : g_law_ring [.int n] = some (ringS n) ∧ fIx (ringS n).toD (.int 0) = some (.imm (tpsD n)) ∧ g_Web [tpsD n] = some (.imm (Wb n))) (e : σ[20]? = some (some (.imm (.int n)))) : mFz (mCall 1 g_Web [(mFz (m2 fIx (.val (mFz (mCall 1 g_law_ring [(mV 20)]))) (.val (mC (.int 0)))))]) σ = some (Wb n, σ) := by
  obtain ⟨r1, r2, r3⟩ := hn
  generalize Wb n = w at *
  generalize tpsD n = t at *
  generalize ringS n = r at *
  exact fz_eq (s := .imm w) (call_eq (mL1 (fz_eq (s := .imm t) (vals2 (fz_eq (call_eq (mL1 (mV_imm e)) rfl r1)) rfl r2))) rfl r3)
theorem webs_ok {ns : List Int} {h : S} {m s : Nat} (hm : N39 m) (hs : N39 s) : lw3 (L ns h (some (.ls false [.int m, .int s, .int 3])) none none none none none none none none none none none none none none none none none) = some (.nx, L ns h (some (.imm (.lst [.int m, .int s, .int 3]))) (some (.ls false [Wb m, Wb s, Wb 3])) none none none none none none none none none none none none none none none none) := by
  have r1 := ring_ok hm
  have r2 := ring_ok hs
  have r3 : g_law_ring [.int 3] = some (ringS 3) ∧ fIx (ringS 3).toD (.int 0) = some (.imm (tpsD 3)) ∧ g_Web [tpsD 3] = some (.imm (Wb 3)) := ring_ok (n := 3) (by unfold N39; omega)
  have te : ∀ d ∈ [D.int m, D.int s, D.int 3], mFz (mCall 1 g_Web [(mFz (m2 fIx (.val (mFz (mCall 1 g_law_ring [(mV 20)]))) (.val (mC (.int 0)))))]) ((L ns h (some (.imm (.lst [.int m, .int s, .int 3]))) none none none none none none none none none none none none none none none none none).set 20 (some (.imm d))) = some (webOf d, (L ns h (some (.imm (.lst [.int m, .int s, .int 3]))) none none none none none none none none none none none none none none none none none).set 20 (some (.imm d))) := by
    intro d hd
    simp only [List.mem_cons, List.not_mem_nil, or_false] at hd
    rcases hd with rfl | rfl | rfl
    · rw [webOf_int]; exact web_te r1 rfl
    · rw [webOf_int]; exact web_te r2 rfl
    · rw [webOf_int]; exact web_te r3 rfl
  have e : [D.int m, D.int s, D.int 3].map webOf = [Wb m, Wb s, Wb 3] := by
    simp only [List.map_cons, List.map_nil, webOf_int]
  clear r1 r2 r3
  generalize webOf = f at te e
  generalize Wb m = A at *
  generalize Wb s = B at *
  generalize Wb 3 = C at *
  have q := mLc_nm (j := 20) (it := itD (mV 2)) (σ := L ns h (some (.ls false [.int m, .int s, .int 3])) none none none none none none none none none none none none none none none none none) (ds := [.int m, .int s, .int 3]) (f := f) (σ1 := L ns h (some (.imm (.lst [.int m, .int s, .int 3]))) none none none none none none none none none none none none none none none none none) rfl (by show 3 ≤ LIM; decide) (by show 20 < 22; decide) te
  rw [e] at q
  exact set_eq q rfl
/-! walks -/
def tryB : M Fl := (mSet 15 (mIf (mT (m2 (fIsN false) (.pk 15) (.val (mC .non)))) (mCallI 1 3 g_law_walk [(mFz (m2 fIx (.pk 2) (.pk 5))), (mFz (m2 fIx (.pk 2) (.val (mFz (m2 fAdd (.pk 5) (.val (mC (.int 1))))))))]) (mMv 15)))
def fr5 (ns : List Int) (h : S) (zs : List D) (k3 : Option S) (ws : List D) (j : Int) (k15 k16 : Option S) : Fr := L ns h (some (.imm (.lst zs))) k3 (some (.ls false ws)) (some (.imm (.int j))) none none none none none none none none none k15 k16 none none none
def FoundOk (m s : Int) (x : S) : Prop := x = .imm .non ∨ ∃ ws : List Int, x = .ls false (ws.map D.int) ∧ WalkOk m s ws
section
variable {ns : List Int} {zs : List D} {k3 : Option S} {wl : List D} {j : Int} {m s : Int}
theorem try_ok {h x : S} {k16 : Option S} (i0 : fIx (.lst zs) (.int j) = some (.imm (.int m))) (i1 : fIx (.lst zs) (.int (j + 1)) = some (.imm (.int s))) (hm : 2 ≤ m) (hm2 : m < 50) (hs : 0 < s) (hs2 : s < 1000) (hh : HandOk false h) (hx : FoundOk m s x) :
    ∃ h' x', tryB (fr5 ns h zs k3 wl j (some x) k16) = some (.nx, fr5 ns h' zs k3 wl j (some x') k16) ∧ HandOk false h' ∧ FoundOk m s x' := by
  rcases hx with rfl | ⟨ws, rfl, hw⟩
  · obtain ⟨r, h', e, hh', hr⟩ := walk_ok hh hm hm2 hs hs2
    refine ⟨h'.setIo false, r, ?_, hh'.io, hr⟩
    have ml : mL [(mFz (m2 fIx (.pk 2) (.pk 5))), (mFz (m2 fIx (.pk 2) (.val (mFz (m2 fAdd (.pk 5) (.val (mC (.int 1))))))))] (fr5 ns h zs k3 wl j (some (.imm .non)) k16) = some ([.int m, .int s], fr5 ns h zs k3 wl j (some (.imm .non)) k16) :=
      mL2 (fz_eq (s := .imm (.int m)) (pks2 (s := .imm (.lst zs)) (t := .imm (.int j)) rfl rfl i0)) (fz_eq (s := .imm (.int s)) (pkval (s := .imm (.lst zs)) rfl (fz_eq (s := .imm (.int (j + 1))) (pkval (s := .imm (.int j)) rfl rfl rfl)) i1))
    have hi := callI_eq (i := 1) (n := 3) (g := g_law_walk) (s0 := h) (s1 := h) (σ := fr5 ns h zs k3 wl j (some (.imm .non)) k16) rfl ml rfl hh.ls.1 rfl e
    rw [hh.ls.2] at hi
    refine set_eq (s := r) (σ' := fr5 ns (h'.setIo false) zs k3 wl j (some (.imm .non)) k16) ((ifT (mT_eq (b := true) (pkval (s := .imm .non) rfl rfl rfl))).trans hi) rfl
  · refine ⟨h, .ls false (ws.map D.int), ?_, hh, .inr ⟨ws, rfl, hw⟩⟩
    exact set_eq (s := .ls false (ws.map D.int)) (σ' := fr5 ns h zs k3 wl j none k16) ((ifF (mT_eq (b := false) (pkval (s := .ls false (ws.map D.int)) rfl rfl rfl))).trans rfl) rfl
theorem tries_ok (i0 : fIx (.lst zs) (.int j) = some (.imm (.int m))) (i1 : fIx (.lst zs) (.int (j + 1)) = some (.imm (.int s))) (hm : 2 ≤ m) (hm2 : m < 50) (hs : 0 < s) (hs2 : s < 1000) : ∀ (ds : List D) {h x : S} {k16 : Option S}, HandOk false h → FoundOk m s x → ioF k16 →
    ∃ h' x' k', lpF (.nm 16) tryB ds (fr5 ns h zs k3 wl j (some x) k16) = some (.nx, fr5 ns h' zs k3 wl j (some x') k') ∧ HandOk false h' ∧ FoundOk m s x' ∧ ioF k'
  | [], h, x, k16, hh, hx, hk => ⟨h, x, k16, rfl, hh, hx, hk⟩
  | d :: ds, h, x, k16, hh, hx, hk => by
    obtain ⟨h1, x1, e1, hh1, hx1⟩ := try_ok (ns := ns) (k3 := k3) (wl := wl) (k16 := some (.imm d)) i0 i1 hm hm2 hs hs2 hh hx
    obtain ⟨h2, x2, k2, e2, hh2, hx2, hk2⟩ := tries_ok i0 i1 hm hm2 hs hs2 ds hh1 hx1 (ioF_imm d)
    refine ⟨h2, x2, k2, ?_, hh2, hx2, hk2⟩
    have o : okSet (fr5 ns h zs k3 wl j (some x) k16) 16 = true := okSet_of rfl hk
    have e : (fr5 ns h zs k3 wl j (some x) k16).set 16 (some (.imm d)) = fr5 ns h zs k3 wl j (some x) (some (.imm d)) := rfl
    simp only [lpF, Tg.put, o, if_true, e, e1, e2]
def endB : M S := (mIf (mT (m2 (fIsN true) (.pk 15) (.val (mC .non)))) (mMv 15) (m2 fMul (.val (mFz (mLst [(mC (.int 0))]))) (.val (mFz (m2 fIx (.pk 2) (.pk 5))))))
theorem rep_flat (n : Nat) : (List.replicate n [D.int 0]).flatten = (List.replicate n (0 : Int)).map D.int := by
  induction n with
  | zero => rfl
  | succ n ih => rw [List.replicate_succ, List.flatten_cons, ih, List.replicate_succ]; rfl
theorem endB_ok {h x : S} {k16 : Option S} (i0 : fIx (.lst zs) (.int j) = some (.imm (.int m))) (hm : 2 ≤ m) (hm2 : m < 50) (hs : 0 < s) (hx : FoundOk m s x) : ∃ (ws : List Int) (k15 : Option S), endB (fr5 ns h zs k3 wl j (some x) k16) = some (.ls false (ws.map D.int), fr5 ns h zs k3 wl j k15 k16) ∧ WalkOk m s ws ∧ ioF k15 := by
  rcases hx with rfl | ⟨ws, rfl, hw⟩
  · refine ⟨List.replicate m.toNat 0, some (.imm .non), (ifF (mT_eq (b := false) (pkval (s := .imm .non) rfl rfl rfl))).trans (vals2 (d := .lst [.int 0]) (e := .int m) rfl (fz_eq (s := .imm (.int m)) (pks2 (s := .imm (.lst zs)) (t := .imm (.int j)) rfl rfl i0)) ?_), ?_, ioF_imm _⟩
    · have ok : (okR m && decide (([D.int 0]).length * m.toNat ≤ LIM)) = true := by
        rw [Bool.and_eq_true]
        refine ⟨by unfold okR; simp; omega, decide_eq_true (Nat.le_trans (show 1 * m.toNat ≤ 50 by omega) (by decide))⟩
      show (if (okR m && decide (([D.int 0]).length * m.toNat ≤ LIM)) = true then some (S.ls false (List.replicate m.toNat [D.int 0]).flatten) else none) = _
      rw [if_pos ok, rep_flat]
    · have := still_ok (m := m.toNat) (s := s) (by omega) hs
      rw [Int.toNat_of_nonneg (by omega)] at this
      exact this
  · exact ⟨ws, none, (ifT (mT_eq (b := true) (pkval (s := .ls false (ws.map D.int)) rfl rfl rfl))).trans rfl, hw, ioF_none⟩
def walkB : M Fl := mSeq (mSet 15 (mIm (mC .non))) (mSeq (mFor (itR1 (mC (.int 20))) (.nm 16) tryB) (mDrop (mApp 4 (mFz endB))))
theorem lw5_eq : lw5 = mFor (itR1 (mC (.int 2))) (.nm 5) walkB := rfl
theorem walkB_ok {h : S} {k15 k16 : Option S} (i0 : fIx (.lst zs) (.int j) = some (.imm (.int m))) (i1 : fIx (.lst zs) (.int (j + 1)) = some (.imm (.int s))) (hm : 2 ≤ m) (hm2 : m < 50) (hs : 0 < s) (hs2 : s < 1000) (hh : HandOk false h) (h15 : ioF k15) (h16 : ioF k16) (hw : wl.length < 10) :
    ∃ (h' : S) (ws : List Int) (j15 j16 : Option S), walkB (fr5 ns h zs k3 wl j k15 k16) = some (.nx, fr5 ns h' zs k3 (wl ++ [.lst (ws.map D.int)]) j j15 j16) ∧ HandOk false h' ∧ WalkOk m s ws ∧ ioF j15 ∧ ioF j16 := by
  obtain ⟨h1, x1, j16, e1, hh1, hx1, hj16⟩ := tries_ok (ns := ns) (k3 := k3) (wl := wl) i0 i1 hm hm2 hs hs2 (dRng 0 20) (k16 := k16) hh (.inl rfl) h16
  obtain ⟨ws, j15, e2, hws, hj15⟩ := endB_ok (ns := ns) (h := h1) (k3 := k3) (wl := wl) (k16 := j16) i0 hm hm2 hs hx1
  refine ⟨h1, ws, j15, j16, ?_, hh1, hws, hj15, hj16⟩
  refine (seq_nx (set_eq (s := .imm .non) (σ' := fr5 ns h zs k3 wl j k15 k16) rfl (okSet_of rfl h15))).trans ?_
  refine (seq_nx ((for_eq (ds := dRng 0 20) (σ1 := fr5 ns h zs k3 wl j (some (.imm .non)) k16) rfl).trans e1)).trans ?_
  have hl : wl.length < LIM := Nat.lt_of_lt_of_le hw (by decide)
  refine drop_eq (s := .imm .non) ?_
  unfold mApp
  show (match mFz endB (fr5 ns h1 zs k3 wl j (some x1) j16) with | some (d, σ1) => _ | none => none) = _
  rw [fz_eq e2]
  show (if wl.length < LIM then _ else _) = _
  rw [if_pos hl]; rfl
end
theorem walks_ok {ns : List Int} {h : S} {m s : Nat} {k3 : Option S} (hh : HandOk false h) (hm : N39 m) (hs : S34 s) : ∃ (h' : S) (w0 w1 : List Int) (j15 j16 : Option S), lw5 (L ns h (some (.imm (.lst [.int m, .int s, .int 3]))) k3 (some (.ls false [])) none none none none none none none none none none none none none none none) = some (.nx, fr5 ns h' [.int m, .int s, .int 3] k3 [.lst (w0.map D.int), .lst (w1.map D.int)] 1 j15 j16) ∧ HandOk false h' ∧ WalkOk m s w0 ∧ WalkOk s 3 w1 ∧ ioF j15 ∧ ioF j16 := by
  have m0 := hm.1
  have m9 := hm.2
  have s0 : (3 : Int) ≤ s ∧ (s : Int) ≤ 4 := by unfold S34 at hs; omega
  obtain ⟨h1, w0, a15, a16, e1, hh1, hw0, i15, i16⟩ := walkB_ok (ns := ns) (zs := [.int m, .int s, .int 3]) (k3 := k3) (wl := []) (j := 0) (m := m) (s := s) (k15 := none) (k16 := none) rfl rfl (by omega) (by omega) (by omega) (by omega) hh ioF_none ioF_none (by decide)
  obtain ⟨h2, w1, b15, b16, e2, hh2, hw1, j15, j16⟩ := walkB_ok (ns := ns) (zs := [.int m, .int s, .int 3]) (k3 := k3) (wl := [] ++ [.lst (w0.map D.int)]) (j := 1) (m := s) (s := 3) (k15 := a15) (k16 := a16) rfl rfl (by omega) (by omega) (by omega) (by omega) hh1 i15 i16 (by simp)
  refine ⟨h2, w0, w1, b15, b16, ?_, hh2, hw0, hw1, j15, j16⟩
  rw [lw5_eq]
  refine (for_eq (ds := [.int 0, .int 1]) (σ1 := L ns h (some (.imm (.lst [.int m, .int s, .int 3]))) k3 (some (.ls false [])) none none none none none none none none none none none none none none none) rfl).trans ?_
  have p1 : Tg.put (.nm 5) (.int 0) (L ns h (some (.imm (.lst [.int m, .int s, .int 3]))) k3 (some (.ls false [])) none none none none none none none none none none none none none none none) = some (fr5 ns h [.int m, .int s, .int 3] k3 [] 0 none none) := rfl
  have p2 : Tg.put (.nm 5) (.int 1) (fr5 ns h1 [.int m, .int s, .int 3] k3 ([] ++ [.lst (w0.map D.int)]) 0 a15 a16) = some (fr5 ns h1 [.int m, .int s, .int 3] k3 ([] ++ [.lst (w0.map D.int)]) 1 a15 a16) := rfl
  simp only [lpF, p1, e1, p2, e2]
  rfl
end Pl
end

section
set_option Elab.async false
set_option linter.all false
set_option maxRecDepth 100000
set_option maxHeartbeats 0
namespace Pl
open PySem PySem.Spec L2 Ev Wk
set_option autoImplicit false
def tb1 : M Fl := (mIf (mT (m2 (fIsB true) (.val (mFz (mCall 3 g_is_map [(mFz (m2 fIx (.pk 3) (.pk 9))), (mFz (m2 fIx (.pk 3) (.val (mFz (m2 fAdd (.pk 9) (.val (mC (.int 1)))))))), (mFz (m2 fIx (.pk 6) (.pk 9)))]))) (.val (mC (.bl true))))) (mRet (mIm (mC (.bl false)))) mNx)
def tb2 : M Fl := (mSet 14 (mCall 3 g_degree_of [(mFz (m2 fIx (.pk 3) (.pk 9))), (mFz (m2 fIx (.pk 3) (.val (mFz (m2 fAdd (.pk 9) (.val (mC (.int 1)))))))), (mFz (m2 fIx (.pk 6) (.pk 9)))]))
def tb3 : M Fl := (mIf (mT (m2 fNe (.val (mFz (mCall 6 g_led_chain [(mFz (m2 fIx (.pk 3) (.pk 9))), (mFz (m2 fIx (.pk 3) (.val (mFz (m2 fAdd (.pk 9) (.val (mC (.int 1)))))))), (mFz (m2 fIx (.pk 6) (.pk 9))), (mC (.int 1)), (mC (.int 0)), (mFz (m2 fIx (.pk 7) (.pk 9)))]))) (.val (mFz (mCall 2 g_law_sum [(mC (.int 0)), (mFz (mLst [(mFz (mTup [(mV 14), (mFz (m2 fIx (.pk 7) (.val (mFz (m2 fAdd (.pk 9) (.val (mC (.int 1))))))))]))]))]))))) (mRet (mIm (mC (.bl false)))) mNx)
def tb4 : M Fl := (mSet 17 (mLc (itR1 (mC (.int 2))) (.nm 5) mYes (mFz (m2 fIx (.val (mFz (m1 fDict (.val (mFz (mCall 2 g_law_up [(mFz (m2 fIx (.pk 7) (.val (mFz (m2 fAdd (.pk 9) (.pk 5)))))), (mFz (m2 fIx (.pk 2) (.val (mFz (m2 fAdd (.pk 9) (.pk 5))))))])))))) (.val (mC (.int 0))))) [5]))
def tb5 : M Fl := (mIf (mT (m2 fNe (.val (mFz (m2 fMul (.val (mFz (m2 fMul (.pk 14) (.val (mFz (m2 fIx (.pk 17) (.val (mC (.int 0))))))))) (.val (mFz (m2 fIx (.pk 17) (.val (mC (.int 1))))))))) (.val (mFz (mCall 2 g_law_round [(mFz (m2 fIx (.pk 4) (.pk 9))), (mFz (m2 fIx (.pk 2) (.val (mFz (m2 fAdd (.pk 9) (.val (mC (.int 1))))))))]))))) (mRet (mIm (mC (.bl false)))) mNx)
def tb6 : M Fl := (mDrop (mApp 8 (mV 14)))
def toldB : M Fl := mSeq tb1 (mSeq tb2 (mSeq tb3 (mSeq tb4 (mSeq tb5 (tb6)))))
theorem lw9_eq : lw9 = mFor (itR1 (mC (.int 2))) (.nm 9) toldB := rfl
/-! maps -/
theorem atI_nat (ws : List Int) {k : Nat} (h : k < ws.length) : atI (ws.map D.int) (k : Int) = some (.int (ws.getD k 0)) := by
  unfold atI ixN
  rw [if_pos (by omega), if_pos (by rw [List.length_map]; omega)]
  show (ws.map D.int)[((k : Int)).toNat]? = _
  rw [List.getElem?_map, Int.toNat_natCast, List.getD_eq_getElem?_getD, List.getElem?_eq_getElem h]; rfl
def mapB : M D := (mFz (m1 fTup (.val (mFz (mLc (itR1 (mFz (m2 fIx (.pk 2) (.pk 9)))) (.nm 5) mYes (mFz (mTup [(mV 5), (mFz (m2 (fI2c cPos fun i j => .int (i % j)) (.val (mFz (m2 fIx (.val (mFz (m2 fIx (.pk 4) (.pk 9)))) (.pk 5)))) (.val (mFz (m2 fIx (.pk 2) (.val (mFz (m2 fAdd (.pk 9) (.val (mC (.int 1)))))))))))])) [5])))))
def pairOf (ws : List Int) (s : Int) : D → D := fun d => match d with
  | .int k => .tup false [.int k, .int (wmap ws s k)]
  | x => x
theorem maps_te {ns : List Int} {h : S} {zs : List D} {k3 k15 k16 : Option S} {wl : List D} {w : List Int} {k5 : Option S} {m : Nat} {j s : Int} (hm : N39 m) (hs : 0 < s) (hw : w.length = m) (i0 : fIx (.lst zs) (.int j) = some (.imm (.int m))) (i1 : fIx (.lst zs) (.int (j + 1)) = some (.imm (.int s))) (iw : fIx (.lst wl) (.int j) = some (.imm (.lst (w.map D.int)))) :
    mapB (L ns h (some (.imm (.lst zs))) k3 (some (.ls false wl)) k5 none none none (some (.imm (.int j))) none none none none none k15 k16 none none none) = some (mp m (wmap w s), L ns h (some (.imm (.lst zs))) k3 (some (.ls false wl)) k5 none none none (some (.imm (.int j))) none none none none none k15 k16 none none none) := by
  have hLIM : (dRng 0 m).length ≤ LIM := by unfold dRng; rw [List.length_map, List.length_range]; exact Nat.le_trans hm.2 (by decide)
  have okm : okR (m : Int) = true := by have := hm.2; unfold okR; simp; omega
  have hr : ∀ σ : Fr, σ = L ns h (some (.imm (.lst zs))) k3 (some (.ls false wl)) k5 none none none (some (.imm (.int j))) none none none none none k15 k16 none none none → itR1 (mFz (m2 fIx (.pk 2) (.pk 9))) σ = some (dRng 0 m, σ) := fun σ e => by
    subst e
    unfold itR1
    rw [fz_eq (s := .imm (.int m)) (pks2 (s := .imm (.lst zs)) (t := .imm (.int j)) rfl rfl i0)]
    show (if okR (m : Int) = true then some (dRng 0 (m : Int).toNat, _) else none) = _
    rw [if_pos okm, Int.toNat_natCast]
  have q := mLc_nm (j := 5) (it := itR1 (mFz (m2 fIx (.pk 2) (.pk 9)))) (te := mFz (mTup [(mV 5), (mFz (m2 (fI2c cPos fun i j => .int (i % j)) (.val (mFz (m2 fIx (.val (mFz (m2 fIx (.pk 4) (.pk 9)))) (.pk 5)))) (.val (mFz (m2 fIx (.pk 2) (.val (mFz (m2 fAdd (.pk 9) (.val (mC (.int 1)))))))))))])) (f := pairOf w s) (hr _ rfl) hLIM (by show 5 < 22; decide) (by
    intro d hd
    rw [dRng_int] at hd
    obtain ⟨k', hk1, rfl⟩ := List.mem_map.mp hd
    obtain ⟨k, hk, rfl⟩ := List.mem_map.mp hk1
    have hk' := List.mem_range.mp hk
    have cp : cPos (w.getD k 0) s = true := decide_eq_true hs
    show mFz (mTup _) (L ns h (some (.imm (.lst zs))) k3 (some (.ls false wl)) (some (.imm (.int k))) none none none (some (.imm (.int j))) none none none none none k15 k16 none none none) = some (.tup false [.int k, .int (wmap w s k)], L ns h (some (.imm (.lst zs))) k3 (some (.ls false wl)) (some (.imm (.int k))) none none none (some (.imm (.int j))) none none none none none k15 k16 none none none)
    have v1 : mFz (m2 fIx (.val (mFz (m2 fIx (.pk 4) (.pk 9)))) (.pk 5)) (L ns h (some (.imm (.lst zs))) k3 (some (.ls false wl)) (some (.imm (.int k))) none none none (some (.imm (.int j))) none none none none none k15 k16 none none none) = some (.int (w.getD k 0), L ns h (some (.imm (.lst zs))) k3 (some (.ls false wl)) (some (.imm (.int k))) none none none (some (.imm (.int j))) none none none none none k15 k16 none none none) := by
      refine fz_eq (s := .imm (.int (w.getD k 0))) (valpk (d := .lst (w.map D.int)) (s := .imm (.int k)) (fz_eq (s := .imm (.lst (w.map D.int))) (pks2 (s := .ls false wl) (t := .imm (.int j)) rfl rfl iw)) rfl ?_)
      show (atI (w.map D.int) (k : Int)).map S.imm = _
      rw [atI_nat w (by omega)]; rfl
    have v2 : mFz (m2 (fI2c cPos fun i j => .int (i % j)) (.val (mFz (m2 fIx (.val (mFz (m2 fIx (.pk 4) (.pk 9)))) (.pk 5)))) (.val (mFz (m2 fIx (.pk 2) (.val (mFz (m2 fAdd (.pk 9) (.val (mC (.int 1)))))))))) (L ns h (some (.imm (.lst zs))) k3 (some (.ls false wl)) (some (.imm (.int k))) none none none (some (.imm (.int j))) none none none none none k15 k16 none none none) = some (.int (wmap w s k), L ns h (some (.imm (.lst zs))) k3 (some (.ls false wl)) (some (.imm (.int k))) none none none (some (.imm (.int j))) none none none none none k15 k16 none none none) := by
      refine fz_eq (s := .imm (.int (w.getD k 0 % s))) (vals2 v1 (fz_eq (s := .imm (.int s)) (pkval (s := .imm (.lst zs)) rfl (fz_eq (s := .imm (.int (j + 1))) (pkval (s := .imm (.int j)) rfl rfl rfl)) i1)) ?_)
      show (if cPos (w.getD k 0) s = true then some (S.imm (.int (w.getD k 0 % s))) else none) = _
      rw [if_pos cp]
    refine fz_eq (s := .imm (.tup false [.int k, .int (wmap w s k)])) ?_
    unfold mTup
    rw [mL2 rfl v2]; rfl)
  have e : (dRng 0 m).map (pairOf w s) = (List.range m).map fun k : Nat => D.tup false [.int k, .int (wmap w s k)] := by
    rw [dRng_int, List.map_map, List.map_map]; rfl
  rw [e] at q
  refine fz_eq (s := .imm (mp m (wmap w s))) (vals1 (fz_eq q) ?_)
  have dk : dictable ((List.range m).map fun k : Nat => D.tup false [.int k, .int (wmap w s k)]) = true := by
    unfold dictable
    rw [List.all_map]
    exact List.all_eq_true.mpr fun _ _ => rfl
  show some (S.imm (.tup (dictable ((List.range m).map fun k : Nat => D.tup false [.int k, .int (wmap w s k)])) ((List.range m).map fun k : Nat => D.tup false [.int k, .int (wmap w s k)]))) = _
  rw [dk]; rfl
theorem lw6_eq : lw6 = mSet 6 (mLc (itR1 (mC (.int 2))) (.nm 9) mYes mapB [9]) := rfl
theorem maps2_ok {ns : List Int} {h : S} {m s : Nat} {k3 j15 j16 : Option S} {w0 w1 : List Int} (hm : N39 m) (hs : S34 s) (h0 : WalkOk m s w0) (h1 : WalkOk s 3 w1) :
    lw6 (fr5 ns h [.int m, .int s, .int 3] k3 [.lst (w0.map D.int), .lst (w1.map D.int)] 1 j15 j16) = some (.nx, L ns h (some (.imm (.lst [.int m, .int s, .int 3]))) k3 (some (.ls false [.lst (w0.map D.int), .lst (w1.map D.int)])) (some (.imm (.int 1))) (some (.ls false [mp m (wmap w0 s), mp s (wmap w1 3)])) none none none none none none none none j15 j16 none none none) := by
  have s0 : (0 : Int) < s := by unfold S34 at hs; omega
  have l0 : w0.length = m := by have := h0.len; omega
  have l1 : w1.length = s := by have := h1.len; omega
  let G : D → D := fun d => match d with
    | .int 0 => mp m (wmap w0 s)
    | _ => mp s (wmap w1 3)
  have q := mLc_nm (j := 9) (it := itR1 (mC (.int 2))) (te := mapB) (f := G) (ds := [.int 0, .int 1]) (σ := fr5 ns h [.int m, .int s, .int 3] k3 [.lst (w0.map D.int), .lst (w1.map D.int)] 1 j15 j16) rfl (by show 2 ≤ LIM; decide) (by show 9 < 22; decide) (by
    intro d hd
    simp only [List.mem_cons, List.not_mem_nil, or_false] at hd
    rcases hd with rfl | rfl
    · exact maps_te hm s0 l0 rfl rfl rfl
    · exact maps_te hs.n (by decide) l1 rfl rfl rfl)
  rw [lw6_eq]
  exact set_eq q rfl
/-! wholes -/
theorem wholes_ok {ns : List Int} {h : S} {zs : List D} {A B C A' B' C' : D} {k4 k5 k6 k15 k16 : Option S} (hA : g_whole_chain [A] = some (.imm A')) (hB : g_whole_chain [B] = some (.imm B')) (hC : g_whole_chain [C] = some (.imm C')) :
    lw7 (L ns h (some (.imm (.lst zs))) (some (.ls false [A, B, C])) k4 k5 k6 none none none none none none none none k15 k16 none none none) = some (.nx, L ns h (some (.imm (.lst zs))) (some (.imm (.lst [A, B, C]))) k4 k5 k6 (some (.ls false [A', B', C'])) none none none none none none none k15 k16 none none none) := by
  have one : ∀ {X Y : D}, g_whole_chain [X] = some (.imm Y) → mFz (mCall 1 g_whole_chain [(mV 21)]) ((L ns h (some (.imm (.lst zs))) (some (.imm (.lst [A, B, C]))) k4 k5 k6 none none none none none none none none k15 k16 none none none).set 21 (some (.imm X))) = some (Y, (L ns h (some (.imm (.lst zs))) (some (.imm (.lst [A, B, C]))) k4 k5 k6 none none none none none none none none k15 k16 none none none).set 21 (some (.imm X))) := fun e => fz_eq (call_eq (mL1 rfl) rfl e)
  have hf : ∃ f : D → D, (∀ d ∈ [A, B, C], g_whole_chain [d] = some (.imm (f d))) ∧ [A, B, C].map f = [A', B', C'] := by
    refine ⟨fun d => match g_whole_chain [d] with | some (.imm x) => x | _ => .non, fun d hd => ?_, ?_⟩
    · simp only [List.mem_cons, List.not_mem_nil, or_false] at hd
      rcases hd with rfl | rfl | rfl
      · simp only [hA]
      · simp only [hB]
      · simp only [hC]
    · simp only [List.map_cons, List.map_nil, hA, hB, hC]
  obtain ⟨f, f1, f2⟩ := hf
  have q := mLc_nm (j := 21) (it := itD (mV 3)) (te := mFz (mCall 1 g_whole_chain [(mV 21)])) (f := f) (ds := [A, B, C]) (σ := L ns h (some (.imm (.lst zs))) (some (.ls false [A, B, C])) k4 k5 k6 none none none none none none none none k15 k16 none none none) (σ1 := L ns h (some (.imm (.lst zs))) (some (.imm (.lst [A, B, C]))) k4 k5 k6 none none none none none none none none k15 k16 none none none) rfl (by show 3 ≤ LIM; decide) (by show 21 < 22; decide) (fun d hd => one (f1 d hd))
  rw [f2] at q
  exact set_eq q rfl
/-! told -/
section
variable {ns : List Int} {h : S} {zs webs wl maps whs : List D} {k5 k15 k16 : Option S}
def fr9 (ns : List Int) (h : S) (zs webs wl maps whs : List D) (k5 : Option S) (told : List D) (k9 k14 k15 k16 k17 : Option S) : Fr := L ns h (some (.imm (.lst zs))) (some (.imm (.lst webs))) (some (.ls false wl)) k5 (some (.ls false maps)) (some (.ls false whs)) (some (.ls false told)) k9 none none none none k14 k15 k16 k17 none none
def oneOf : D → D := fun _ => .int 1
theorem told_ok {told : List D} {k14 k17 : Option S} {j m s t : Int} {A A' P C C' w : D} {a b : S} (i14 : ioF k14) (i17 : ioF k17) (hl : told.length < 10)
    (z0 : fIx (.lst zs) (.int (j + 0)) = some (.imm (.int m))) (z1 : fIx (.lst zs) (.int (j + 1)) = some (.imm (.int s)))
    (a0 : fIx (.lst webs) (.int j) = some (.imm A)) (a1 : fIx (.lst webs) (.int (j + 1)) = some (.imm A'))
    (p0 : fIx (.lst maps) (.int j) = some (.imm P))
    (c0 : fIx (.lst whs) (.int j) = some (.imm C)) (c0' : fIx (.lst whs) (.int (j + 0)) = some (.imm C)) (c1 : fIx (.lst whs) (.int (j + 1)) = some (.imm C'))
    (w0 : fIx (.lst wl) (.int j) = some (.imm w))
    (hM : g_is_map [A, A', P] = some (.imm (.bl true))) (hD : g_degree_of [A, A', P] = some (.imm (.int t)))
    (hL : g_led_chain [A, A', P, .int 1, .int 0, C] = some a) (hS : g_law_sum [.int 0, .lst [.tup false [.int t, C']]] = some b) (hN : fNe a.toD b.toD = some (.imm (.bl false)))
    (u0 : g_law_up [C, .int m] = some (.ls false [.tup false [.int 0, .int 1]])) (u1 : g_law_up [C', .int s] = some (.ls false [.tup false [.int 0, .int 1]]))
    (hR : g_law_round [w, .int s] = some (.imm (.int t))) :
    toldB (fr9 ns h zs webs wl maps whs k5 told (some (.imm (.int j))) k14 k15 k16 k17) = some (.nx, fr9 ns h zs webs wl maps whs k5 (told ++ [.int t]) (some (.imm (.int j))) (some (.imm (.int t))) k15 k16 (some (.ls false [.int 1, .int 1]))) := by
  have J1 : ∀ {td : List D} {k14 k17 : Option S}, mFz (m2 fAdd (.pk 9) (.val (mC (.int 1)))) (fr9 ns h zs webs wl maps whs k5 td (some (.imm (.int j))) k14 k15 k16 k17) = some (.int (j + 1), fr9 ns h zs webs wl maps whs k5 td (some (.imm (.int j))) k14 k15 k16 k17) := fz_eq (s := .imm (.int (j + 1))) (pkval (s := .imm (.int j)) rfl rfl rfl)
  have E1 : ∀ {td : List D} {k14 k17 : Option S}, mFz (m2 fIx (.pk 3) (.pk 9)) (fr9 ns h zs webs wl maps whs k5 td (some (.imm (.int j))) k14 k15 k16 k17) = some (A, fr9 ns h zs webs wl maps whs k5 td (some (.imm (.int j))) k14 k15 k16 k17) := fz_eq (s := .imm A) (pks2 (s := .imm (.lst webs)) (t := .imm (.int j)) rfl rfl a0)
  have E2 : ∀ {td : List D} {k14 k17 : Option S}, mFz (m2 fIx (.pk 3) (.val (mFz (m2 fAdd (.pk 9) (.val (mC (.int 1))))))) (fr9 ns h zs webs wl maps whs k5 td (some (.imm (.int j))) k14 k15 k16 k17) = some (A', fr9 ns h zs webs wl maps whs k5 td (some (.imm (.int j))) k14 k15 k16 k17) := fz_eq (s := .imm A') (pkval (s := .imm (.lst webs)) rfl J1 a1)
  have E3 : ∀ {td : List D} {k14 k17 : Option S}, mFz (m2 fIx (.pk 6) (.pk 9)) (fr9 ns h zs webs wl maps whs k5 td (some (.imm (.int j))) k14 k15 k16 k17) = some (P, fr9 ns h zs webs wl maps whs k5 td (some (.imm (.int j))) k14 k15 k16 k17) := fz_eq (s := .imm P) (pks2 (s := .ls false maps) (t := .imm (.int j)) rfl rfl p0)
  have E4 : ∀ {td : List D} {k14 k17 : Option S}, mFz (m2 fIx (.pk 7) (.pk 9)) (fr9 ns h zs webs wl maps whs k5 td (some (.imm (.int j))) k14 k15 k16 k17) = some (C, fr9 ns h zs webs wl maps whs k5 td (some (.imm (.int j))) k14 k15 k16 k17) := fz_eq (s := .imm C) (pks2 (s := .ls false whs) (t := .imm (.int j)) rfl rfl c0)
  have E5 : ∀ {td : List D} {k14 k17 : Option S}, mFz (m2 fIx (.pk 7) (.val (mFz (m2 fAdd (.pk 9) (.val (mC (.int 1))))))) (fr9 ns h zs webs wl maps whs k5 td (some (.imm (.int j))) k14 k15 k16 k17) = some (C', fr9 ns h zs webs wl maps whs k5 td (some (.imm (.int j))) k14 k15 k16 k17) := fz_eq (s := .imm C') (pkval (s := .ls false whs) rfl J1 c1)
  have s1 : tb1 (fr9 ns h zs webs wl maps whs k5 told (some (.imm (.int j))) k14 k15 k16 k17) = some (.nx, fr9 ns h zs webs wl maps whs k5 told (some (.imm (.int j))) k14 k15 k16 k17) :=
    (ifF (mT_eq (b := false) (vals2 (fz_eq (call_eq (mL3 E1 E2 E3) rfl hM)) rfl rfl))).trans nx_eq
  have s2 : tb2 (fr9 ns h zs webs wl maps whs k5 told (some (.imm (.int j))) k14 k15 k16 k17) = some (.nx, fr9 ns h zs webs wl maps whs k5 told (some (.imm (.int j))) (some (.imm (.int t))) k15 k16 k17) :=
    set_eq (s := .imm (.int t)) (σ' := fr9 ns h zs webs wl maps whs k5 told (some (.imm (.int j))) k14 k15 k16 k17) (call_eq (mL3 E1 E2 E3) rfl hD) (okSet_of rfl i14)
  have s3 : tb3 (fr9 ns h zs webs wl maps whs k5 told (some (.imm (.int j))) (some (.imm (.int t))) k15 k16 k17) = some (.nx, fr9 ns h zs webs wl maps whs k5 told (some (.imm (.int j))) (some (.imm (.int t))) k15 k16 k17) := by
    have m6 : mL [(mFz (m2 fIx (.pk 3) (.pk 9))), (mFz (m2 fIx (.pk 3) (.val (mFz (m2 fAdd (.pk 9) (.val (mC (.int 1)))))))), (mFz (m2 fIx (.pk 6) (.pk 9))), (mC (.int 1)), (mC (.int 0)), (mFz (m2 fIx (.pk 7) (.pk 9)))] (fr9 ns h zs webs wl maps whs k5 told (some (.imm (.int j))) (some (.imm (.int t))) k15 k16 k17) = some ([A, A', P, .int 1, .int 0, C], fr9 ns h zs webs wl maps whs k5 told (some (.imm (.int j))) (some (.imm (.int t))) k15 k16 k17) := by
      simp only [mL, E1, E2, E3, E4, mC]
    have tt : mFz (mTup [(mV 14), (mFz (m2 fIx (.pk 7) (.val (mFz (m2 fAdd (.pk 9) (.val (mC (.int 1))))))))]) (fr9 ns h zs webs wl maps whs k5 told (some (.imm (.int j))) (some (.imm (.int t))) k15 k16 k17) = some (.tup false [.int t, C'], fr9 ns h zs webs wl maps whs k5 told (some (.imm (.int j))) (some (.imm (.int t))) k15 k16 k17) := by
      refine fz_eq (s := .imm (.tup false [.int t, C'])) ?_
      unfold mTup; rw [mL2 rfl E5]; rfl
    have ll : mFz (mLst [(mFz (mTup [(mV 14), (mFz (m2 fIx (.pk 7) (.val (mFz (m2 fAdd (.pk 9) (.val (mC (.int 1))))))))]))]) (fr9 ns h zs webs wl maps whs k5 told (some (.imm (.int j))) (some (.imm (.int t))) k15 k16 k17) = some (.lst [.tup false [.int t, C']], fr9 ns h zs webs wl maps whs k5 told (some (.imm (.int j))) (some (.imm (.int t))) k15 k16 k17) := by
      refine fz_eq (s := .ls false [.tup false [.int t, C']]) ?_
      unfold mLst; rw [mL1 tt]; rfl
    exact (ifF (mT_eq (b := false) (vals2 (fz_eq (call_eq m6 rfl hL)) (fz_eq (call_eq (mL2 rfl ll) rfl hS)) hN))).trans nx_eq
  have up : ∀ {k X z : D} {k5' : Option S} {i : Int}, k = .int i → fIx (.lst whs) (.int (j + i)) = some (.imm X) → fIx (.lst zs) (.int (j + i)) = some (.imm z) → g_law_up [X, z] = some (.ls false [.tup false [.int 0, .int 1]]) →
      mFz (m2 fIx (.val (mFz (m1 fDict (.val (mFz (mCall 2 g_law_up [(mFz (m2 fIx (.pk 7) (.val (mFz (m2 fAdd (.pk 9) (.pk 5)))))), (mFz (m2 fIx (.pk 2) (.val (mFz (m2 fAdd (.pk 9) (.pk 5))))))])))))) (.val (mC (.int 0)))) (fr9 ns h zs webs wl maps whs (some (.imm k)) told (some (.imm (.int j))) (some (.imm (.int t))) k15 k16 k17) = some (.int 1, fr9 ns h zs webs wl maps whs (some (.imm k)) told (some (.imm (.int j))) (some (.imm (.int t))) k15 k16 k17) := by
    intro k X z k5' i ek hx hz hu
    subst ek
    have jj : mFz (m2 fAdd (.pk 9) (.pk 5)) (fr9 ns h zs webs wl maps whs (some (.imm (.int i))) told (some (.imm (.int j))) (some (.imm (.int t))) k15 k16 k17) = some (.int (j + i), fr9 ns h zs webs wl maps whs (some (.imm (.int i))) told (some (.imm (.int j))) (some (.imm (.int t))) k15 k16 k17) := fz_eq (s := .imm (.int (j + i))) (pks2 (s := .imm (.int j)) (t := .imm (.int i)) rfl rfl rfl)
    exact fz_eq (s := .imm (.int 1)) (vals2 (fz_eq (s := .ds false false [(.int 0, .int 1)]) (vals1 (fz_eq (call_eq (mL2 (fz_eq (s := .imm X) (pkval (s := .ls false whs) rfl jj hx)) (fz_eq (s := .imm z) (pkval (s := .imm (.lst zs)) rfl jj hz))) rfl hu)) rfl)) rfl rfl)
  have s4 : tb4 (fr9 ns h zs webs wl maps whs k5 told (some (.imm (.int j))) (some (.imm (.int t))) k15 k16 k17) = some (.nx, fr9 ns h zs webs wl maps whs k5 told (some (.imm (.int j))) (some (.imm (.int t))) k15 k16 (some (.ls false [.int 1, .int 1]))) := by
    refine set_eq (s := .ls false [.int 1, .int 1]) (σ' := fr9 ns h zs webs wl maps whs k5 told (some (.imm (.int j))) (some (.imm (.int t))) k15 k16 k17) ?_ (okSet_of rfl i17)
    exact mLc_nm (j := 5) (it := itR1 (mC (.int 2))) (f := oneOf) (ds := [.int 0, .int 1]) (σ1 := fr9 ns h zs webs wl maps whs k5 told (some (.imm (.int j))) (some (.imm (.int t))) k15 k16 k17) rfl (by show 2 ≤ LIM; decide) (by show 5 < 22; decide) (by
      intro d hd
      simp only [List.mem_cons, List.not_mem_nil, or_false] at hd
      rcases hd with rfl | rfl
      · exact up (k5' := k5) rfl c0' z0 u0
      · exact up (k5' := k5) rfl c1 z1 u1)
  have c11 : cMul t 1 = true := by unfold cMul; rw [show sml 1 = true by decide]; simp
  have c12 : cMul (t * 1) 1 = true := by unfold cMul; rw [show sml 1 = true by decide]; simp
  have s5 : tb5 (fr9 ns h zs webs wl maps whs k5 told (some (.imm (.int j))) (some (.imm (.int t))) k15 k16 (some (.ls false [.int 1, .int 1]))) = some (.nx, fr9 ns h zs webs wl maps whs k5 told (some (.imm (.int j))) (some (.imm (.int t))) k15 k16 (some (.ls false [.int 1, .int 1]))) := by
    have g0 : mFz (m2 fIx (.pk 17) (.val (mC (.int 0)))) (fr9 ns h zs webs wl maps whs k5 told (some (.imm (.int j))) (some (.imm (.int t))) k15 k16 (some (.ls false [.int 1, .int 1]))) = some (.int 1, fr9 ns h zs webs wl maps whs k5 told (some (.imm (.int j))) (some (.imm (.int t))) k15 k16 (some (.ls false [.int 1, .int 1]))) := fz_eq (s := .imm (.int 1)) (pkval (s := .ls false [.int 1, .int 1]) rfl rfl rfl)
    have g1 : mFz (m2 fIx (.pk 17) (.val (mC (.int 1)))) (fr9 ns h zs webs wl maps whs k5 told (some (.imm (.int j))) (some (.imm (.int t))) k15 k16 (some (.ls false [.int 1, .int 1]))) = some (.int 1, fr9 ns h zs webs wl maps whs k5 told (some (.imm (.int j))) (some (.imm (.int t))) k15 k16 (some (.ls false [.int 1, .int 1]))) := fz_eq (s := .imm (.int 1)) (pkval (s := .ls false [.int 1, .int 1]) rfl rfl rfl)
    have g2 : fMul (.int t) (.int 1) = some (.imm (.int (t * 1))) := by
      show (if cMul t 1 = true then some (S.imm (.int (t * 1))) else none) = _
      rw [if_pos c11]
    have g3 : fMul (.int (t * 1)) (.int 1) = some (.imm (.int (t * 1 * 1))) := by
      show (if cMul (t * 1) 1 = true then some (S.imm (.int (t * 1 * 1))) else none) = _
      rw [if_pos c12]
    have g4 : fNe (.int (t * 1 * 1)) (.int t) = some (.imm (.bl false)) := by
      rw [Int.mul_one, Int.mul_one]
      show some (S.imm (.bl (!(t == t)))) = _
      simp
    exact (ifF (mT_eq (b := false) (vals2 (fz_eq (s := .imm (.int (t * 1 * 1))) (vals2 (fz_eq (s := .imm (.int (t * 1))) (pkval (s := .imm (.int t)) rfl g0 g2)) g1 g3)) (fz_eq (call_eq (mL2 (fz_eq (s := .imm w) (pks2 (s := .ls false wl) (t := .imm (.int j)) rfl rfl w0)) (fz_eq (s := .imm (.int s)) (pkval (s := .imm (.lst zs)) rfl J1 z1))) rfl hR)) g4))).trans nx_eq
  have hlt : told.length < LIM := Nat.lt_of_lt_of_le hl (by decide)
  refine (seq_nx s1).trans ((seq_nx s2).trans ((seq_nx s3).trans ((seq_nx s4).trans ((seq_nx s5).trans ?_))))
  refine drop_eq (s := .imm .non) ?_
  show (if told.length < LIM then _ else _) = _
  rw [if_pos hlt]; rfl
end
end Pl
end

section
set_option Elab.async false
set_option linter.all false
set_option maxRecDepth 100000
set_option maxHeartbeats 0
namespace Pl
open PySem PySem.Spec L2 Ev Wk
set_option autoImplicit false
/-! the hollow web -/
def hollow (n : Int) : D := match lw13 (L [] .prv none none none none none none none none none (some (.imm (.int n))) none none none none none none none none) with
  | some (_, σ) => (match List.getD σ 12 none with
    | some (S.imm d) => d
    | _ => .non)
  | none => .non
theorem hollow_ok {n : Int} (h : n = 3 ∨ n = 4 ∨ n = 5) (ns : List Int) (hd : S) (a2 a3 a4 a5 a6 a7 a8 a9 a10 a14 a15 a16 a17 : Option S) : lw13 (L ns hd a2 a3 a4 a5 a6 a7 a8 a9 a10 (some (.imm (.int n))) none none a14 a15 a16 a17 none none) = some (.nx, L ns hd a2 a3 a4 a5 a6 a7 a8 a9 a10 (some (.imm (.int n))) (some (.imm (hollow n))) none a14 a15 a16 a17 none none) := by
  rcases h with rfl | rfl | rfl <;> kernel_rfl
def lwE : M Fl := mSeq lw15 (mSeq lw16 lw17)
theorem end3 {p q : Int} (hp : 0 ≤ p) (hp2 : p < 3) (hq : 0 ≤ q) (hq2 : q < 3) (ns : List Int) (hd : S) (a2 a3 a4 a5 a6 a7 a8 a9 a10 a15 a16 a17 : Option S) (x : D) : (lwE (L ns hd a2 a3 a4 a5 a6 a7 a8 a9 a10 (some (.imm (.int 3))) (some (.imm (hollow 3))) none (some (.imm x)) a15 a16 a17 (some (.imm (.int p))) (some (.imm (.int q))))).map (·.1) = some (.rt (.imm (.bl true))) := by
  have h1 : p = 0 ∨ p = 1 ∨ p = 2 := by omega
  have h2 : q = 0 ∨ q = 1 ∨ q = 2 := by omega
  clear hp hp2 hq hq2
  rcases h1 with rfl | rfl | rfl <;> rcases h2 with rfl | rfl | rfl <;> kernel_rfl
theorem end4 {p q : Int} (hp : 0 ≤ p) (hp2 : p < 4) (hq : 0 ≤ q) (hq2 : q < 4) (ns : List Int) (hd : S) (a2 a3 a4 a5 a6 a7 a8 a9 a10 a15 a16 a17 : Option S) (x : D) : (lwE (L ns hd a2 a3 a4 a5 a6 a7 a8 a9 a10 (some (.imm (.int 4))) (some (.imm (hollow 4))) none (some (.imm x)) a15 a16 a17 (some (.imm (.int p))) (some (.imm (.int q))))).map (·.1) = some (.rt (.imm (.bl true))) := by
  have h1 : p = 0 ∨ p = 1 ∨ p = 2 ∨ p = 3 := by omega
  have h2 : q = 0 ∨ q = 1 ∨ q = 2 ∨ q = 3 := by omega
  clear hp hp2 hq hq2
  rcases h1 with rfl | rfl | rfl | rfl <;> rcases h2 with rfl | rfl | rfl | rfl <;> kernel_rfl
theorem end5 {p q : Int} (hp : 0 ≤ p) (hp2 : p < 5) (hq : 0 ≤ q) (hq2 : q < 5) (ns : List Int) (hd : S) (a2 a3 a4 a5 a6 a7 a8 a9 a10 a15 a16 a17 : Option S) (x : D) : (lwE (L ns hd a2 a3 a4 a5 a6 a7 a8 a9 a10 (some (.imm (.int 5))) (some (.imm (hollow 5))) none (some (.imm x)) a15 a16 a17 (some (.imm (.int p))) (some (.imm (.int q))))).map (·.1) = some (.rt (.imm (.bl true))) := by
  have h1 : p = 0 ∨ p = 1 ∨ p = 2 ∨ p = 3 ∨ p = 4 := by omega
  have h2 : q = 0 ∨ q = 1 ∨ q = 2 ∨ q = 3 ∨ q = 4 := by omega
  clear hp hp2 hq hq2
  rcases h1 with rfl | rfl | rfl | rfl | rfl <;> rcases h2 with rfl | rfl | rfl | rfl | rfl <;> kernel_rfl
/-- the tail of the law, from any frame -/
theorem tail_ok {h : S} (hh : HandOk false h) (ns : List Int) (a2 a3 a4 a5 a6 a7 a8 a9 a10 a15 a16 a17 : Option S) (x : D) : ∃ σ', mSeq lw12 (mSeq lw13 (mSeq lw14 lwE)) (L ns h a2 a3 a4 a5 a6 a7 a8 a9 a10 none none none (some (.imm x)) a15 a16 a17 none none) = some (.rt (.imm (.bl true)), σ') := by
  obtain ⟨d, h1, e1, p1, q1, hh1⟩ := call_draw (j := 1) (σ := L ns h a2 a3 a4 a5 a6 a7 a8 a9 a10 none none none (some (.imm x)) a15 a16 a17 none none) (ms := [mC (.int 3)]) (n := 3) rfl rfl hh (by decide) (by decide)
  obtain ⟨n, hn⟩ : ∃ n : Int, (3 : Int) + d = n := ⟨_, rfl⟩
  have hn3 : n = 3 ∨ n = 4 ∨ n = 5 := by omega
  have s1 : lw12 (L ns h a2 a3 a4 a5 a6 a7 a8 a9 a10 none none none (some (.imm x)) a15 a16 a17 none none) = some (.nx, L ns h1 a2 a3 a4 a5 a6 a7 a8 a9 a10 (some (.imm (.int n))) none none (some (.imm x)) a15 a16 a17 none none) :=
    set_eq (s := .imm (.int n)) (σ' := L ns h1 a2 a3 a4 a5 a6 a7 a8 a9 a10 none none none (some (.imm x)) a15 a16 a17 none none) (vals2 rfl e1 (by rw [← hn]; rfl)) rfl
  have s2 := hollow_ok hn3 ns h1 a2 a3 a4 a5 a6 a7 a8 a9 a10 (some (.imm x)) a15 a16 a17
  obtain ⟨p, h2, e2, p2, q2, hh2⟩ := call_draw (j := 1) (σ := L ns h1 a2 a3 a4 a5 a6 a7 a8 a9 a10 (some (.imm (.int n))) (some (.imm (hollow n))) none (some (.imm x)) a15 a16 a17 none none) (ms := [mV 11]) (n := n) rfl rfl hh1 (by omega) (by omega)
  obtain ⟨q, h3, e3, p3, q3, hh3⟩ := call_draw (j := 1) (σ := L ns h2 a2 a3 a4 a5 a6 a7 a8 a9 a10 (some (.imm (.int n))) (some (.imm (hollow n))) none (some (.imm x)) a15 a16 a17 none none) (ms := [mV 11]) (n := n) rfl rfl hh2 (by omega) (by omega)
  have s3 : lw14 (L ns h1 a2 a3 a4 a5 a6 a7 a8 a9 a10 (some (.imm (.int n))) (some (.imm (hollow n))) none (some (.imm x)) a15 a16 a17 none none) = some (.nx, L ns h3 a2 a3 a4 a5 a6 a7 a8 a9 a10 (some (.imm (.int n))) (some (.imm (hollow n))) none (some (.imm x)) a15 a16 a17 (some (.imm (.int p))) (some (.imm (.int q)))) := by
    generalize hollow n = w at *
    have t : mFz (mTup [(mFz (mCallI 1 2 g_law_draw [(mV 11)])), (mFz (mCallI 1 2 g_law_draw [(mV 11)]))]) (L ns h1 a2 a3 a4 a5 a6 a7 a8 a9 a10 (some (.imm (.int n))) (some (.imm w)) none (some (.imm x)) a15 a16 a17 none none) = some (.tup false [.int p, .int q], L ns h3 a2 a3 a4 a5 a6 a7 a8 a9 a10 (some (.imm (.int n))) (some (.imm w)) none (some (.imm x)) a15 a16 a17 none none) := by
      refine fz_eq (s := .imm (.tup false [.int p, .int q])) ?_
      unfold mTup
      rw [mL2 e2 e3]; rfl
    show mAsg _ _ _ = _
    unfold mAsg
    rw [t]; rfl
  have s4 : (lwE (L ns h3 a2 a3 a4 a5 a6 a7 a8 a9 a10 (some (.imm (.int n))) (some (.imm (hollow n))) none (some (.imm x)) a15 a16 a17 (some (.imm (.int p))) (some (.imm (.int q))))).map (·.1) = some (.rt (.imm (.bl true))) := by
    rcases hn3 with rfl | rfl | rfl
    · exact end3 p2 q2 p3 q3 ns h3 a2 a3 a4 a5 a6 a7 a8 a9 a10 a15 a16 a17 x
    · exact end4 p2 q2 p3 q3 ns h3 a2 a3 a4 a5 a6 a7 a8 a9 a10 a15 a16 a17 x
    · exact end5 p2 q2 p3 q3 ns h3 a2 a3 a4 a5 a6 a7 a8 a9 a10 a15 a16 a17 x
  obtain ⟨⟨fl, σ'⟩, e4, e5⟩ := Option.map_eq_some_iff.mp s4
  dsimp only at e5
  subst e5
  exact ⟨σ', (seq_nx s1).trans ((seq_nx s2).trans ((seq_nx s3).trans e4))⟩
end Pl
end

section
set_option Elab.async false
set_option linter.all false
set_option maxRecDepth 100000
set_option maxHeartbeats 0
namespace Pl
open PySem PySem.Spec L2 Ev Wk
set_option autoImplicit false
theorem up_ok {n : Nat} (h : N39 n) : g_law_up [whole n, .int n] = some (.ls false [.tup false [.int 0, .int 1]]) := by
  rcases h.cases with rfl | rfl | rfl | rfl | rfl | rfl | rfl <;> kernel_rfl
theorem e01 {s : Nat} (hs : S34 s) : ((0, 1) : Int × Int) ∈ edges s := by
  have hs' : s = 3 ∨ s = 4 := by unfold S34 at hs; omega
  rcases hs' with rfl | rfl <;> decide
theorem degree_t {m s : Nat} {f : Int → Int} {t : Int} (hm : N39 m) (hs : S34 s) (hL : Lift m s f t) : g_degree_of [Wb m, Wb s, mp m f] = some (.imm (.int t)) := by
  rw [degree_ok hm hs (lift_good hm hs hL), net_eq hs (e01 hs) hm.1 hL]
  show some (S.imm (.int (t * 1))) = _
  rw [Int.mul_one]
/-- what is true of one map -/
structure MapF (A A' P C C' w : D) (m s t : Int) : Prop where
  hM : g_is_map [A, A', P] = some (.imm (.bl true))
  hD : g_degree_of [A, A', P] = some (.imm (.int t))
  hL : ∃ a b, g_led_chain [A, A', P, .int 1, .int 0, C] = some a ∧ g_law_sum [.int 0, .lst [.tup false [.int t, C']]] = some b ∧ fNe a.toD b.toD = some (.imm (.bl false))
  u0 : g_law_up [C, .int m] = some (.ls false [.tup false [.int 0, .int 1]])
  u1 : g_law_up [C', .int s] = some (.ls false [.tup false [.int 0, .int 1]])
  hR : g_law_round [w, .int s] = some (.imm (.int t))
theorem map_f {m s : Nat} {ws : List Int} (hm : N39 m) (hs : S34 s) (hw : WalkOk m s ws) : ∃ t, Lift m s (wmap ws s) t ∧ MapF (Wb m) (Wb s) (mp m (wmap ws s)) (whole m) (whole s) (.lst (ws.map D.int)) m s t := by
  obtain ⟨a, l, h0, h1, hL⟩ := walk_lift hw hs
  have s0 : (0 : Int) < s ∧ (s : Int) < 1073741824 := by unfold S34 at hs; omega
  exact ⟨_, hL, is_map_ok hm hs (lift_good hm hs hL), degree_t hm hs hL, led_ok hm hs hL, up_ok hm, up_ok hs.n, round_ok h0 h1 s0.1 s0.2⟩
section
variable {ns : List Int} {h : S} {A B C P0 P1 Q C0 C1 C2 w0 w1 : D} {m s z t u : Int} {k15 k16 : Option S}
theorem told2_ok (F0 : MapF A B P0 C0 C1 w0 m s t) (F1 : MapF B C P1 C1 C2 w1 s z u) : ∃ k17 : Option S, lw9 (fr9 ns h [.int m, .int s, .int z] [A, B, C] [w0, w1] [P0, P1] [C0, C1, C2] (some (.imm (.int 1))) [] none none k15 k16 none) = some (.nx, fr9 ns h [.int m, .int s, .int z] [A, B, C] [w0, w1] [P0, P1] [C0, C1, C2] (some (.imm (.int 1))) [.int t, .int u] (some (.imm (.int 1))) (some (.imm (.int u))) k15 k16 k17) := by
  obtain ⟨a0, b0, l0, s0, n0⟩ := F0.hL
  obtain ⟨a1, b1, l1, s1, n1⟩ := F1.hL
  have e0 := told_ok (ns := ns) (h := h) (zs := [.int m, .int s, .int z]) (webs := [A, B, C]) (wl := [w0, w1]) (maps := [P0, P1]) (whs := [C0, C1, C2]) (k5 := some (.imm (.int 1))) (k15 := k15) (k16 := k16) (told := []) (k14 := none) (k17 := none) (j := 0) ioF_none ioF_none (by decide) rfl rfl rfl rfl rfl rfl rfl rfl rfl F0.hM F0.hD l0 s0 n0 F0.u0 F0.u1 F0.hR
  have i17 : ioF (some (S.ls false [.int 1, .int 1])) := fun x e => by cases e; rfl
  have e1 := told_ok (ns := ns) (h := h) (zs := [.int m, .int s, .int z]) (webs := [A, B, C]) (wl := [w0, w1]) (maps := [P0, P1]) (whs := [C0, C1, C2]) (k5 := some (.imm (.int 1))) (k15 := k15) (k16 := k16) (told := [] ++ [.int t]) (k14 := some (.imm (.int t))) (k17 := some (.ls false [.int 1, .int 1])) (j := 1) (ioF_imm _) i17 (by simp) rfl rfl rfl rfl rfl rfl rfl rfl rfl F1.hM F1.hD l1 s1 n1 F1.u0 F1.u1 F1.hR
  refine ⟨some (.ls false [.int 1, .int 1]), ?_⟩
  rw [lw9_eq]
  refine (for_eq (ds := [.int 0, .int 1]) (σ1 := fr9 ns h [.int m, .int s, .int z] [A, B, C] [w0, w1] [P0, P1] [C0, C1, C2] (some (.imm (.int 1))) [] none none k15 k16 none) rfl).trans ?_
  have p1 : Tg.put (.nm 9) (.int 0) (fr9 ns h [.int m, .int s, .int z] [A, B, C] [w0, w1] [P0, P1] [C0, C1, C2] (some (.imm (.int 1))) [] none none k15 k16 none) = some (fr9 ns h [.int m, .int s, .int z] [A, B, C] [w0, w1] [P0, P1] [C0, C1, C2] (some (.imm (.int 1))) [] (some (.imm (.int 0))) none k15 k16 none) := rfl
  have p2 : Tg.put (.nm 9) (.int 1) (fr9 ns h [.int m, .int s, .int z] [A, B, C] [w0, w1] [P0, P1] [C0, C1, C2] (some (.imm (.int 1))) ([] ++ [.int t]) (some (.imm (.int 0))) (some (.imm (.int t))) k15 k16 (some (.ls false [.int 1, .int 1]))) = some (fr9 ns h [.int m, .int s, .int z] [A, B, C] [w0, w1] [P0, P1] [C0, C1, C2] (some (.imm (.int 1))) ([] ++ [.int t]) (some (.imm (.int 1))) (some (.imm (.int t))) k15 k16 (some (.ls false [.int 1, .int 1]))) := rfl
  simp only [lpF, p1, e0, p2, e1]
  rfl
/-- both, and the rest -/
theorem rest_ok (hh : HandOk false h) (F0 : MapF A B P0 C0 C1 w0 m s t) (F1 : MapF B C P1 C1 C2 w1 s z u) (hB : g_behind [A, B, C, P0, P1] = some (.imm Q)) (hD : g_degree_of [A, C, Q] = some (.imm (.int (t * u)))) (ht : -3 ≤ t ∧ t ≤ 3) :
    ∃ σ', mSeq lw9 (mSeq lw10 (mSeq lw11 (mSeq lw12 (mSeq lw13 (mSeq lw14 lwE))))) (fr9 ns h [.int m, .int s, .int z] [A, B, C] [w0, w1] [P0, P1] [C0, C1, C2] (some (.imm (.int 1))) [] none none k15 k16 none) = some (.rt (.imm (.bl true)), σ') := by
  obtain ⟨k17, e9⟩ := told2_ok (ns := ns) (h := h) (k15 := k15) (k16 := k16) F0 F1
  have e10 : lw10 (fr9 ns h [.int m, .int s, .int z] [A, B, C] [w0, w1] [P0, P1] [C0, C1, C2] (some (.imm (.int 1))) [.int t, .int u] (some (.imm (.int 1))) (some (.imm (.int u))) k15 k16 k17) = some (.nx, L ns h (some (.imm (.lst [.int m, .int s, .int z]))) (some (.imm (.lst [A, B, C]))) (some (.ls false [w0, w1])) (some (.imm (.int 1))) (some (.ls false [P0, P1])) (some (.ls false [C0, C1, C2])) (some (.ls false [.int t, .int u])) (some (.imm (.int 1))) (some (.imm Q)) none none none (some (.imm (.int u))) k15 k16 k17 none none) :=
    set_eq (s := .imm Q) (σ' := fr9 ns h [.int m, .int s, .int z] [A, B, C] [w0, w1] [P0, P1] [C0, C1, C2] (some (.imm (.int 1))) [.int t, .int u] (some (.imm (.int 1))) (some (.imm (.int u))) k15 k16 k17) (call_eq (ds := [A, B, C, P0, P1]) rfl rfl hB) rfl
  let σ : Fr := L ns h (some (.imm (.lst [.int m, .int s, .int z]))) (some (.imm (.lst [A, B, C]))) (some (.ls false [w0, w1])) (some (.imm (.int 1))) (some (.ls false [P0, P1])) (some (.ls false [C0, C1, C2])) (some (.ls false [.int t, .int u])) (some (.imm (.int 1))) (some (.imm Q)) none none none (some (.imm (.int u))) k15 k16 k17 none none
  have e11 : lw11 σ = some (.nx, σ) := by
    have c : cMul t u = true := by
      have : sml t = true := by unfold sml; simp; omega
      unfold cMul; rw [this]; rfl
    have g2 : fMul (.int t) (.int u) = some (.imm (.int (t * u))) := by
      show (if cMul t u = true then some (S.imm (.int (t * u))) else none) = _
      rw [if_pos c]
    have t0 : mFz (m2 fIx (.pk 8) (.val (mC (.int 0)))) σ = some (.int t, σ) := fz_eq (s := .imm (.int t)) (pkval (s := .ls false [.int t, .int u]) rfl rfl rfl)
    have t1 : mFz (m2 fIx (.pk 8) (.val (mC (.int 1)))) σ = some (.int u, σ) := fz_eq (s := .imm (.int u)) (pkval (s := .ls false [.int t, .int u]) rfl rfl rfl)
    have g4 : fNe (.int (t * u)) (.int (t * u)) = some (.imm (.bl false)) := by
      show some (S.imm (.bl (!(t * u == t * u)))) = _
      simp
    exact (ifF (mT_eq (b := false) (vals2 (fz_eq (call_eq (ds := [A, C, Q]) rfl rfl hD)) (fz_eq (s := .imm (.int (t * u))) (vals2 t0 t1 g2)) g4))).trans nx_eq
  obtain ⟨σ', eT⟩ := tail_ok hh ns (some (.imm (.lst [.int m, .int s, .int z]))) (some (.imm (.lst [A, B, C]))) (some (.ls false [w0, w1])) (some (.imm (.int 1))) (some (.ls false [P0, P1])) (some (.ls false [C0, C1, C2])) (some (.ls false [.int t, .int u])) (some (.imm (.int 1))) (some (.imm Q)) k15 k16 k17 (.int u)
  exact ⟨σ', (seq_nx e9).trans ((seq_nx e10).trans ((seq_nx e11).trans eT))⟩
end
theorem law_eq2 : m_law = mSeq lw1 (mSeq lw2 (mSeq lw3 (mSeq lw4 (mSeq lw5 (mSeq lw6 (mSeq lw7 (mSeq lw8 (mSeq lw9 (mSeq lw10 (mSeq lw11 (mSeq lw12 (mSeq lw13 (mSeq lw14 lwE))))))))))))) := rfl
theorem law_holds (ns : List Int) (hn : ns.length ≤ 63) : g_law [.scr ns] = some (.imm (.bl true)) := by
  obtain ⟨h, eh, hh⟩ := hand_ok hn
  have e1 : lw1 (startF ([D.scr ns].map .imm) 22) = some (.nx, L ns h none none none none none none none none none none none none none none none none none none) :=
    set_eq (s := h) (σ' := startF ([D.scr ns].map .imm) 22) (call_eq (mL1 rfl) rfl eh) rfl
  obtain ⟨m, s, h2, e2, hh2, hm, hs⟩ := sizes_ok (ns := ns) hh
  have e3 := webs_ok (ns := ns) (h := h2) hm hs.n
  obtain ⟨h5, w0, w1, j15, j16, e5, hh5, hw0, hw1, i15, i16⟩ := walks_ok (ns := ns) (k3 := some (.ls false [Wb m, Wb s, Wb 3])) hh2 hm hs
  have e6 := maps2_ok (ns := ns) (h := h5) (k3 := some (.ls false [Wb m, Wb s, Wb 3])) (j15 := j15) (j16 := j16) hm hs hw0 hw1
  have h3 : S34 ((3 : Nat) : Int) := .inl rfl
  obtain ⟨t, L0, F0⟩ := map_f hm hs hw0
  have x1 : ∃ u, Lift s 3 (wmap w1 3) u ∧ MapF (Wb s) (Wb 3) (mp s (wmap w1 3)) (whole s) (whole 3) (.lst (w1.map D.int)) s 3 u := map_f (s := 3) hs.n h3 hw1
  obtain ⟨u, L1, F1⟩ := x1
  have e7 := wholes_ok (ns := ns) (h := h5) (zs := [.int m, .int s, .int 3]) (A := Wb m) (B := Wb s) (C := Wb 3) (k4 := some (.ls false [.lst (w0.map D.int), .lst (w1.map D.int)])) (k5 := some (.imm (.int 1))) (k6 := some (.ls false [mp m (wmap w0 s), mp s (wmap w1 3)])) (k15 := j15) (k16 := j16) (web_whole hm) (web_whole hs.n) (web_whole (n := 3) (by unfold N39; omega))
  have hB := behind_ok hm hs L0 L1
  have Lc := lift_comp (m := m) (by have := hm.1; omega) hs L0 L1
  have hD : g_degree_of [Wb m, Wb 3, mp m fun k => wmap w1 3 (wmap w0 s k)] = some (.imm (.int (t * u))) := degree_t (s := 3) hm h3 Lc
  have ht := lift_small L0 (by have := hm.2; omega) (by omega) hs
  clear Lc L0 L1
  generalize Wb m = A at *
  generalize Wb s = B at *
  generalize Wb 3 = C at *
  generalize whole m = C0 at *
  generalize whole s = C1 at *
  generalize whole 3 = C2 at *
  generalize mp m (fun k => wmap w1 3 (wmap w0 s k)) = Q at *
  generalize mp m (wmap w0 s) = P0 at *
  generalize mp s (wmap w1 3) = P1 at *
  obtain ⟨σ', e9⟩ := rest_ok (ns := ns) (k15 := j15) (k16 := j16) hh5 F0 F1 hB hD ht
  refine runV_rt (σ := σ') ?_
  rw [law_eq2]
  refine (seq_nx e1).trans ((seq_nx e2).trans ((seq_nx e3).trans ?_))
  refine (seq_nx (σ' := L ns h2 (some (.imm (.lst [.int m, .int s, .int 3]))) (some (.ls false [A, B, C])) (some (.ls false [])) none none none none none none none none none none none none none none none) rfl).trans ?_
  refine (seq_nx e5).trans ((seq_nx e6).trans ((seq_nx e7).trans ?_))
  refine (seq_nx (σ' := fr9 ns h5 [.int m, .int s, .int 3] [A, B, C] [.lst (w0.map D.int), .lst (w1.map D.int)] [P0, P1] [C0, C1, C2] (some (.imm (.int 1))) [] none none j15 j16 none) rfl).trans ?_
  exact e9
end Pl
end

section
set_option Elab.async false
set_option linter.all false
set_option maxRecDepth 100000
set_option maxHeartbeats 0
namespace Wk
open PySem PySem.Spec PyProof.Rows L2 Ev Hd
def spLaw (K : PySem.W.Frag) : Sp := fun vs H Q _ => ∃ (a : Addr) (ns : List Int), vs = [.ref a] ∧ SqL K H a (ns.map V.int) ∧ ns.length ≤ 63 ∧ ∀ H', Q (.bl true) H'
theorem law_imp (hp : ∀ ns : List Int, ns.length ≤ 63 → g_law [.scr ns] = some (.imm (.bl true))) {K : PySem.W.Frag} {C : Addr} (vs : List V) (H : Hp) (Q : VK) (E : XK) (h : spLaw K vs H Q E) : spV K (ctW C) 1 g_law vs H Q E := by
  obtain ⟨a, ns, rfl, hS, hl, q⟩ := h
  exact ⟨H, [.scr ns], .imm (.bl true), Le.refl H, rfl, ⟨.ref a, [], rfl, ⟨a, rfl, hS⟩, rfl⟩, hp ns hl, fun v F' H' _ r => by
    obtain rfl : v = .bl true := r
    exact q H'⟩
end Wk
open PySem PySem.W PySem.Calls PyProof.Rows
theorem PySem.Challenge.cw_fillorgauge_k59_whole_rings_led_round_ri_holds : PySem.Challenge.rw_fillorgauge_k59_whole_rings_led_round_ri.Holds := by
  w_on; o_law
  refine HandSHeadRun.head_any (r := OpenLaw.row PySem.Challenge.rw_fillorgauge_k59_whole_rings_led_round_ri) (q := view (OpenLaw.row PySem.Challenge.rw_fillorgauge_k59_whole_rings_led_round_ri).prog [75]) (H := Hd.hk) (ob := Hd.ob) (M := 4000) (loose := Hd.loose) (d := HandSHeadRun.topDef (OpenLaw.row PySem.Challenge.rw_fillorgauge_k59_whole_rings_led_round_ri).prog 75) (kwd := []) Hd.ob_eq
    (by kernel_rfl) (fun s => by kernel_rfl) Hd.run (by kernel_rfl) (by kernel_rfl) (by kernel_rfl) (by rfl) (by first | assumption | decide +kernel) (by decide +kernel) ⟨rfl, rfl, rfl, rfl, rfl, by decide +kernel⟩ ?hw ?hc
  case hw => w_witness2
  case hc =>
    refine L2.walk_ofE (l := PySem.Challenge.rw_fillorgauge_k59_whole_rings_led_round_ri) (n := 63) (k := 9) (x := "script") (CX := L2.CX0) rfl (by decide) (by kernel_rfl) ⟨rfl, by decide, by decide⟩ ?F (fun _ _ _ _ z => z)
    intro w mg fa h Y G hmg0
    obtain ⟨K, KX, c⟩ := Y
    have hmg : mg ("law" : PySem.Str) = some (.ref fa) := by
      have e : (HandSHeadRun.topDef (OpenLaw.row PySem.Challenge.rw_fillorgauge_k59_whole_rings_led_round_ri).prog 75).name = ("law" : PySem.Str) := by kernel_rfl
      rw [← e]
      exact hmg0
    obtain ⟨fd, hb, hF⟩ := Wk.chain (P := (PySem.Challenge.rw_fillorgauge_k59_whole_rings_led_round_ri).prog) (w := w) KX G c
    have e := hmg.symm.trans (He.glo_ok KX G (c.t.d.fact 58 (f := .glo "law") rfl))
    cases e
    exact ⟨K, fd, Wk.spLaw K, KX, hb, fun H a ns hl _ hS => ⟨a, ns, rfl, hS, hl, fun _ => rfl⟩, fun base _ _ => (hF base).imp (Wk.law_imp Pl.law_holds)⟩
end
