import PyProof.Rows.All
import Wide.All
import OpenK.AllK
import Wide.FinOn
import KE.KStateDown
import HandS.ForMost
import HandS.Walk
import HandS.Lambda
import HandS.Deep
import HandS.IsInst
import HandS.TupAny
import HandS.TupLen
import HandS.Conv
import HandS.SortInts
import HandS.Style
import HandS.TryOnly
import HandS.DictComp
import KE.GoesNew
import KE.GoesNewDict
import KE.GoesDict
import KE.GoesMore
import KE.GoesEnum
import HandS.Zip
import KE.SortData
import PyProof.TupleOfSeq
import HandS.TupLe
import HandS.Small
import KE.KDictPairs
import HandS.Codes
import HandS.Defaults
import HandS.Words
import HandS.Exc
import HandS.ExcOwn
import HandS.ExcIs
import KE.DataFind
import PyProof.ReprRoads
import HandS.Wide
import HandS.OwnEq
import HandS.TupMul
import Lean
import HandS.Base
import HandS.Call
import HandS.Ends
import HandS.More
import HandS.WordsExc
import HandS.Head0
import HandS.Head1
import HandS.Head2
import HandS.HeadEnd
import HandS.HeadHook1
import HandS.HeadHook2
import HandS.HeadHook3
import HandS.HeadHook4
import HandS.HeadWalk
import PySem.Challenge.RW_fillorgauge_k01_whole_parts_skeletons_st
section
set_option Elab.async false
set_option linter.all false
/-! Ev0: deep values, frames of owned lists and dicts, the world they are true of. -/
namespace Ev
open PySem PySem.Spec L2
set_option autoImplicit false
inductive D where
  | non | bl (b : Bool) | int (i : Int) | str (x : Str) | tup (k : Bool) (l : List D) | lst (l : List D) | dct (t : Bool) (l : List (D × D)) | ins (c : Nat) (l : List D) | scr (l : List Int) | adr | at_ (a : Addr)
deriving Inhabited
def kD : Key → D
  | .inl i => .int i
  | .inr x => .str x
/-- the classes; the tables of code objects, with the names that they bear -/
structure Ct where
  f : Nat → Addr × List Str
  tb : List (Addr × Str) := []
/-- a tuple; k: its object is known, and has no dict -/
def TupAt (F : Hp) (a : Addr) : Bool → List V → Prop
  | false, vs => F a = some (.tup vs)
  | true, vs => ∃ od : Obj, F a = some (.frz od (.tup vs)) ∧ od.dict = none
section
variable (K : PySem.W.Frag) (ct : Ct) (F : Hp)
mutual
def DRep : D → V → Prop
  | .non, v => v = .non
  | .bl b, v => v = .bl b
  | .int i, v => v = .int i
  | .str x, v => v = .str x
  | .tup k l, v => ∃ a vs, v = .ref a ∧ TupAt F a k vs ∧ DReps l vs
  | .lst l, v => ∃ a vs, v = .ref a ∧ F a = some (.lst vs) ∧ DReps l vs
  | .scr l, v => ∃ a, v = .ref a ∧ SqL K F a (l.map V.int)
  | .adr, v => ∃ a, v = .ref a
  | .at_ a, v => v = .ref a
  | .dct t l, v => ∃ a od u, v = .ref a ∧ F a = some (.frz od u) ∧ ((t = false ∧ ∃ es, u = .dK es ∧ DKv l es) ∨ (t = true ∧ ∃ es, u = .dT es ∧ DTv l es))
  | .ins c l, v => ∃ a dx fs, v = .ref a ∧ F a = some (.ins (ct.f c).1 dx fs) ∧ F dx = some (.own a) ∧ fs.map (·.1) = (ct.f c).2 ∧ DReps l (fs.map (·.2))
def DReps : List D → List V → Prop
  | [], vs => vs = []
  | d :: l, vs => ∃ v r, vs = v :: r ∧ DRep d v ∧ DReps l r
def DKv : List (D × D) → List (Key × V) → Prop
  | [], es => es = []
  | (k, d) :: l, es => ∃ x v r, es = (x, v) :: r ∧ k = kD x ∧ DRep d v ∧ DKv l r
def DTv : List (D × D) → List (List Key × V) → Prop
  | [], es => es = []
  | (k, d) :: l, es => ∃ x v r, es = (x, v) :: r ∧ k = .tup false (x.map kD) ∧ DRep d v ∧ DTv l r
end
def DctO (t : Bool) (l : List (D × D)) (u : HO) : Prop := (t = false ∧ ∃ es, u = .dK es ∧ DKv K ct F l es) ∨ (t = true ∧ ∃ es, u = .dT es ∧ DTv K ct F l es)
end
def Le (F F' : Hp) : Prop := ∀ a o, F a = some o → F' a = some o
theorem Le.refl (F : Hp) : Le F F := fun _ _ h => h
theorem Le.trans {F F' F2 : Hp} (h : Le F F') (h' : Le F' F2) : Le F F2 := fun a o e => h' a o (h a o e)
theorem Le.rd {F F' : Hp} (h : Le F F') {a : Addr} {u : HO} (r : Rd F a u) : Rd F' a u := by
  rcases r with r | ⟨o, r⟩
  · exact .inl (h _ _ r)
  · exact .inr ⟨o, h _ _ r⟩
theorem TupAt.mono {F F' : Hp} (h : Le F F') {a : Addr} : ∀ {k : Bool} {vs : List V}, TupAt F a k vs → TupAt F' a k vs
  | false, _, r => h _ _ r
  | true, _, ⟨od, r, n⟩ => ⟨od, h _ _ r, n⟩
theorem TupAt.sqt {K : PySem.W.Frag} {F : Hp} {a : Addr} : ∀ {k : Bool} {vs : List V}, TupAt F a k vs → SqT K F a vs
  | false, _, r => .inl (.inl r)
  | true, _, ⟨od, r, n⟩ => .inl (.inr ⟨od, r⟩)
theorem Le.sqt {K : PySem.W.Frag} {F F' : Hp} (h : Le F F') {a : Addr} {u : List V} (r : SqT K F a u) : SqT K F' a u := r.imp h.rd id
theorem Le.sql {K : PySem.W.Frag} {F F' : Hp} (h : Le F F') {a : Addr} {u : List V} (r : SqL K F a u) : SqL K F' a u := r.imp h.rd id
theorem Le.none {F F' : Hp} (h : Le F F') {a : Addr} (e : F' a = Option.none) : F a = Option.none := by
  cases q : F a with
  | none => rfl
  | some o => rw [h a o q] at e; cases e
theorem Le.laid {F : Hp} {p : Addr} {o : HO} (h : F p = Option.none) : Le F (upd F p o) := fun a u e => by
  rw [upd_ne (ne_of_none e h)]; exact e
section
variable {K : PySem.W.Frag} {ct : Ct} {F F' : Hp}
mutual
theorem DRep.mono (h : Le F F') : ∀ (d : D) (v : V), DRep K ct F d v → DRep K ct F' d v
  | .non, _, r => r
  | .bl _, _, r => r
  | .int _, _, r => r
  | .str _, _, r => r
  | .tup _ l, _, ⟨a, vs, e, s, r⟩ => ⟨a, vs, e, s.mono h, DReps.mono h l vs r⟩
  | .lst l, _, ⟨a, vs, e, s, r⟩ => ⟨a, vs, e, h _ _ s, DReps.mono h l vs r⟩
  | .scr _, _, ⟨a, e, s⟩ => ⟨a, e, h.sql s⟩
  | .adr, _, r => r
  | .at_ _, _, r => r
  | .dct _ l, _, ⟨a, od, u, e, s, r⟩ => ⟨a, od, u, e, h _ _ s, r.imp (fun ⟨b, es, t, r⟩ => ⟨b, es, t, DKv.mono h l es r⟩) (fun ⟨b, es, t, r⟩ => ⟨b, es, t, DTv.mono h l es r⟩)⟩
  | .ins _ l, _, ⟨a, dx, fs, e, s, t, u, r⟩ => ⟨a, dx, fs, e, h _ _ s, h _ _ t, u, DReps.mono h l _ r⟩
theorem DReps.mono (h : Le F F') : ∀ (l : List D) (vs : List V), DReps K ct F l vs → DReps K ct F' l vs
  | [], _, r => r
  | d :: l, _, ⟨v, t, e, r, q⟩ => ⟨v, t, e, DRep.mono h d v r, DReps.mono h l t q⟩
theorem DKv.mono (h : Le F F') : ∀ (l : List (D × D)) (es : List (Key × V)), DKv K ct F l es → DKv K ct F' l es
  | [], _, r => r
  | (_, d) :: l, _, ⟨x, v, t, e, k, r, q⟩ => ⟨x, v, t, e, k, DRep.mono h d v r, DKv.mono h l t q⟩
theorem DTv.mono (h : Le F F') : ∀ (l : List (D × D)) (es : List (List Key × V)), DTv K ct F l es → DTv K ct F' l es
  | [], _, r => r
  | (_, d) :: l, _, ⟨x, v, t, e, k, r, q⟩ => ⟨x, v, t, e, k, DRep.mono h d v r, DTv.mono h l t q⟩
end
theorem DctO.mono (h : Le F F') {t : Bool} {l : List (D × D)} {u : HO} (r : DctO K ct F t l u) : DctO K ct F' t l u :=
  r.imp (fun ⟨b, es, t, r⟩ => ⟨b, es, t, DKv.mono h l es r⟩) (fun ⟨b, es, t, r⟩ => ⟨b, es, t, DTv.mono h l es r⟩)
theorem DReps.length : ∀ {l : List D} {vs : List V}, DReps K ct F l vs → l.length = vs.length
  | [], vs, r => by rw [show vs = [] from r] <;> rfl
  | d :: l, _, ⟨v, t, e, r, q⟩ => by rw [e, List.length_cons, List.length_cons, DReps.length q]
theorem DReps.get : ∀ {l : List D} {vs : List V} {i : Nat} {d : D}, DReps K ct F l vs → l[i]? = some d → ∃ v, vs[i]? = some v ∧ DRep K ct F d v
  | [], _, _, _, _, h => by simp at h
  | d :: l, _, 0, _, ⟨v, t, e, r, q⟩, h => by
    simp at h; subst h; exact ⟨v, by rw [e]; rfl, r⟩
  | d :: l, _, i + 1, _, ⟨v, t, e, r, q⟩, h => by
    obtain ⟨v', h1, h2⟩ := DReps.get (i := i) q (by simpa using h)
    exact ⟨v', by rw [e]; simpa using h1, h2⟩
theorem DReps.get' : ∀ {l : List D} {vs : List V} {i : Nat} {v : V}, DReps K ct F l vs → vs[i]? = some v → ∃ d, l[i]? = some d ∧ DRep K ct F d v := fun {l vs i v} r h => by
  have hl := r.length
  have hi : i < l.length := by rw [hl]; exact (List.getElem?_eq_some_iff.mp h).1
  obtain ⟨v', h1, h2⟩ := r.get (List.getElem?_eq_getElem hi)
  rw [h] at h1; cases h1
  exact ⟨_, List.getElem?_eq_getElem hi, h2⟩
theorem DReps.append : ∀ {l m : List D} {vs us : List V}, DReps K ct F l vs → DReps K ct F m us → DReps K ct F (l ++ m) (vs ++ us)
  | [], _, _, _, r, s => by rw [show _ = [] from r]; exact s
  | d :: l, _, _, _, ⟨v, t, e, r, q⟩, s => ⟨v, _, by rw [e]; rfl, r, DReps.append q s⟩
theorem DReps.one {d : D} {v : V} (r : DRep K ct F d v) : DReps K ct F [d] [v] := ⟨v, [], rfl, r, rfl⟩
theorem DReps.take : ∀ {l : List D} {vs : List V} (n : Nat), DReps K ct F l vs → DReps K ct F (l.take n) (vs.take n)
  | _, _, 0, _ => by simp only [List.take_zero]; exact rfl
  | [], _, _ + 1, r => by rw [show _ = [] from r]; exact rfl
  | d :: l, _, n + 1, ⟨v, t, e, r, q⟩ => ⟨v, t.take n, by rw [e]; rfl, r, DReps.take n q⟩
theorem DReps.drop : ∀ {l : List D} {vs : List V} (n : Nat), DReps K ct F l vs → DReps K ct F (l.drop n) (vs.drop n)
  | _, _, 0, r => r
  | [], _, _ + 1, r => by rw [show _ = [] from r]; exact rfl
  | d :: l, _, n + 1, ⟨v, t, e, r, q⟩ => by rw [e]; exact DReps.drop n q
theorem DReps.set : ∀ {l : List D} {vs : List V} (i : Nat) {d : D} {v : V}, DReps K ct F l vs → DRep K ct F d v → DReps K ct F (l.set i d) (vs.set i v)
  | [], _, _, _, _, r, _ => by rw [show _ = [] from r]; exact rfl
  | _ :: l, _, 0, _, _, ⟨v, t, e, _, q⟩, s => ⟨_, t, by rw [e]; rfl, s, q⟩
  | _ :: l, _, i + 1, _, _, ⟨v, t, e, r, q⟩, s => ⟨v, _, by rw [e]; rfl, r, DReps.set i q s⟩
theorem DReps.eraseIdx : ∀ {l : List D} {vs : List V} (i : Nat), DReps K ct F l vs → DReps K ct F (l.eraseIdx i) (vs.eraseIdx i)
  | [], _, _, r => by rw [show _ = [] from r]; exact rfl
  | _ :: l, _, 0, ⟨v, t, e, _, q⟩ => by rw [e]; exact q
  | _ :: l, _, i + 1, ⟨v, t, e, r, q⟩ => ⟨v, t.eraseIdx i, by rw [e]; rfl, r, DReps.eraseIdx i q⟩
theorem DReps.nil : DReps K ct F [] [] := rfl
theorem DReps.cons {d : D} {l : List D} {v : V} {vs : List V} (r : DRep K ct F d v) (q : DReps K ct F l vs) : DReps K ct F (d :: l) (v :: vs) := ⟨v, vs, rfl, r, q⟩
theorem DReps.rev {l : List D} {vs : List V} (r : DReps K ct F l vs) : DReps K ct F l.reverse vs.reverse := by
  induction l generalizing vs with
  | nil => rw [show vs = [] from r]; exact rfl
  | cons d l ih =>
    obtain ⟨v, t, e, r, q⟩ := r
    rw [e, List.reverse_cons, List.reverse_cons]
    exact DReps.append (ih q) (DReps.one r)
end
/-! ### what stays: all but tables of code objects, which grow -/
def Tb (o : HO) : Prop := ∃ ps, o = .tbl ps
/-- no tuple, no table, no code object -/
def Nt (u : HO) : Prop := (∀ xs, u ≠ .tup xs) ∧ (∀ ps, u ≠ .tbl ps) ∧ ∀ f, u ≠ .ext f
theorem Nt.lst {vs : List V} : Nt (.lst vs) := ⟨(fun _ z => by cases z), (fun _ z => by cases z), (fun _ z => by cases z)⟩
theorem Nt.dK {es : List (Key × V)} : Nt (.dK es) := ⟨(fun _ z => by cases z), (fun _ z => by cases z), (fun _ z => by cases z)⟩
theorem Nt.dT {es : List (List Key × V)} : Nt (.dT es) := ⟨(fun _ z => by cases z), (fun _ z => by cases z), (fun _ z => by cases z)⟩
theorem Nt.ins {C d : Addr} {fs : List (Str × V)} : Nt (.ins C d fs) := ⟨(fun _ z => by cases z), (fun _ z => by cases z), (fun _ z => by cases z)⟩
theorem Nt.own {a : Addr} : Nt (.own a) := ⟨(fun _ z => by cases z), (fun _ z => by cases z), (fun _ z => by cases z)⟩
def Kp (H' : Hp) (a : Addr) (o : HO) : Prop := H' a = some o ∨ (Tb o ∧ ∃ o', H' a = some o' ∧ Tb o')
theorem Kp.eq {H' : Hp} {a : Addr} {o : HO} (k : Kp H' a o) (n : ∀ ps, o ≠ .tbl ps) : H' a = some o := by
  rcases k with k | ⟨⟨ps, e⟩, _⟩
  · exact k
  · exact absurd e (n ps)
theorem Kp.none {H' : Hp} {a : Addr} {o : HO} (k : Kp H' a o) (n : H' a = Option.none) : False := by
  rcases k with k | ⟨_, o', k, _⟩ <;> (rw [n] at k; cases k)
theorem Kp.trans {H' H2 : Hp} {a : Addr} {o : HO} (k : Kp H' a o) (h : ∀ o', H' a = some o' → Kp H2 a o') : Kp H2 a o := by
  rcases k with k | ⟨t, o', k, t'⟩
  · exact h o k
  · rcases h o' k with z | ⟨_, o2, z, t2⟩
    · exact .inr ⟨t, o', z, t'⟩
    · exact .inr ⟨t, o2, z, t2⟩
theorem Kp.tup {H' : Hp} {a : Addr} {o : HO} {xs : List V} (k : Kp H' a o) (h : H' a = some (.tup xs)) : o = .tup xs := by
  rcases k with k | ⟨_, o', k, ⟨ps, e⟩⟩
  · rw [h] at k; cases k; rfl
  · rw [h] at k; cases k; cases e
abbrev TabS := LamX.TabS
theorem tab_of {H H' : Hp} {P : Addr} {q : Str} (h : ∀ b o, H b = some o → (Tb o ∨ ∃ f, o = .ext f) → H' b = some o) (t : TabS H P q) : TabS H' P q := by
  obtain ⟨ps, h1, h2, h3⟩ := t
  refine ⟨ps, h _ _ h1 (.inl ⟨ps, rfl⟩), h2, fun pos cv hc => ?_⟩
  obtain ⟨c, e1, e2⟩ := h3 pos cv hc
  exact ⟨c, e1, h _ _ e2 (.inr ⟨_, rfl⟩)⟩
theorem tab_upd {H : Hp} {a : Addr} {u u0 : HO} (h0 : H a = some u0) (n : Nt u0) {P : Addr} {q : Str} (t : TabS H P q) : TabS (upd H a u) P q :=
  tab_of (fun b o e x => by
    rw [upd_ne fun z => by
      subst z
      rw [h0] at e; cases e
      rcases x with ⟨ps, x⟩ | ⟨f, x⟩
      · exact n.2.1 ps x
      · exact n.2.2 f x]
    exact e) t
structure Ge (H H' : Hp) : Prop where
  keep : ∀ a o, H a = some o → Kp H' a o
  tab : ∀ P q, TabS H P q → TabS H' P q
theorem Ge.of {H H' : Hp} (h : Le H H') : Ge H H' := ⟨fun a o e => .inl (h a o e), fun _ _ t => tab_of (fun b o e _ => h b o e) t⟩
theorem Ge.refl (H : Hp) : Ge H H := Ge.of (Le.refl H)
theorem Ge.trans {H H' H2 : Hp} (g : Ge H H') (k : Ge H' H2) : Ge H H2 := ⟨fun a o e => (g.keep a o e).trans fun o' e' => k.keep a o' e', fun P q t => k.tab P q (g.tab P q t)⟩
abbrev KeepA (H H' : Hp) : Prop := ∀ a o, H a = some o → Kp H' a o
theorem KeepA.none {H H' : Hp} (g : KeepA H H') {a : Addr} (e : H' a = Option.none) : H a = Option.none := by
  cases q : H a with
  | none => rfl
  | some o => exact ((g a o q).none e).elim
theorem Ge.none {H H' : Hp} (g : Ge H H') {a : Addr} (e : H' a = Option.none) : H a = Option.none := by
  cases q : H a with
  | none => rfl
  | some o => exact ((g.keep a o q).none e).elim
/-! ### slots -/
/-- what a slot holds: a deep value; a list, a dict of its own (io: a parameter whose changes the caller sees) -/
inductive S where
  | imm (d : D) | ls (io : Bool) (l : List D) | ds (io t : Bool) (l : List (D × D)) | prv
deriving Inhabited
def S.own : S → Bool
  | .imm _ => false
  | .prv => false
  | _ => true
def S.io : S → Bool
  | .imm _ => false
  | .ls b _ => b
  | .ds b _ _ => b
  | .prv => true
def S.toD : S → D
  | .imm d => d
  | .ls _ l => .lst l
  | .ds _ t l => .dct t l
  | .prv => .adr
abbrev Fr := List (Option S)
def SRep (K : PySem.W.Frag) (ct : Ct) (F H : Hp) : S → V → Prop
  | .imm d, v => DRep K ct F d v
  | .ls _ l, v => ∃ a vs, v = .ref a ∧ F a = none ∧ H a = some (.lst vs) ∧ DReps K ct F l vs
  | .ds _ t l, v => ∃ a u, v = .ref a ∧ F a = none ∧ H a = some u ∧ DctO K ct F t l u
  | .prv, v => ∃ a, v = .ref a
def Own (σV : St) (σ : Fr) (a : Addr) : Prop := ∃ (i : Nat) (s : S), σ[i]? = some (some s) ∧ s.own = true ∧ σV[i]? = some (some (.ref a))
theorem DctO.notup {K ct F} {t : Bool} {l : List (D × D)} {u : HO} (r : DctO K ct F t l u) : Nt u := by
  rcases r with ⟨_, es, rfl, _⟩ | ⟨_, es, rfl, _⟩
  · exact Nt.dK
  · exact Nt.dT
theorem SRep.ref {K ct F H} {s : S} {v : V} (r : SRep K ct F H s v) (o : s.own = true) : ∃ a u, v = .ref a ∧ F a = none ∧ H a = some u ∧ Nt u := by
  cases s with
  | imm d => cases o
  | prv => cases o
  | ls b l => obtain ⟨a, vs, e, f, h, _⟩ := r; exact ⟨a, _, e, f, h, Nt.lst⟩
  | ds b t l => obtain ⟨a, u, e, f, h, q⟩ := r; exact ⟨a, _, e, f, h, q.notup⟩
theorem SRep.keep {K ct F H F' H'} {s : S} {v : V} (r : SRep K ct F H s v) (h : Le F F') (k : s.own = true → ∀ a, v = .ref a → F' a = none ∧ H' a = H a) : SRep K ct F' H' s v := by
  cases s with
  | imm d => exact DRep.mono h d v r
  | prv => exact r
  | ls b l =>
    obtain ⟨a, vs, e, f, g, q⟩ := r
    obtain ⟨k1, k2⟩ := k rfl a e
    exact ⟨a, vs, e, k1, k2.trans g, DReps.mono h l vs q⟩
  | ds b t l =>
    obtain ⟨a, u, e, f, g, q⟩ := r
    obtain ⟨k1, k2⟩ := k rfl a e
    exact ⟨a, u, e, k1, k2.trans g, q.mono h⟩
def NoT (F : Hp) : Prop := ∀ a ps, F a ≠ some (.tbl ps)
theorem NoT.upd {F : Hp} {a : Addr} {o : HO} (h : NoT F) (n : ∀ ps, o ≠ .tbl ps) : NoT (upd F a o) := fun b ps e => by
  by_cases z : b = a
  · subst z; rw [upd_same] at e; exact n ps (Option.some.inj e)
  · rw [upd_ne z] at e; exact h b ps e
def Tbs (ct : Ct) (H : Hp) : Prop := ∀ p ∈ ct.tb, TabS H p.1 p.2
structure Wd (K : PySem.W.Frag) (ct : Ct) (F H : Hp) (σV : St) (σ : Fr) : Prop where
  le : Le F H
  slot : ∀ (i : Nat) (s : S), σ[i]? = some (some s) → ∃ v, σV[i]? = some (some v) ∧ SRep K ct F H s v
  dis : ∀ (i j : Nat) (s t : S) (a : Addr), σ[i]? = some (some s) → σ[j]? = some (some t) → s.own = true → t.own = true → σV[i]? = some (some (.ref a)) → σV[j]? = some (some (.ref a)) → i = j
  ln : σ.length ≤ σV.length
  tb : Tbs ct H
  nt : NoT F
structure Stp (K : PySem.W.Frag) (ct : Ct) (F H : Hp) (σV : St) (σ : Fr) (F' H' : Hp) (σV' : St) (σ' : Fr) : Prop where
  w : Wd K ct F' H' σV' σ'
  le : Le F F'
  keep : ∀ a o, H a = some o → ¬ Own σV σ a → Kp H' a o
  there : ∀ a, H' a = none → H a = none
  froz : ∀ a, F' a ≠ none → F a ≠ none ∨ H a = none ∨ Own σV σ a ∨ ∃ xs, H a = some (.tup xs)
  own : ∀ a, Own σV' σ' a → Own σV σ a ∨ H a = none
  io : ∀ (i : Nat) (s : S), σ[i]? = some (some s) → s.io = true → (∃ s' : S, σ'[i]? = some (some s') ∧ s'.io = true) ∧ σV'[i]? = σV[i]?
  len : σ'.length = σ.length
section
variable {K : PySem.W.Frag} {ct : Ct} {F H F' H' F2 H2 : Hp} {σV σV' σV2 : St} {σ σ' σ2 : Fr}
theorem Wd.own (w : Wd K ct F H σV σ) {a : Addr} (o : Own σV σ a) : F a = none ∧ ∃ u, H a = some u ∧ Nt u := by
  obtain ⟨i, s, e, so, ev⟩ := o
  obtain ⟨v, e1, r⟩ := w.slot i s e
  rw [ev] at e1; cases e1
  obtain ⟨b, u, q, f, h, n⟩ := r.ref so
  cases q
  exact ⟨f, u, h, n⟩
theorem Stp.refl (w : Wd K ct F H σV σ) : Stp K ct F H σV σ F H σV σ :=
  ⟨w, Le.refl F, fun _ _ h _ => .inl h, fun _ h => h, fun _ h => .inl h, fun _ h => .inl h, fun i s h o => ⟨⟨s, h, o⟩, rfl⟩, rfl⟩
theorem Stp.trans (x : Stp K ct F H σV σ F' H' σV' σ') (y : Stp K ct F' H' σV' σ' F2 H2 σV2 σ2) : Stp K ct F H σV σ F2 H2 σV2 σ2 where
  w := y.w
  le := x.le.trans y.le
  keep := fun a o h n => (x.keep a o h n).trans fun o' e' => y.keep a o' e' fun q => (x.own a q).elim n fun z => by rw [h] at z; cases z
  there := fun a h => x.there a (y.there a h)
  froz := fun a h => by
    rcases y.froz a h with h | h | h | ⟨xs, h⟩
    · exact x.froz a h
    · exact .inr (.inl (x.there a h))
    · exact (x.own a h).elim (fun z => .inr (.inr (.inl z))) fun z => .inr (.inl z)
    · by_cases ow : Own σV σ a
      · exact .inr (.inr (.inl ow))
      · cases q : H a with
        | none => exact .inr (.inl rfl)
        | some o =>
          have e := (x.keep a o q ow).tup h
          subst e
          exact .inr (.inr (.inr ⟨xs, rfl⟩))
  own := fun a h => by
    rcases y.own a h with h | h
    · exact x.own a h
    · exact .inr (x.there a h)
  io := fun i s h o => by
    obtain ⟨⟨s', h', o'⟩, e⟩ := x.io i s h o
    obtain ⟨q, e'⟩ := y.io i s' h' o'
    exact ⟨q, e'.trans e⟩
  len := y.len.trans x.len
/-- the heap grows, the slots stay -/
theorem Stp.grow (w : Wd K ct F H σV σ) (le : Le F F') (le' : Le F' H') (keep : KeepA H H') (tbs : Tbs ct H → Tbs ct H') (froz : ∀ a, F' a ≠ none → F a ≠ none ∨ H a = none ∨ ∃ xs, H a = some (.tup xs)) (nf : NoT F → NoT F') : Stp K ct F H σV σ F' H' σV σ where
  w := ⟨le', fun i s e => by
    obtain ⟨v, e1, r⟩ := w.slot i s e
    refine ⟨v, e1, r.keep le fun so a ev => ?_⟩
    subst ev
    obtain ⟨f, u, h, nt⟩ := w.own ⟨i, s, e, so, e1⟩
    refine ⟨?_, ((keep a u h).eq nt.2.1).trans h.symm⟩
    cases q : F' a with
    | none => rfl
    | some o =>
      rcases froz a (by rw [q]; simp) with z | z | ⟨xs, z⟩
      · exact absurd f z
      · rw [h] at z; exact absurd z (by simp)
      · rw [h] at z; cases z; exact absurd rfl (nt.1 xs),
    fun i j s t a => w.dis i j s t a, w.ln, tbs w.tb, nf w.nt⟩
  le := le
  keep := fun a o h _ => keep a o h
  there := fun a h => KeepA.none keep h
  froz := fun a h => (froz a h).imp id fun z => z.imp id .inr
  own := fun _ h => .inl h
  io := fun i s h o => ⟨⟨s, h, o⟩, rfl⟩
  len := rfl
/-- a new object, frozen from the start -/
theorem Stp.new (w : Wd K ct F H σV σ) {p : Addr} {o : HO} (h : H p = none) (no : ∀ ps, o ≠ .tbl ps := by intro _ z; cases z) : Stp K ct F H σV σ (upd F p o) (upd H p o) σV σ :=
  Stp.grow w (Le.laid (w.le.none h)) (fun a u e => by
    by_cases z : a = p
    · subst z; rw [upd_same] at e ⊢; exact e
    · rw [upd_ne z] at e ⊢; exact w.le a u e) (Ge.of (Le.laid h)).keep (fun t p hp => (Ge.of (Le.laid h)).tab _ _ (t p hp)) (fun a q => by
    by_cases z : a = p
    · subst z; exact .inr (.inl h)
    · rw [upd_ne z] at q; exact .inl q) fun n => n.upd no
/-- a new object that is not frozen -/
theorem Stp.lay (w : Wd K ct F H σV σ) {p : Addr} {o : HO} (h : H p = none) : Stp K ct F H σV σ F (upd H p o) σV σ :=
  Stp.grow w (Le.refl F) (w.le.trans (Le.laid h)) (Ge.of (Le.laid h)).keep (fun t p hp => (Ge.of (Le.laid h)).tab _ _ (t p hp)) (fun _ q => .inl q) id
end
end Ev
end

section
set_option Elab.async false
set_option linter.all false
/-! Ev1: readings of value functions; names, constants, operators, tests. -/
namespace Ev
open PySem PySem.Spec L2
set_option autoImplicit false
abbrev M (α : Type) := Fr → Option (α × Fr)
theorem PEimp {X : Cx} {e : Expr} {t t' : TE} (h : PE X e t) (i : ∀ σ H Q, t' σ H Q → t σ H Q) : PE X e t' := ⟨fun pins s σ H Q I q => h.run pins s σ H Q I (i σ H Q q)⟩
theorem PTimp {X : Cx} {e : Expr} {t t' : TT} (h : PT X e t) (i : ∀ σ H Q, t' σ H Q → t σ H Q) : PT X e t' := ⟨fun pins s σ H Q I q => h.run pins s σ H Q I (i σ H Q q)⟩
theorem PWimp {X : Cx} {e : Expr} {t t' : TT} (h : PW X e t) (i : ∀ σ H Q, t' σ H Q → t σ H Q) : PW X e t' := ⟨fun wh pins s σ H Q I q => h.run wh pins s σ H Q I (i σ H Q q)⟩
theorem PSimp {X : Cx} {e : Stmt} {t t' : TS} (h : PS X e t) (i : ∀ D σ H, t' D σ H → t D σ H) : PS X e t' := ⟨fun pins s σ H D I q => h.run pins s σ H D I (i D σ H q)⟩
theorem PSsimp {X : Cx} {e : List Stmt} {t t' : TS} (h : PSs X e t) (i : ∀ D σ H, t' D σ H → t D σ H) : PSs X e t' := ⟨fun pins s σ H D I q => h.run pins s σ H D I (i D σ H q)⟩
/-- what a fresh or deep result is -/
def FRep (K : PySem.W.Frag) (ct : Ct) (H : Hp) (σV : St) (σ : Fr) (F' H' : Hp) (σ' : Fr) : S → V → Prop
  | .imm d, v => DRep K ct F' d v
  | s, v => s.io = false ∧ SRep K ct F' H' s v ∧ ∀ a, v = .ref a → ¬ Own σV σ' a ∧ (H a = none ∨ Own σV σ a)
/-- a deep value -/
def rdE (X : Cx) (ct : Ct) (m : M D) : TE := fun σV H Q => ∃ F σ, Wd X.K ct F H σV σ ∧ ∃ d σ', m σ = some (d, σ') ∧ ∀ v H' F', Stp X.K ct F H σV σ F' H' σV σ' → DRep X.K ct F' d v → Q v H'
/-- a fresh list or dict, or a deep value -/
def rdF (X : Cx) (ct : Ct) (m : M S) : TE := fun σV H Q => ∃ F σ, Wd X.K ct F H σV σ ∧ ∃ d σ', m σ = some (d, σ') ∧ ∀ v H' F', Stp X.K ct F H σV σ F' H' σV σ' → FRep X.K ct H σV σ F' H' σ' d v → Q v H'
def rdT (X : Cx) (ct : Ct) (m : M Bool) : TT := fun σV H Q => ∃ F σ, Wd X.K ct F H σV σ ∧ ∃ d σ', m σ = some (d, σ') ∧ ∀ H' F', Stp X.K ct F H σV σ F' H' σV σ' → Q d H'
abbrev SE (X : Cx) (ct : Ct) (e : Expr) (m : M D) : Prop := PE X e (rdE X ct m)
abbrev SF (X : Cx) (ct : Ct) (e : Expr) (m : M S) : Prop := PE X e (rdF X ct m)
abbrev ST (X : Cx) (ct : Ct) (e : Expr) (m : M Bool) : Prop := PT X e (rdT X ct m)
abbrev SW (X : Cx) (ct : Ct) (e : Expr) (m : M Bool) : Prop := PW X e (rdT X ct m)
/-! ### views -/
def VRep (K : PySem.W.Frag) (ct : Ct) (F H : Hp) : D → V → Prop
  | .lst l, v => ∃ a vs, v = .ref a ∧ H a = some (.lst vs) ∧ DReps K ct F l vs
  | .dct t l, v => ∃ a u, v = .ref a ∧ Rd H a u ∧ DctO K ct F t l u
  | d, v => DRep K ct F d v
theorem VRep.of {K ct F H} (le : Le F H) : ∀ {d : D} {v : V}, DRep K ct F d v → VRep K ct F H d v
  | .lst _, _, ⟨a, vs, e, h, r⟩ => ⟨a, vs, e, le _ _ h, r⟩
  | .dct _ _, _, ⟨a, od, u, e, h, r⟩ => ⟨a, u, e, .inr ⟨od, le _ _ h⟩, r⟩
  | .non, _, r => r
  | .bl _, _, r => r
  | .int _, _, r => r
  | .str _, _, r => r
  | .tup _ _, _, r => r
  | .ins _ _, _, r => r
  | .scr _, _, r => r
  | .adr, _, r => r
  | .at_ _, _, r => r
theorem SRep.view {K ct F H} (le : Le F H) : ∀ {s : S} {v : V}, SRep K ct F H s v → VRep K ct F H s.toD v
  | .imm _, _, r => VRep.of le r
  | .ls _ _, _, ⟨a, vs, e, _, h, r⟩ => ⟨a, vs, e, h, r⟩
  | .ds _ _ _, _, ⟨a, u, e, _, h, r⟩ => ⟨a, u, e, .inl h, r⟩
  | .prv, _, r => r
/-- the view of a slot -/
def vw (σ : Fr) (i : Nat) : Option D := match σ[i]? with
  | some (some s) => some s.toD
  | _ => none
/-- an argument: reckoned; or a name's own thing, looked at when all are there -/
inductive A where
  | val (m : M D) | pk (i : Nat)
def A.go : A → Fr → Option (D × Fr)
  | .val m, σ => m σ
  | .pk i, σ => match σ[i]? with
    | some (some _) => some (.non, σ)
    | _ => none
def A.fin : A → D → Fr → Option D
  | .val _, d, _ => some d
  | .pk i, _, σ => vw σ i
def A.one (a : A) : M D := fun σ => match a.go σ with
  | some (x, σ1) => (match a.fin x σ1 with
    | some d => some (d, σ1)
    | none => none)
  | none => none
def A.two (a b : A) : Fr → Option ((D × D) × Fr) := fun σ => match a.go σ with
  | some (x, σ1) => (match b.go σ1 with
    | some (y, σ2) => (match a.fin x σ2, b.fin y σ2 with
      | some d, some e => some ((d, e), σ2)
      | _, _ => none)
    | none => none)
  | none => none
def A.rd (X : Cx) (ct : Ct) : A → TE
  | .val m => rdE X ct m
  | .pk i => tVar i
abbrev AE (X : Cx) (ct : Ct) (e : Expr) (a : A) : Prop := PE X e (a.rd X ct)
/-- what came of an argument -/
def A.res (K : PySem.W.Frag) (ct : Ct) (F : Hp) (σV : St) : A → D → V → Prop
  | .val _, d, v => DRep K ct F d v
  | .pk i, _, v => σV[i]? = some (some v)
section
variable {X : Cx} {ct : Ct} {F H F' H' : Hp} {σV : St} {σ σ' : Fr}
theorem A.res_mono {K} (h : Le F F') : ∀ {a : A} {d : D} {v : V}, a.res K ct F σV d v → a.res K ct F' σV d v
  | .val _, d, v, r => DRep.mono h d v r
  | .pk _, _, _, r => r
theorem A.view {K} (w : Wd K ct F H σV σ) : ∀ {a : A} {x d : D} {v : V}, a.res K ct F σV x v → a.fin x σ = some d → VRep K ct F H d v
  | .val _, x, d, v, r, e => by cases e; exact VRep.of w.le r
  | .pk i, x, d, v, r, e => by
    have e : vw σ i = some d := e
    unfold vw at e
    split at e
    · rename_i s q
      cases e
      obtain ⟨v', e1, r1⟩ := w.slot i s q
      have r' : σV[i]? = some (some v) := r
      rw [r'] at e1; cases e1
      exact r1.view w.le
    · cases e
theorem A.ok (w : Wd X.K ct F H σV σ) : ∀ {a : A} {x : D}, a.go σ = some (x, σ') → ∀ {R : V → Hp → Prop}, (∀ v H' F', Stp X.K ct F H σV σ F' H' σV σ' → a.res X.K ct F' σV x v → R v H') → a.rd X ct σV H R
  | .val m, x, e, R, h => ⟨F, σ, w, x, σ', e, fun v H' F' st r => h v H' F' st r⟩
  | .pk i, x, e, R, h => by
    have e : (match σ[i]? with | some (some _) => some (D.non, σ) | _ => none) = some (x, σ') := e
    split at e
    · rename_i s q
      cases e
      obtain ⟨v, e1, r1⟩ := w.slot i s q
      exact ⟨v, e1, h v H F (Stp.refl w) e1⟩
    · cases e
theorem A.one_ok (w : Wd X.K ct F H σV σ) {a : A} {d : D} (e : a.one σ = some (d, σ')) {R : V → Hp → Prop} (h : ∀ v H' F', Stp X.K ct F H σV σ F' H' σV σ' → VRep X.K ct F' H' d v → R v H') : a.rd X ct σV H R := by
  unfold A.one at e
  split at e
  · rename_i x σ1 q
    split at e
    · rename_i d' q2
      cases e
      exact A.ok w q fun v H' F' st r => h v H' F' st (A.view st.w r q2)
    · cases e
  · cases e
theorem A.two_ok (w : Wd X.K ct F H σV σ) {a b : A} {d e : D} (he : a.two b σ = some ((d, e), σ')) {R : V → V → Hp → Prop}
    (h : ∀ v u H' F', Stp X.K ct F H σV σ F' H' σV σ' → VRep X.K ct F' H' d v → VRep X.K ct F' H' e u → R v u H') : a.rd X ct σV H fun x H1 => b.rd X ct σV H1 fun y H2 => R x y H2 := by
  unfold A.two at he
  split at he
  · rename_i x σ1 q
    split at he
    · rename_i y σ2 q2
      split at he
      · rename_i d' e' q3 q4
        cases he
        refine A.ok w q fun v H1 F1 st1 r1 => A.ok st1.w q2 fun u H2 F2 st2 r2 => ?_
        have st := st1.trans st2
        exact h v u H2 F2 st (A.view st.w (A.res_mono st2.le r1) q3) (A.view st.w r2 q4)
      · cases he
    · cases he
  · cases he
end
/-! ### names, constants -/
def mC (d : D) : M D := fun σ => some (d, σ)
/-- a name's deep value; an own thing is frozen for good -/
def mV (i : Nat) : M D := fun σ => match σ[i]? with
  | some (some (.imm d)) => some (d, σ)
  | some (some (.ls false l)) => some (.lst l, σ.set i (some (.imm (.lst l))))
  | some (some (.ds false t l)) => some (.dct t l, σ.set i (some (.imm (.dct t l))))
  | _ => none
section
variable {X : Cx} {ct : Ct} {F H F' H' : Hp} {σV : St} {σ σ' : Fr}
theorem set_get {i : Nat} {s : S} {j : Nat} {t : S} (e : (σ.set i (some s))[j]? = some (some t)) : (j = i ∧ t = s) ∨ (j ≠ i ∧ σ[j]? = some (some t)) := by
  rw [List.getElem?_set] at e
  by_cases h : i = j
  · subst h
    rw [if_pos rfl] at e
    split at e
    · cases e; exact .inl ⟨rfl, rfl⟩
    · cases e
  · rw [if_neg h] at e
    exact .inr ⟨Ne.symm h, e⟩
theorem upd_self {H : Hp} {a : Addr} {u : HO} (h : H a = some u) : upd H a u = H := by
  funext b
  by_cases z : b = a
  · subst z; rw [upd_same, h]
  · rw [upd_ne z]
theorem upd_none {H : Hp} {a b : Addr} {u : HO} (h : upd H a u b = none) : H b = none := by
  by_cases z : b = a
  · subst z; rw [upd_same] at h; cases h
  · rwa [upd_ne z] at h
/-- an own thing becomes frozen -/
theorem Stp.freeze {K} (w : Wd K ct F H σV σ) {i : Nat} {s : S} {a : Addr} {u : HO} {d : D} (e : σ[i]? = some (some s)) (so : s.own = true) (io : s.io = false) (ev : σV[i]? = some (some (.ref a)))
    (r : DRep K ct (upd F a u) d (.ref a)) (no : ∀ ps, u ≠ .tbl ps := by intro _ z; cases z) : Stp K ct F H σV σ (upd F a u) (upd H a u) σV (σ.set i (some (.imm d))) := by
  have o : Own σV σ a := ⟨i, s, e, so, ev⟩
  have fa := (w.own o).1
  have le : Le F (upd F a u) := Le.laid fa
  refine ⟨⟨fun b q z => ?_, fun j t ej => ?_, fun j k t t' b ej ek to to' bj bk => ?_, ?_, fun p hp => let ⟨_, _, hu, nu⟩ := w.own o; tab_upd hu nu (w.tb p hp), w.nt.upd no⟩, le, fun b q h n => ?_, fun _ h => upd_none h, fun b z => ?_, fun b z => ?_, fun j t ej tio => ?_, by simp⟩
  · by_cases hb : b = a
    · subst hb; rw [upd_same] at z ⊢; exact z
    · rw [upd_ne hb] at z ⊢; exact w.le b q z
  · rcases set_get ej with ⟨rfl, rfl⟩ | ⟨hj, ej⟩
    · exact ⟨_, ev, r⟩
    · obtain ⟨v', e1, r1⟩ := w.slot j t ej
      refine ⟨v', e1, r1.keep le fun to b eb => ?_⟩
      subst eb
      have nb : b ≠ a := fun z => by subst z; exact hj (w.dis j i t s b ej e to so e1 ev)
      exact ⟨by rw [upd_ne nb]; exact (w.own ⟨j, t, ej, to, e1⟩).1, by rw [upd_ne nb]⟩
  · rcases set_get ej with ⟨_, rfl⟩ | ⟨_, ej⟩
    · cases to
    · rcases set_get ek with ⟨_, rfl⟩ | ⟨_, ek⟩
      · cases to'
      · exact w.dis j k t t' b ej ek to to' bj bk
  · simp; exact w.ln
  · refine .inl ?_; rw [upd_ne fun z => n (by subst z; exact o)]; exact h
  · by_cases hb : b = a
    · subst hb; exact .inr (.inr (.inl o))
    · rw [upd_ne hb] at z; exact .inl z
  · obtain ⟨j, t, ej, to, bj⟩ := z
    rcases set_get ej with ⟨_, rfl⟩ | ⟨_, ej⟩
    · cases to
    · exact .inl ⟨j, t, ej, to, bj⟩
  · have hj : j ≠ i := fun z => by subst z; rw [e] at ej; cases ej; rw [io] at tio; cases tio
    exact ⟨⟨t, by rw [List.getElem?_set_ne (Ne.symm hj)]; exact ej, tio⟩, rfl⟩
/-- a thing may be locked for good behind an expression -/
def tLk (t : TE) : TE := fun σV H Q => t σV H fun v H1 => Q v H1 ∨ ∃ d u, H1 d = some u ∧ Mut (some u) ∧ ∀ od, Q v (upd H1 d (.frz od u))
theorem pe_lk {e : Expr} {t : TE} (h : PE X e t) : PE X e (tLk t) := ⟨fun pins s σ H Q I q => thn (h.run pins s σ H _ I q) fun v s1 ⟨x, H1, I1, r, q1⟩ => by
  rcases q1 with q1 | ⟨d, u, hd, mu, q1⟩
  · exact ⟨x, H1, I1, r, q1⟩
  · obtain ⟨od, I2⟩ := I1.lock hd mu
    exact ⟨x, _, I2, r, q1 od⟩⟩
theorem DctO.mut {K} {t : Bool} {l : List (D × D)} {u : HO} (r : DctO K ct F t l u) : Mut (some u) := by
  rcases r with ⟨_, es, rfl, _⟩ | ⟨_, es, rfl, _⟩ <;> trivial
theorem se_const {e : Expr} {d : D} {v : V} (h : PE X e (tC v)) (r : ∀ F, DRep X.K ct F d v) : SE X ct e (mC d) := PEimp h fun σV H Q ⟨F, σ, w, d', σ', e, q⟩ => by
  cases e
  exact q v H F (Stp.refl w) (r F)
theorem se_int {i j pos} : SE X ct (.Constant (.int i) j pos) (mC (.int i)) := se_const pe_int fun _ => rfl
theorem se_bl {b j pos} : SE X ct (.Constant (.bool b) j pos) (mC (.bl b)) := se_const pe_bl fun _ => rfl
theorem se_non {j pos} : SE X ct (.Constant .none j pos) (mC .non) := se_const pe_non fun _ => rfl
theorem se_str {x j pos} : SE X ct (.Constant (.str x) j pos) (mC (.str x)) := se_const pe_str fun _ => rfl
theorem se_gint {x : Str} {i : Int} {pos : Pos} (hg : Gl X x) (hm : ∃ t, X.mg x = some (.int i t)) (hd : (x == ("__debug__" : Str)) = false := by decide) : SE X ct (.Name x pos) (mC (.int i)) := by
  obtain ⟨t, hm⟩ := hm
  exact se_const (v := .int i) (pe_glob hg hm ⟨t, rfl⟩ hd) fun _ => rfl
theorem se_var {i : Nat} {e : Expr} (h : PE X e (tVar i)) : SE X ct e (mV i) := PEimp (pe_lk h) fun σV H Q ⟨F, σ, w, d', σ', e, q⟩ => by
  unfold mV at e
  split at e
  · rename_i d h1
    cases e
    obtain ⟨v, e1, r⟩ := w.slot i _ h1
    exact ⟨v, e1, .inl (q v H F (Stp.refl w) r)⟩
  · rename_i l h1
    cases e
    obtain ⟨v, e1, a, vs, rfl, fa, ha, r⟩ := w.slot i _ h1
    have rr : DRep X.K ct (upd F a (.lst vs)) (.lst l) (.ref a) := ⟨a, vs, rfl, upd_same, DReps.mono (Le.laid fa) l vs r⟩
    have st := Stp.freeze w h1 rfl rfl e1 rr
    rw [upd_self ha] at st
    exact ⟨_, e1, .inl (q _ H _ st rr)⟩
  · rename_i t l h1
    cases e
    obtain ⟨v, e1, a, u, rfl, fa, ha, r⟩ := w.slot i _ h1
    refine ⟨_, e1, .inr ⟨a, u, ha, r.mut, fun od => ?_⟩⟩
    have rr : DRep X.K ct (upd F a (.frz od u)) (.dct t l) (.ref a) := ⟨a, od, u, rfl, upd_same, DctO.mono (Le.laid fa) r⟩
    exact q _ _ _ (Stp.freeze w h1 rfl rfl e1 rr) rr
  · cases e
theorem ae_v {e : Expr} {m : M D} (h : SE X ct e m) : AE X ct e (.val m) := h
theorem ae_p {e : Expr} {i : Nat} (h : PE X e (tVar i)) : AE X ct e (.pk i) := h
/-! ### fresh ones frozen -/
def mFz (m : M S) : M D := fun σ => match m σ with
  | some (s, σ') => some (s.toD, σ')
  | none => none
theorem Stp.freezeNew {K} {F2 H2 : Hp} (st : Stp K ct F H σV σ F2 H2 σV σ') {a : Addr} {u o0 : HO} (fa : F2 a = none) (ha : H2 a = some o0) (n0 : Nt o0) (n1 : ¬ Own σV σ' a) (n2 : H a = none ∨ Own σV σ a) (no : ∀ ps, u ≠ .tbl ps := by intro _ z; cases z) : Stp K ct F H σV σ (upd F2 a u) (upd H2 a u) σV σ' where
  w := ⟨fun b q z => by
      by_cases hb : b = a
      · subst hb; rw [upd_same] at z ⊢; exact z
      · rw [upd_ne hb] at z ⊢; exact st.w.le b q z, fun i s e => by
      obtain ⟨v, e1, r⟩ := st.w.slot i s e
      refine ⟨v, e1, r.keep (Le.laid fa) fun so b eb => ?_⟩
      subst eb
      have o : Own σV σ' b := ⟨i, s, e, so, e1⟩
      have nb : b ≠ a := fun z => n1 (z ▸ o)
      exact ⟨by rw [upd_ne nb]; exact (st.w.own o).1, by rw [upd_ne nb]⟩, st.w.dis, st.w.ln, fun p hp => tab_upd ha n0 (st.w.tb p hp), st.w.nt.upd no⟩
  le := st.le.trans (Le.laid fa)
  keep := fun b o h n => by
    unfold Kp
    rw [upd_ne fun z => by subst z; rcases n2 with n2 | n2; (rw [h] at n2; cases n2); exact n n2]
    exact st.keep b o h n
  there := fun b h => st.there b (upd_none h)
  froz := fun b z => by
    by_cases hb : b = a
    · subst hb
      rcases n2 with n2 | n2
      · exact .inr (.inl n2)
      · exact .inr (.inr (.inl n2))
    · rw [upd_ne hb] at z; exact st.froz b z
  own := st.own
  io := st.io
  len := st.len
theorem SF.toE {e : Expr} {m : M S} (h : SF X ct e m) : SE X ct e (mFz m) := PEimp (pe_lk h) fun σV H Q ⟨F, σ, w, d', σ', e, q⟩ => by
  unfold mFz at e
  split at e
  · rename_i s σ1 h1
    cases e
    refine ⟨F, σ, w, _, _, h1, fun v H' F' st r => ?_⟩
    cases s with
    | prv => exact Bool.noConfusion (show true = false from r.1)
    | imm d => exact .inl (q v H' F' st r)
    | ls b l =>
      obtain ⟨_, ⟨a, vs, e, fa, ha, r⟩, n⟩ := r
      obtain ⟨n1, n2⟩ := n a e
      have st' := Stp.freezeNew (u := .lst vs) st fa ha Nt.lst n1 n2
      rw [upd_self ha] at st'
      exact .inl (q v H' _ st' ⟨a, vs, e, upd_same, DReps.mono (Le.laid fa) l vs r⟩)
    | ds b t l =>
      obtain ⟨_, ⟨a, u, e, fa, ha, r⟩, n⟩ := r
      obtain ⟨n1, n2⟩ := n a e
      exact .inr ⟨a, u, ha, r.mut, fun od => q v _ _ (Stp.freezeNew st fa ha r.notup n1 n2) ⟨a, od, u, e, upd_same, DctO.mono (Le.laid fa) r⟩⟩
  · cases e
def mIm (m : M D) : M S := fun σ => match m σ with
  | some (d, σ') => some (.imm d, σ')
  | none => none
theorem SE.toF {e : Expr} {m : M D} (h : SE X ct e m) : SF X ct e (mIm m) := PEimp h fun σV H Q ⟨F, σ, w, d', σ', e, q⟩ => by
  unfold mIm at e
  split at e
  · rename_i s σ1 h1
    cases e
    exact ⟨F, σ, w, _, _, h1, fun v H' F' st r => q v H' F' st r⟩
  · cases e
/-- a name's own thing goes over -/
def mMv (i : Nat) : M S := fun σ => match σ[i]? with
  | some (some (.ls false l)) => some (.ls false l, σ.set i none)
  | some (some (.ds false t l)) => some (.ds false t l, σ.set i none)
  | some (some (.imm d)) => some (.imm d, σ)
  | _ => none
theorem set_getN {i : Nat} {j : Nat} {t : S} (e : (σ.set i none)[j]? = some (some t)) : j ≠ i ∧ σ[j]? = some (some t) := by
  rw [List.getElem?_set] at e
  by_cases h : i = j
  · subst h
    rw [if_pos rfl] at e
    split at e <;> cases e
  · rw [if_neg h] at e
    exact ⟨Ne.symm h, e⟩
/-- a slot is forgotten -/
theorem Stp.drop {K} (w : Wd K ct F H σV σ) (i : Nat) (io : ∀ s, σ[i]? = some (some s) → s.io = false) : Stp K ct F H σV σ F H σV (σ.set i none) where
  w := ⟨w.le, fun j t e => w.slot j t (set_getN e).2, fun j k t t' b ej ek => w.dis j k t t' b (set_getN ej).2 (set_getN ek).2, by simp; exact w.ln, w.tb, w.nt⟩
  le := Le.refl F
  keep := fun _ _ h _ => .inl h
  there := fun _ h => h
  froz := fun _ h => .inl h
  own := fun b ⟨j, t, e, q⟩ => .inl ⟨j, t, (set_getN e).2, q⟩
  io := fun j t e tio => by
    have hj : j ≠ i := fun z => by subst z; rw [io t e] at tio; cases tio
    exact ⟨⟨t, by rw [List.getElem?_set_ne (Ne.symm hj)]; exact e, tio⟩, rfl⟩
  len := by simp
theorem own_drop {i : Nat} {a : Addr} (w : Wd X.K ct F H σV σ) (e1 : σV[i]? = some (some (.ref a))) {s : S} (e : σ[i]? = some (some s)) (so : s.own = true) : ¬ Own σV (σ.set i none) a := fun ⟨j, t, ej, to, bj⟩ => by
  obtain ⟨hj, ej⟩ := set_getN ej
  exact hj (w.dis j i t s a ej e to so bj e1)
theorem sf_mv {i : Nat} {e : Expr} (h : PE X e (tVar i)) : SF X ct e (mMv i) := PEimp h fun σV H Q ⟨F, σ, w, d', σ', e, q⟩ => by
  unfold mMv at e
  split at e
  · rename_i l h1
    cases e
    obtain ⟨v, e1, r⟩ := w.slot i _ h1
    refine ⟨v, e1, q v H F (Stp.drop w i fun s q => by rw [h1] at q; cases q; rfl) ⟨rfl, r, fun a ea => ?_⟩⟩
    subst ea
    exact ⟨own_drop w e1 h1 rfl, .inr ⟨i, _, h1, rfl, e1⟩⟩
  · rename_i t l h1
    cases e
    obtain ⟨v, e1, r⟩ := w.slot i _ h1
    refine ⟨v, e1, q v H F (Stp.drop w i fun s q => by rw [h1] at q; cases q; rfl) ⟨rfl, r, fun a ea => ?_⟩⟩
    subst ea
    exact ⟨own_drop w e1 h1 rfl, .inr ⟨i, _, h1, rfl, e1⟩⟩
  · rename_i d h1
    cases e
    obtain ⟨v, e1, r⟩ := w.slot i _ h1
    exact ⟨v, e1, q v H F (Stp.refl w) r⟩
  · cases e
end
end Ev
end

section
set_option Elab.async false
set_option linter.all false
/-! Ev2: operators, comparisons, calls of built-ins by one rule each. -/
namespace Ev
open PySem PySem.Spec L2
set_option autoImplicit false
structure Grw (F H F' H' : Hp) : Prop where
  le : Le F F'
  le' : Le F' H'
  keep : Ge H H'
  froz : ∀ a, F' a ≠ none → F a ≠ none ∨ H a = none ∨ ∃ xs, H a = some (.tup xs)
  nf : NoT F → NoT F'
/-- the same, but of the tables nothing is told -/
structure Grw0 (F H F' H' : Hp) : Prop where
  le : Le F F'
  le' : Le F' H'
  keep : KeepA H H'
  froz : ∀ a, F' a ≠ none → F a ≠ none ∨ H a = none ∨ ∃ xs, H a = some (.tup xs)
  nf : NoT F → NoT F'
theorem Grw.to0 {F H F' H' : Hp} (g : Grw F H F' H') : Grw0 F H F' H' := ⟨g.le, g.le', g.keep.keep, g.froz, g.nf⟩
theorem Grw0.stp {K ct} {F H F' H' : Hp} {σV : St} {σ : Fr} (g : Grw0 F H F' H') (w : Wd K ct F H σV σ) (tb : Tbs ct H') : Stp K ct F H σV σ F' H' σV σ := Stp.grow w g.le g.le' g.keep (fun _ => tb) g.froz g.nf
theorem Grw.refl {F H : Hp} (le : Le F H) : Grw F H F H := ⟨Le.refl F, le, Ge.refl H, fun _ h => .inl h, id⟩
theorem Grw.new {F H : Hp} (le : Le F H) {p : Addr} {o : HO} (h : H p = none) (no : ∀ ps, o ≠ .tbl ps := by intro _ z; cases z) : Grw F H (upd F p o) (upd H p o) :=
  ⟨Le.laid (le.none h), fun a u e => by
    by_cases z : a = p
    · subst z; rw [upd_same] at e ⊢; exact e
    · rw [upd_ne z] at e ⊢; exact le a u e, Ge.of (Le.laid h), fun a q => by
    by_cases z : a = p
    · subst z; exact .inr (.inl h)
    · rw [upd_ne z] at q; exact .inl q, fun n => n.upd no⟩
theorem Grw.lay {F H : Hp} (le : Le F H) {p : Addr} {o : HO} (h : H p = none) : Grw F H F (upd H p o) := ⟨Le.refl F, le.trans (Le.laid h), Ge.of (Le.laid h), fun _ q => .inl q, id⟩
theorem Grw.stp {K ct} {F H F' H' : Hp} {σV : St} {σ : Fr} (g : Grw F H F' H') (w : Wd K ct F H σV σ) : Stp K ct F H σV σ F' H' σV σ := Stp.grow w g.le g.le' g.keep.keep (fun t p hp => g.keep.tab _ _ (t p hp)) g.froz g.nf
theorem Grw.trans {F H F' H' F2 H2 : Hp} (g : Grw F H F' H') (k : Grw F' H' F2 H2) : Grw F H F2 H2 := ⟨g.le.trans k.le, k.le', g.keep.trans k.keep, fun a h => by
  rcases k.froz a h with h | h | ⟨xs, h⟩
  · exact g.froz a h
  · exact .inr (.inl (g.keep.none h))
  · cases q : H a with
    | none => exact .inr (.inl rfl)
    | some o =>
      have e := (g.keep.keep a o q).tup h
      subst e
      exact .inr (.inr ⟨xs, rfl⟩), fun n => k.nf (g.nf n)⟩
/-- a tuple that is there counts as frozen -/
theorem Grw.tup {F H : Hp} (le : Le F H) {q : Addr} {xs : List V} (h : H q = some (.tup xs)) (hf : ∀ o, F q = some o → o = .tup xs) : Grw F H (upd F q (.tup xs)) H :=
  ⟨fun a o e => by
    by_cases z : a = q
    · subst z; rw [upd_same, hf o e]
    · rw [upd_ne z]; exact e, fun a o e => by
    by_cases z : a = q
    · subst z; rw [upd_same] at e; cases e; exact h
    · rw [upd_ne z] at e; exact le a o e, Ge.refl H, fun a e => by
    by_cases z : a = q
    · subst z; exact .inr (.inr ⟨xs, h⟩)
    · rw [upd_ne z] at e; exact .inl e, fun n => n.upd fun _ z => by cases z⟩
def GRep (K : PySem.W.Frag) (ct : Ct) (H F' H' : Hp) : S → V → Prop
  | .imm d, v => DRep K ct F' d v
  | .ls b l, v => b = false ∧ ∃ a vs, v = .ref a ∧ H a = none ∧ F' a = none ∧ H' a = some (.lst vs) ∧ DReps K ct F' l vs
  | .ds b t l, v => b = false ∧ ∃ a u, v = .ref a ∧ H a = none ∧ F' a = none ∧ H' a = some u ∧ DctO K ct F' t l u
  | .prv, _ => False
theorem GRep.fresh0 {K ct} {F H F1 H1 F2 H2 : Hp} {σV : St} {σ σ' : Fr} (st : Stp K ct F H σV σ F1 H1 σV σ') : ∀ {s : S} {v : V}, GRep K ct H1 F2 H2 s v → FRep K ct H σV σ F2 H2 σ' s v
  | .imm d, _, r => r
  | .prv, _, r => r.elim
  | .ls b l, _, ⟨hb, a, vs, e, h1, h2, h3, r⟩ => ⟨hb, ⟨a, vs, e, h2, h3, r⟩, fun c ec => by
      rw [e] at ec; cases ec
      exact ⟨fun o => by obtain ⟨_, u, z, _⟩ := st.w.own o; rw [h1] at z; exact absurd z (by simp), .inl (st.there a h1)⟩⟩
  | .ds b _ l, _, ⟨hb, a, vs, e, h1, h2, h3, r⟩ => ⟨hb, ⟨a, vs, e, h2, h3, r⟩, fun c ec => by
      rw [e] at ec; cases ec
      exact ⟨fun o => by obtain ⟨_, u, z, _⟩ := st.w.own o; rw [h1] at z; exact absurd z (by simp), .inl (st.there a h1)⟩⟩
theorem GRep.fresh {K ct} {F H F1 H1 F2 H2 : Hp} {σV : St} {σ σ' : Fr} (st : Stp K ct F H σV σ F1 H1 σV σ') (_ : Grw F1 H1 F2 H2) {s : S} {v : V} (r : GRep K ct H1 F2 H2 s v) : FRep K ct H σV σ F2 H2 σ' s v := GRep.fresh0 st r
def m2 (f : D → D → Option S) (a b : A) : M S := fun σ => match a.two b σ with
  | some ((d, e), σ') => (match f d e with
    | some s => some (s, σ')
    | none => none)
  | none => none
def m1 (f : D → Option S) (a : A) : M S := fun σ => match a.one σ with
  | some (d, σ') => (match f d with
    | some s => some (s, σ')
    | none => none)
  | none => none
def mT (m : M S) : M Bool := fun σ => match m σ with
  | some (.imm (.bl b), σ') => some (b, σ')
  | _ => none
/-- what a rule by values must bear -/
def OpOk (X : Cx) (ct : Ct) (r : R2) (f : D → D → Option S) : Prop := ∀ (F H : Hp) (d e : D) (c : S) (x y : V) (Q : VK), Le F H → f d e = some c → VRep X.K ct F H d x → VRep X.K ct F H e y →
  (∀ v F' H', Grw F H F' H' → GRep X.K ct H F' H' c v → Q v H') → r x y H Q
def UnOk (X : Cx) (ct : Ct) (r : V → Hp → VK → Prop) (f : D → Option S) : Prop := ∀ (F H : Hp) (d : D) (c : S) (x : V) (Q : VK), Le F H → f d = some c → VRep X.K ct F H d x →
  (∀ v F' H', Grw F H F' H' → GRep X.K ct H F' H' c v → Q v H') → r x H Q
section
variable {X : Cx} {ct : Ct} {a b c : Expr} {pos : Pos} {r r' : R2} {f g : D → D → Option S} {a' b' c' : A}
theorem m2_ok {σV : St} {H : Hp} {F : Hp} {σ σ' : Fr} {s : S} {Q : VK} (k : OpOk X ct r f) (w : Wd X.K ct F H σV σ) (e : m2 f a' b' σ = some (s, σ'))
    (q : ∀ v H' F', Stp X.K ct F H σV σ F' H' σV σ' → FRep X.K ct H σV σ F' H' σ' s v → Q v H') : tOp r (a'.rd X ct) (b'.rd X ct) σV H Q := by
  unfold m2 at e
  split at e
  · rename_i d e' σ1 h1
    split at e
    · rename_i s' h2
      cases e
      exact A.two_ok w h1 fun x y H1 F1 st rx ry => k F1 H1 d e' s x y Q st.w.le h2 rx ry fun v F2 H2 gr rv => q v H2 F2 (st.trans (gr.stp st.w)) (GRep.fresh st gr rv)
    · cases e
  · cases e
theorem m1_ok {σV : St} {H : Hp} {F : Hp} {σ σ' : Fr} {s : S} {Q : VK} {r : V → Hp → VK → Prop} {f : D → Option S} (k : UnOk X ct r f) (w : Wd X.K ct F H σV σ) (e : m1 f a' σ = some (s, σ'))
    (q : ∀ v H' F', Stp X.K ct F H σV σ F' H' σV σ' → FRep X.K ct H σV σ F' H' σ' s v → Q v H') : a'.rd X ct σV H fun x H1 => r x H1 Q := by
  unfold m1 at e
  split at e
  · rename_i d σ1 h1
    split at e
    · rename_i s' h2
      cases e
      exact A.one_ok w h1 fun x H1 F1 st rx => k F1 H1 d s x Q st.w.le h2 rx fun v F2 H2 gr rv => q v H2 F2 (st.trans (gr.stp st.w)) (GRep.fresh st gr rv)
    · cases e
  · cases e
theorem sf_bin {op : Operator} (ho : OpR X (binaryOp op) r) (k : OpOk X ct r f) (ha : AE X ct a a') (hb : AE X ct b b') : SF X ct (.BinOp a op b pos) (m2 f a' b') :=
  PEimp (pe_op ho ha hb) fun σV H Q ⟨F, σ, w, s, σ', e, q⟩ => m2_ok k w e q
theorem sf_un {op : UnaryOp} {r : V → Hp → VK → Prop} {f : D → Option S} (ho : UnR X (unaryOp op) r) (k : UnOk X ct r f) (ha : AE X ct a a') : SF X ct (.UnaryOp op a pos) (m1 f a') :=
  PEimp (pe_un ho ha) fun σV H Q ⟨F, σ, w, s, σ', e, q⟩ => m1_ok k w e q
theorem sf_cmp {op : CmpOp} (ho : OpR X (compareOp op) r) (k : OpOk X ct r f) (ha : AE X ct a a') (hb : AE X ct b b') (hm : behindInMarks op b = false) : SF X ct (.Compare a [op] [b] pos) (m2 f a' b') :=
  PEimp (pe_cmpR ho ha hb hm) fun σV H Q ⟨F, σ, w, s, σ', e, q⟩ => m2_ok k w e q
theorem st_of {t : TE} {m : M S} {e : Expr} (h : PT X e (tTest t)) (i : ∀ σV H Q, rdF X ct m σV H Q → t σV H Q) : ST X ct e (mT m) := PTimp h fun σV H Q ⟨F, σ, w, s, σ', e, q⟩ => by
  refine i σV H _ ?_
  unfold mT at e
  split at e
  · rename_i b σ1 h1
    cases e
    exact ⟨F, σ, w, _, _, h1, fun v H' F' st rv => ⟨_, rv, q H' F' st⟩⟩
  · cases e
theorem st_cmp {op : CmpOp} (ho : OpR X (compareOp op) r) (k : OpOk X ct r f) (ha : AE X ct a a') (hb : AE X ct b b') (hm : behindInMarks op b = false) : ST X ct (.Compare a [op] [b] pos) (mT (m2 f a' b')) :=
  st_of (pt_cmpR ho ha hb hm) fun σV H Q ⟨F, σ, w, s, σ', e, q⟩ => m2_ok k w e q
/-- a value that is a flag, as a test -/
theorem st_val {e : Expr} {m : M S} (h : SF X ct e m) (he : ∀ whole, isTrue e X.env whole = (do let v ← whole; standAt e.pos; holding [v] (truthy v)) := by intro _; rfl) : ST X ct e (mT m) :=
  st_of (t := rdF X ct m) (pt_val h he) fun _ _ _ q => q
/-! ### chains -/
def mCh (f g : D → D → Option S) (a b c : A) : M S := fun σ => match a.two b σ with
  | some ((d, e), σ') => (match f d e with
    | some (.imm (.bl true)) => (match c.one σ' with
      | some (u, σ2) => (match g e u with
        | some s => some (s, σ2)
        | none => none)
      | none => none)
    | some (.imm (.bl false)) => some (.imm (.bl false), σ')
    | _ => none)
  | none => none
/-- the middle one is deep: it stays -/
def midOk : A → Prop
  | .val _ => True
  | .pk _ => False
/-- chains of ints -/
def fI2 (p : Int → Int → D) : D → D → Option S
  | .int i, .int j => some (.imm (p i j))
  | _, _ => none
theorem k_int0 {g : Int → Int → V} {p : Int → Int → D} (hp : ∀ (F : Hp) i j, DRep X.K ct F (p i j) (g i j)) : OpOk X ct (rI0 g) (fI2 p) := fun F H d e c x y Q le hf rx ry q => by
  unfold fI2 at hf
  split at hf
  · rename_i i j
    cases hf
    exact ⟨i, j, rx, ry, q _ F H (Grw.refl le) (hp F i j)⟩
  · cases hf
/-- ints under a bound that is decided -/
def fI2c (C : Int → Int → Bool) (p : Int → Int → D) : D → D → Option S
  | .int i, .int j => if C i j then some (.imm (p i j)) else none
  | _, _ => none
theorem k_intC {C : Int → Int → Prop} {C' : Int → Int → Bool} {g : Int → Int → V} {p : Int → Int → D} (hC : ∀ i j, C' i j = true → C i j) (hp : ∀ (F : Hp) i j, DRep X.K ct F (p i j) (g i j)) : OpOk X ct (rI C g) (fI2c C' p) := fun F H d e c x y Q le hf rx ry q => by
  unfold fI2c at hf
  split at hf
  · rename_i i j
    split at hf
    · rename_i hc
      cases hf
      exact ⟨i, j, rx, ry, hC i j hc, q _ F H (Grw.refl le) (hp F i j)⟩
    · cases hf
  · cases hf
theorem k_sub : OpOk X ct (rI0 fun i j => .int (i - j)) (fI2 fun i j => .int (i - j)) := k_int0 fun _ _ _ => rfl
theorem k_lt : OpOk X ct (rI0 fun i j => .bl (decide (i < j))) (fI2 fun i j => .bl (decide (i < j))) := k_int0 fun _ _ _ => rfl
theorem k_le : OpOk X ct (rI0 fun i j => .bl (decide (i ≤ j))) (fI2 fun i j => .bl (decide (i ≤ j))) := k_int0 fun _ _ _ => rfl
theorem k_gt : OpOk X ct (rI0 fun i j => .bl (decide (j < i))) (fI2 fun i j => .bl (decide (j < i))) := k_int0 fun _ _ _ => rfl
theorem k_ge : OpOk X ct (rI0 fun i j => .bl (decide (j ≤ i))) (fI2 fun i j => .bl (decide (j ≤ i))) := k_int0 fun _ _ _ => rfl
def sml (i : Int) : Bool := decide (-(2 ^ 64) < i) && decide (i < 2 ^ 64)
def cMul (i j : Int) : Bool := sml i || sml j
theorem cMul_ok (i j : Int) (h : cMul i j = true) : CMul i j := by
  unfold cMul sml at h
  simp only [Bool.or_eq_true, Bool.and_eq_true, decide_eq_true_eq] at h
  exact h
theorem k_mul : OpOk X ct (rI CMul fun i j => .int (i * j)) (fI2c cMul fun i j => .int (i * j)) := k_intC cMul_ok fun _ _ _ => rfl
def cPos (_ j : Int) : Bool := decide (0 < j)
theorem k_mod : OpOk X ct (rI (fun _ j => 0 < j) fun i j => .int (i % j)) (fI2c cPos fun i j => .int (i % j)) := k_intC (fun _ _ h => of_decide_eq_true h) fun _ _ _ => rfl
def cDv (_ j : Int) : Bool := decide (0 < j) && decide (j < 1073741824)
theorem k_fdiv : OpOk X ct (rI CDiv fun i j => .int (i / j)) (fI2c cDv fun i j => .int (i / j)) := k_intC (fun i j h => by unfold cDv at h; simp only [Bool.and_eq_true, decide_eq_true_eq] at h; exact h) fun _ _ _ => rfl
def cPw (i j : Int) : Bool := decide (0 ≤ j) && decide (j ≤ 1000000) && decide (i.natAbs < 2 ^ 64)
theorem k_pow : OpOk X ct (rI CPow fun i j => .int (i ^ j.toNat)) (fI2c cPw fun i j => .int (i ^ j.toNat)) := k_intC (fun i j h => by unfold cPw at h; simp only [Bool.and_eq_true, decide_eq_true_eq] at h; exact ⟨h.1.1, h.1.2, h.2⟩) fun _ _ _ => rfl
def fNeg : D → Option S
  | .int i => some (.imm (.int (-i)))
  | _ => none
theorem k_neg : UnOk X ct (rU fun i => .int (-i)) fNeg := fun F H d c x Q le hf rx q => by
  unfold fNeg at hf
  split at hf
  · rename_i i
    cases hf
    exact ⟨i, rx, q _ F H (Grw.refl le) rfl⟩
  · cases hf
/-! ### and, or, not, if -/
def bAnd (m n : M Bool) : M Bool := fun σ => match m σ with
  | some (true, σ') => n σ'
  | some (false, σ') => some (false, σ')
  | none => none
def bOr (m n : M Bool) : M Bool := fun σ => match m σ with
  | some (false, σ') => n σ'
  | some (true, σ') => some (true, σ')
  | none => none
def bNot (m : M Bool) : M Bool := fun σ => match m σ with
  | some (b, σ') => some (!b, σ')
  | none => none
variable {m n : M Bool} {rest : List Expr}
theorem sw_and1 (ha : ST X ct a m) : SW X ct (.BoolOp .And [a] pos) m := pw_and1 ha
theorem sw_or1 (ha : ST X ct a m) : SW X ct (.BoolOp .Or [a] pos) m := pw_or1 ha
theorem sw_and (ha : ST X ct a m) (hb : SW X ct (.BoolOp .And (b :: rest) pos) n) : SW X ct (.BoolOp .And (a :: b :: rest) pos) (bAnd m n) := PWimp (pw_and ha hb) fun σV H Q ⟨F, σ, w, s, σ', e, q⟩ => by
  unfold bAnd at e
  split at e
  · rename_i σ1 h1
    exact ⟨F, σ, w, _, _, h1, fun H1 F1 st => iteT (⟨F1, σ1, st.w, _, _, e, fun H2 F2 st2 => q H2 F2 (st.trans st2)⟩)⟩
  · rename_i σ1 h1
    cases e
    exact ⟨F, σ, w, _, _, h1, fun H1 F1 st => iteF (q H1 F1 st)⟩
  · cases e
theorem sw_or (ha : ST X ct a m) (hb : SW X ct (.BoolOp .Or (b :: rest) pos) n) : SW X ct (.BoolOp .Or (a :: b :: rest) pos) (bOr m n) := PWimp (pw_or ha hb) fun σV H Q ⟨F, σ, w, s, σ', e, q⟩ => by
  unfold bOr at e
  split at e
  · rename_i σ1 h1
    exact ⟨F, σ, w, _, _, h1, fun H1 F1 st => iteF (⟨F1, σ1, st.w, _, _, e, fun H2 F2 st2 => q H2 F2 (st.trans st2)⟩)⟩
  · rename_i σ1 h1
    cases e
    exact ⟨F, σ, w, _, _, h1, fun H1 F1 st => iteT (q H1 F1 st)⟩
  · cases e
theorem SW.t {e : Expr} (h : SW X ct e m) : ST X ct e m := PW.pt h
theorem st_not (ha : ST X ct a m) : ST X ct (.UnaryOp .Not a pos) (bNot m) := PTimp (pt_not ha) fun σV H Q ⟨F, σ, w, s, σ', e, q⟩ => by
  unfold bNot at e
  split at e
  · rename_i b σ1 h1
    cases e
    exact ⟨F, σ, w, _, _, h1, fun H1 F1 st => q H1 F1 st⟩
  · cases e
/-- flags as values: all but the last -/
def mAnd (m n : M S) : M S := fun σ => match m σ with
  | some (.imm (.bl true), σ') => n σ'
  | some (.imm (.bl false), σ') => some (.imm (.bl false), σ')
  | _ => none
def mOr (m n : M S) : M S := fun σ => match m σ with
  | some (.imm (.bl false), σ') => n σ'
  | some (.imm (.bl true), σ') => some (.imm (.bl true), σ')
  | _ => none
def mNot (m : M S) : M S := fun σ => match m σ with
  | some (.imm (.bl b), σ') => some (.imm (.bl (!b)), σ')
  | _ => none
theorem FRep.step {K} {F H F1 H1 F2 H2 : Hp} {σV : St} {σ σ1 σ2 : Fr} (st : Stp K ct F H σV σ F1 H1 σV σ1) : ∀ {s : S} {v : V}, FRep K ct H1 σV σ1 F2 H2 σ2 s v → FRep K ct H σV σ F2 H2 σ2 s v
  | .imm d, _, r => r
  | .ls b l, _, ⟨h1, h2, h3⟩ => ⟨h1, h2, fun a e => ⟨(h3 a e).1, (h3 a e).2.elim (fun z => .inl (st.there a z)) fun z => (st.own a z).symm⟩⟩
  | .ds b _ l, _, ⟨h1, h2, h3⟩ => ⟨h1, h2, fun a e => ⟨(h3 a e).1, (h3 a e).2.elim (fun z => .inl (st.there a z)) fun z => (st.own a z).symm⟩⟩
  | .prv, _, ⟨h1, h2, h3⟩ => ⟨h1, h2, fun a e => ⟨(h3 a e).1, (h3 a e).2.elim (fun z => .inl (st.there a z)) fun z => (st.own a z).symm⟩⟩
variable {p q' : M S}
theorem sf_one {op} (h : SF X ct a p) : SF X ct (.BoolOp op [a] pos) p := pe_one h
theorem sf_and (ha : SF X ct a p) (hb : SF X ct (.BoolOp .And (b :: rest) pos) q') : SF X ct (.BoolOp .And (a :: b :: rest) pos) (mAnd p q') := PEimp (pe_and ha hb) fun σV H Q ⟨F, σ, w, s, σ', e, q⟩ => by
  unfold mAnd at e
  split at e
  · rename_i σ1 h1
    refine ⟨F, σ, w, _, _, h1, fun v H1 F1 st rv => ⟨true, rv, ?_⟩⟩
    refine iteT ?_
    exact ⟨F1, σ1, st.w, _, _, e, fun v H2 F2 st2 r2 => q v H2 F2 (st.trans st2) (FRep.step st r2)⟩
  · rename_i σ1 h1
    cases e
    refine ⟨F, σ, w, _, _, h1, fun v H1 F1 st rv => ⟨false, rv, ?_⟩⟩
    refine iteF ?_
    exact q _ H1 F1 st rfl
  · cases e
theorem sf_or (ha : SF X ct a p) (hb : SF X ct (.BoolOp .Or (b :: rest) pos) q') : SF X ct (.BoolOp .Or (a :: b :: rest) pos) (mOr p q') := PEimp (pe_or ha hb) fun σV H Q ⟨F, σ, w, s, σ', e, q⟩ => by
  unfold mOr at e
  split at e
  · rename_i σ1 h1
    refine ⟨F, σ, w, _, _, h1, fun v H1 F1 st rv => ⟨false, rv, ?_⟩⟩
    refine iteF ?_
    exact ⟨F1, σ1, st.w, _, _, e, fun v H2 F2 st2 r2 => q v H2 F2 (st.trans st2) (FRep.step st r2)⟩
  · rename_i σ1 h1
    cases e
    refine ⟨F, σ, w, _, _, h1, fun v H1 F1 st rv => ⟨true, rv, ?_⟩⟩
    refine iteT ?_
    exact q _ H1 F1 st rfl
  · cases e
theorem sf_not (ha : SF X ct a p) : SF X ct (.UnaryOp .Not a pos) (mNot p) := PEimp (pe_not ha) fun σV H Q ⟨F, σ, w, s, σ', e, q⟩ => by
  unfold mNot at e
  split at e
  · rename_i b σ1 h1
    cases e
    exact ⟨F, σ, w, _, _, h1, fun v H1 F1 st rv => ⟨b, rv, q _ H1 F1 st rfl⟩⟩
  · cases e
def mIf {α : Type} (t : M Bool) (p q : M α) : M α := fun σ => match t σ with
  | some (true, σ') => p σ'
  | some (false, σ') => q σ'
  | none => none
theorem sf_if {t : M Bool} (hc : ST X ct c t) (ha : SF X ct a p) (hb : SF X ct b q') : SF X ct (.IfExp c a b pos) (mIf t p q') := PEimp (pe_ifExp hc ha hb) fun σV H Q ⟨F, σ, w, s, σ', e, q⟩ => by
  unfold mIf at e
  split at e
  · rename_i σ1 h1
    refine ⟨F, σ, w, _, _, h1, fun H1 F1 st => ?_⟩
    refine iteT ?_
    exact ⟨F1, σ1, st.w, _, _, e, fun v H2 F2 st2 r2 => q v H2 F2 (st.trans st2) (FRep.step st r2)⟩
  · rename_i σ1 h1
    refine ⟨F, σ, w, _, _, h1, fun H1 F1 st => ?_⟩
    refine iteF ?_
    exact ⟨F1, σ1, st.w, _, _, e, fun v H2 F2 st2 r2 => q v H2 F2 (st.trans st2) (FRep.step st r2)⟩
  · cases e
end
end Ev
end

section
set_option Elab.async false
set_option linter.all false
/-! Ev3: == and in over deep values; displays, subscripts, built-ins. -/
namespace Ev
open PySem PySem.Spec L2
set_option autoImplicit false
mutual
def D.toP : D → PyData
  | .non => .none
  | .bl b => .bool b
  | .int i => .int i
  | .str x => .str x
  | .tup _ l => .tuple (D.toPs l)
  | .lst l => .list (D.toPs l)
  | _ => .dict []
def D.toPs : List D → List PyData
  | [] => []
  | d :: l => d.toP :: D.toPs l
end
mutual
/-- none, flags, ints, texts, tuples, lists -/
def D.pl : D → Bool
  | .non => true
  | .bl _ => true
  | .int _ => true
  | .str x => PyData.strOk x
  | .tup _ l => D.pls l
  | .lst l => D.pls l
  | _ => false
def D.pls : List D → Bool
  | [] => true
  | d :: l => d.pl && D.pls l
end
mutual
def D.dp : D → Nat
  | .tup _ l => D.dps l + 1
  | .lst l => D.dps l + 1
  | _ => 0
def D.dps : List D → Nat
  | [] => 0
  | d :: l => max d.dp (D.dps l)
end
mutual
theorem pl_lay : ∀ d : D, d.pl = true → d.toP.canLay0 = true ∧ d.toP.depth = d.dp
  | .non, _ => ⟨rfl, rfl⟩
  | .bl _, _ => ⟨rfl, rfl⟩
  | .int _, _ => ⟨rfl, rfl⟩
  | .str _, h => ⟨h, rfl⟩
  | .tup _ l, h => by
    obtain ⟨h1, h2⟩ := pls_lay l h
    exact ⟨h1, by simp only [D.toP, PyData.depth, D.dp, h2]⟩
  | .lst l, h => by
    obtain ⟨h1, h2⟩ := pls_lay l h
    exact ⟨h1, by simp only [D.toP, PyData.depth, D.dp, h2]⟩
  | .dct _ _, h => by cases h
  | .ins _ _, h => by cases h
  | .scr _, h => by cases h
theorem pls_lay : ∀ l : List D, D.pls l = true → PyData.canLayAll0 (D.toPs l) = true ∧ PyData.depthAll (D.toPs l) = D.dps l
  | [], _ => ⟨rfl, rfl⟩
  | d :: l, h => by
    have h' : (d.pl && D.pls l) = true := h
    rw [Bool.and_eq_true] at h'
    obtain ⟨a1, a2⟩ := pl_lay d h'.1
    obtain ⟨b1, b2⟩ := pls_lay l h'.2
    exact ⟨by simp only [D.toPs, PyData.canLayAll0, a1, b1, Bool.and_self], by simp only [D.toPs, PyData.depthAll, D.dps, a2, b2]⟩
end
def D.sh (d : D) : Bool := d.pl && decide (d.dp ≤ 64)
theorem D.sh_ok {d : D} (h : d.sh = true) : SeqAt.shaped d.toP = true := by
  unfold D.sh at h
  rw [Bool.and_eq_true, decide_eq_true_eq] at h
  obtain ⟨h1, h2⟩ := pl_lay d h.1
  unfold SeqAt.shaped
  rw [h1, h2]
  simp [h.2]
mutual
theorem dp_of {K ct F} : ∀ (d : D) (v : V), d.pl = true → DRep K ct F d v → Dp K F v d.toP
  | .non, _, _, r => by rw [show _ = _ from r]; exact .non
  | .bl _, _, _, r => by rw [show _ = _ from r]; exact .bl _
  | .int _, _, _, r => by rw [show _ = _ from r]; exact .int _
  | .str _, _, _, r => by rw [show _ = _ from r]; exact .str _
  | .tup _ l, _, h, ⟨a, vs, e, s, r⟩ => by rw [e]; exact .tup s.sqt (dps_of l vs h r)
  | .lst l, _, h, ⟨a, vs, e, s, r⟩ => by rw [e]; exact .lst (SqL.of s) (dps_of l vs h r)
  | .dct _ _, _, h, _ => by cases h
  | .ins _ _, _, h, _ => by cases h
  | .scr _, _, h, _ => by cases h
theorem dps_of {K ct F} : ∀ (l : List D) (vs : List V), D.pls l = true → DReps K ct F l vs → DpAll K F vs (D.toPs l)
  | [], _, _, r => by rw [show _ = [] from r]; exact .nil
  | d :: l, _, h, ⟨v, t, e, r, q⟩ => by
    have h' : (d.pl && D.pls l) = true := h
    rw [Bool.and_eq_true] at h'
    rw [e]
    exact .cons (dp_of d v h'.1 r) (dps_of l t h'.2 q)
end
mutual
theorem dp_le {K} {F H : Hp} (le : Le F H) : ∀ (p : PyData) (v : V), Dp K F v p → Dp K H v p
  | .none, _, h => by cases h; exact .non
  | .bool _, _, h => by cases h; exact .bl _
  | .int _, _, h => by cases h; exact .int _
  | .str _, _, h => by cases h; exact .str _
  | .list ds, _, h => by cases h with | lst s r => exact .lst (le.sql s) (dps_le le ds _ r)
  | .tuple ds, _, h => by cases h with | tup s r => exact .tup (le.sqt s) (dps_le le ds _ r)
  | .dict _, _, h => by cases h
theorem dps_le {K} {F H : Hp} (le : Le F H) : ∀ (p : List PyData) (v : List V), DpAll K F v p → DpAll K H v p
  | [], _, h => by cases h; exact .nil
  | d :: ds, _, h => by cases h with | cons a b => exact .cons (dp_le le d _ a) (dps_le le ds _ b)
end
theorem vdp {K ct} {F H : Hp} (le : Le F H) : ∀ {d : D} {v : V}, d.pl = true → VRep K ct F H d v → Dp K H v d.toP
  | .lst l, _, h, ⟨a, vs, e, s, r⟩ => by rw [e]; exact .lst (SqL.of s) (dps_le le _ _ (dps_of l vs h r))
  | .non, _, h, r => dp_le le _ _ (dp_of (ct := ct) _ _ h r)
  | .bl _, _, h, r => dp_le le _ _ (dp_of (ct := ct) _ _ h r)
  | .int _, _, h, r => dp_le le _ _ (dp_of (ct := ct) _ _ h r)
  | .str _, _, h, r => dp_le le _ _ (dp_of (ct := ct) _ _ h r)
  | .tup _ _, _, h, r => dp_le le _ _ (dp_of (ct := ct) _ _ h r)
  | .dct _ _, _, h, _ => by cases h
  | .ins _ _, _, h, _ => by cases h
  | .scr _, _, h, _ => by cases h
mutual
/-- == of plain deep values -/
def D.eqv : D → D → Bool
  | .non, .non => true
  | .bl a, .bl b => a == b
  | .bl a, .int j => (if a then 1 else 0) == j
  | .int i, .bl b => i == (if b then 1 else 0)
  | .int i, .int j => i == j
  | .str x, .str y => x == y
  | .lst xs, .lst ys => D.eqvs xs ys
  | .tup _ xs, .tup _ ys => D.eqvs xs ys
  | _, _ => false
def D.eqvs : List D → List D → Bool
  | [], [] => true
  | x :: xs, y :: ys => D.eqv x y && D.eqvs xs ys
  | _, _ => false
end
mutual
theorem eqv_toP : ∀ d e : D, PyData.eqv d.toP e.toP = D.eqv d e
  | .non, e => by cases e <;> simp [D.toP, PyData.eqv, D.eqv]
  | .bl _, e => by cases e <;> simp [D.toP, PyData.eqv, D.eqv]
  | .int _, e => by cases e <;> simp [D.toP, PyData.eqv, D.eqv]
  | .str _, e => by cases e <;> simp [D.toP, PyData.eqv, D.eqv]
  | .tup _ l, e => by cases e with
    | tup _ m => simp only [D.toP, PyData.eqv, D.eqv]; exact eqvs_toP l m
    | _ => simp [D.toP, PyData.eqv, D.eqv]
  | .lst l, e => by cases e with
    | lst m => simp only [D.toP, PyData.eqv, D.eqv]; exact eqvs_toP l m
    | _ => simp [D.toP, PyData.eqv, D.eqv]
  | .dct _ _, e => by cases e <;> simp [D.toP, PyData.eqv, D.eqv]
  | .ins _ _, e => by cases e <;> simp [D.toP, PyData.eqv, D.eqv]
  | .scr _, e => by cases e <;> simp [D.toP, PyData.eqv, D.eqv]
  | .adr, e => by cases e <;> simp [D.toP, PyData.eqv, D.eqv]
  | .at_ _, e => by cases e <;> simp [D.toP, PyData.eqv, D.eqv]
theorem eqvs_toP : ∀ l m : List D, PyData.eqvAll (D.toPs l) (D.toPs m) = D.eqvs l m
  | [], [] => by simp [D.toPs, PyData.eqvAll, D.eqvs]
  | [], _ :: _ => by simp [D.toPs, PyData.eqvAll, D.eqvs]
  | _ :: _, [] => by simp [D.toPs, PyData.eqvAll, D.eqvs]
  | d :: l, e :: m => by
    simp only [D.toPs, PyData.eqvAll, D.eqvs]
    rw [eqv_toP d e, eqvs_toP l m]
end
def fEq (d e : D) : Option S := if (d.sh && e.sh) = true then some (.imm (.bl (D.eqv d e))) else none
def fNe (d e : D) : Option S := if (d.sh && e.sh) = true then some (.imm (.bl (!D.eqv d e))) else none
def fIn (d e : D) : Option S := match e with
  | .lst l => if (d.sh && e.sh) = true then some (.imm (.bl (l.any fun z => D.eqv z d))) else none
  | _ => none
def fNIn (d e : D) : Option S := match e with
  | .lst l => if (d.sh && e.sh) = true then some (.imm (.bl (!l.any fun z => D.eqv z d))) else none
  | _ => none
theorem any_toP (d : D) : ∀ l : List D, ((D.toPs l).any fun z => PyData.eqv z d.toP) = l.any fun z => D.eqv z d
  | [] => rfl
  | e :: l => by simp only [D.toPs, List.any_cons, eqv_toP, any_toP d l]
section
variable {X : Cx} {ct : Ct}
theorem sh_pl {d : D} (h : d.sh = true) : d.pl = true := by
  unfold D.sh at h
  rw [Bool.and_eq_true] at h
  exact h.1
theorem k_eq : OpOk X ct (rEqD X.K) fEq := fun F H d e c x y Q le hf rx ry q => by
  unfold fEq at hf
  split at hf
  · rename_i h
    rw [Bool.and_eq_true] at h
    cases hf
    refine ⟨d.toP, e.toP, vdp le (sh_pl h.1) rx, vdp le (sh_pl h.2) ry, D.sh_ok h.1, D.sh_ok h.2, ?_⟩
    rw [eqv_toP]
    exact q _ F H (Grw.refl le) rfl
  · cases hf
theorem k_ne : OpOk X ct (rNeD X.K) fNe := fun F H d e c x y Q le hf rx ry q => by
  unfold fNe at hf
  split at hf
  · rename_i h
    rw [Bool.and_eq_true] at h
    cases hf
    refine ⟨d.toP, e.toP, vdp le (sh_pl h.1) rx, vdp le (sh_pl h.2) ry, D.sh_ok h.1, D.sh_ok h.2, ?_⟩
    rw [eqv_toP]
    exact q _ F H (Grw.refl le) rfl
  · cases hf
theorem k_inL : OpOk X ct (rInD X.K) fIn := fun F H d e c x y Q le hf rx ry q => by
  unfold fIn at hf
  split at hf
  · rename_i l
    split at hf
    · rename_i h
      rw [Bool.and_eq_true] at h
      cases hf
      refine ⟨d.toP, D.toPs l, vdp le (sh_pl h.1) rx, vdp le (sh_pl h.2) ry, D.sh_ok h.1, D.sh_ok h.2, ?_⟩
      rw [any_toP]
      exact q _ F H (Grw.refl le) rfl
    · cases hf
  · cases hf
theorem k_ninL : OpOk X ct (rNotInD X.K) fNIn := fun F H d e c x y Q le hf rx ry q => by
  unfold fNIn at hf
  split at hf
  · rename_i l
    split at hf
    · rename_i h
      rw [Bool.and_eq_true] at h
      cases hf
      refine ⟨d.toP, D.toPs l, vdp le (sh_pl h.1) rx, vdp le (sh_pl h.2) ry, D.sh_ok h.1, D.sh_ok h.2, ?_⟩
      rw [any_toP]
      exact q _ F H (Grw.refl le) rfl
    · cases hf
  · cases hf
end
end Ev
end

section
set_option Elab.async false
set_option linter.all false
/-! Ev4: dicts looked at, subscripts, slices, sums of sequences, order of tuples. -/
namespace Ev
open PySem PySem.Spec L2
set_option autoImplicit false
def D.isK : D → Bool
  | .int _ => true
  | .str _ => true
  | _ => false
def keyOk : Bool → D → Bool
  | false, k => k.isK
  | true, .tup false l => l.all D.isK
  | _, _ => false
def dLook (l : List (D × D)) (k : D) : Option D := (l.find? fun p => D.eqv p.1 k).map (·.2)
def dHas (l : List (D × D)) (k : D) : Bool := l.any fun p => D.eqv p.1 k
def dPut (l : List (D × D)) (k v : D) : List (D × D) := if dHas l k = true then l.map (fun p => if D.eqv p.1 k = true then (p.1, v) else p) else l ++ [(k, v)]
def dDel (l : List (D × D)) (k : D) : List (D × D) := l.filter fun p => !D.eqv p.1 k
theorem isK_of {d : D} (h : d.isK = true) : ∃ k : Key, d = kD k := by
  cases d with
  | int i => exact ⟨.inl i, rfl⟩
  | str x => exact ⟨.inr x, rfl⟩
  | _ => cases h
theorem isKs_of : ∀ {l : List D}, l.all D.isK = true → ∃ ks : List Key, l = ks.map kD
  | [], _ => ⟨[], rfl⟩
  | d :: l, h => by
    rw [List.all_cons, Bool.and_eq_true] at h
    obtain ⟨k, rfl⟩ := isK_of h.1
    obtain ⟨ks, rfl⟩ := isKs_of h.2
    exact ⟨k :: ks, rfl⟩
theorem eqv_key (x y : Key) : D.eqv (kD x) (kD y) = decide (x = y) := by
  cases x with
  | inl i => cases y with
    | inl j => rw [key_ll]; simp [kD, D.eqv]
    | inr j => rw [key_lr]; simp [kD, D.eqv]
  | inr i => cases y with
    | inl j => rw [key_rl]; simp [kD, D.eqv]
    | inr j => rw [key_rr]; simp [kD, D.eqv]; rfl
theorem eqvs_key : ∀ xs ys : List Key, D.eqvs (xs.map kD) (ys.map kD) = decide (xs = ys)
  | [], [] => by simp [D.eqvs]
  | [], _ :: _ => by simp [D.eqvs]
  | _ :: _, [] => by simp [D.eqvs]
  | x :: xs, y :: ys => by
    simp only [List.map_cons, D.eqvs, eqv_key, eqvs_key xs ys]
    by_cases h : x = y <;> by_cases h' : xs = ys <;> simp [h, h']
theorem eqv_keys (xs ys : List Key) : D.eqv (.tup false (xs.map kD)) (.tup false (ys.map kD)) = decide (xs = ys) := by
  simp only [D.eqv]; exact eqvs_key xs ys
section
variable {K : PySem.W.Frag} {ct : Ct} {F : Hp}
theorem kD_rep (k : Key) {v : V} (r : DRep K ct F (kD k) v) : v = kV k := by
  cases k with
  | inl i => exact r
  | inr x => exact r
theorem rep_kD (k : Key) : DRep K ct F (kD k) (kV k) := by
  cases k with
  | inl i => exact rfl
  | inr x => exact rfl
theorem kDs_rep : ∀ {ks : List Key} {vs : List V}, DReps K ct F (ks.map kD) vs → vs = ks.map kV
  | [], _, r => r
  | k :: ks, _, ⟨v, t, e, r, q⟩ => by rw [e, kD_rep k r, kDs_rep q]; rfl
def GKv (K : PySem.W.Frag) (ct : Ct) (F : Hp) {κ : Type} (kf : κ → D) : List (D × D) → List (κ × V) → Prop
  | [], es => es = []
  | (k, d) :: l, es => ∃ x v r, es = (x, v) :: r ∧ k = kf x ∧ DRep K ct F d v ∧ GKv K ct F kf l r
theorem gkv_K : ∀ {l : List (D × D)} {es : List (Key × V)}, DKv K ct F l es ↔ GKv K ct F kD l es
  | [], _ => Iff.rfl
  | (k, d) :: l, _ => ⟨fun ⟨x, v, r, e, hk, h, q⟩ => ⟨x, v, r, e, hk, h, gkv_K.mp q⟩, fun ⟨x, v, r, e, hk, h, q⟩ => ⟨x, v, r, e, hk, h, gkv_K.mpr q⟩⟩
abbrev kT (x : List Key) : D := .tup false (x.map kD)
theorem gkv_T : ∀ {l : List (D × D)} {es : List (List Key × V)}, DTv K ct F l es ↔ GKv K ct F kT l es
  | [], _ => Iff.rfl
  | (k, d) :: l, _ => ⟨fun ⟨x, v, r, e, hk, h, q⟩ => ⟨x, v, r, e, hk, h, gkv_T.mp q⟩, fun ⟨x, v, r, e, hk, h, q⟩ => ⟨x, v, r, e, hk, h, gkv_T.mpr q⟩⟩
theorem has_look {l : List (D × D)} {k : D} : dHas l k = (dLook l k).isSome := by
  unfold dHas dLook
  rw [Option.isSome_map]
  induction l with
  | nil => rfl
  | cons p l ih =>
    rw [List.any_cons, List.find?_cons]
    cases h : D.eqv p.1 k with
    | true => rfl
    | false => simpa using ih
section
variable {κ : Type} [DecidableEq κ] {kf : κ → D} (hkf : ∀ x y, D.eqv (kf x) (kf y) = decide (x = y))
include hkf
theorem look_G : ∀ {l : List (D × D)} {es : List (κ × V)}, GKv K ct F kf l es → ∀ x : κ, (∀ v, valV es x = some v → ∃ d, dLook l (kf x) = some d ∧ DRep K ct F d v) ∧ (valV es x = none → dLook l (kf x) = none)
  | [], _, r, x => by rw [show _ = [] from r]; exact ⟨fun v h => (by cases h), fun _ => rfl⟩
  | (k, d) :: l, _, ⟨y, v, t, e, hk, r, q⟩, x => by
    subst e hk
    by_cases h : y = x
    · subst h
      rw [valV_pos rfl]
      exact ⟨fun v h => (by cases h; exact ⟨d, by simp [dLook, hkf], r⟩), fun h => (by cases h)⟩
    · rw [valV_neg h]
      have e2 : dLook ((kf y, d) :: l) (kf x) = dLook l (kf x) := by simp [dLook, List.find?_cons, hkf, h]
      rw [e2]
      exact look_G q x
theorem has_G {l : List (D × D)} {es : List (κ × V)} (r : GKv K ct F kf l es) (x : κ) : dHas l (kf x) = (valV es x).isSome := by
  obtain ⟨h1, h2⟩ := look_G hkf r x
  rw [has_look]
  cases h : valV es x with
  | none => rw [h2 h] <;> rfl
  | some v => obtain ⟨d, e, _⟩ := h1 v h; rw [e] <;> rfl
theorem repl_G {x : κ} {d : D} {v : V} (rv : DRep K ct F d v) : ∀ {l : List (D × D)} {es : List (κ × V)}, GKv K ct F kf l es →
    GKv K ct F kf (l.map fun p => if D.eqv p.1 (kf x) = true then (p.1, d) else p) (es.map fun kv => if kv.1 = x then (kv.1, v) else kv)
  | [], _, r => by rw [show _ = [] from r]; exact rfl
  | (k, d') :: l, _, ⟨y, v', t, e, hk, r, q⟩ => by
    subst e hk
    rw [List.map_cons, List.map_cons]
    by_cases h : y = x
    · subst h
      rw [if_pos (by rw [hkf]; exact decide_eq_true rfl), if_pos rfl]
      exact ⟨y, v, _, rfl, rfl, rv, repl_G rv q⟩
    · rw [if_neg (by rw [hkf]; simp [h]), if_neg h]
      exact ⟨y, v', _, rfl, rfl, r, repl_G rv q⟩
omit hkf in
theorem snoc_G {x : κ} {d : D} {v : V} (rv : DRep K ct F d v) : ∀ {l : List (D × D)} {es : List (κ × V)}, GKv K ct F kf l es → GKv K ct F kf (l ++ [(kf x, d)]) (es ++ [(x, v)])
  | [], _, r => by rw [show _ = [] from r]; exact ⟨x, v, [], rfl, rfl, rv, rfl⟩
  | (k, d') :: l, _, ⟨y, v', t, e, hk, r, q⟩ => by
    subst e hk
    exact ⟨y, v', _, rfl, rfl, r, snoc_G rv q⟩
theorem put_G {x : κ} {d : D} {v : V} (rv : DRep K ct F d v) {l : List (D × D)} {es : List (κ × V)} (r : GKv K ct F kf l es) : GKv K ct F kf (dPut l (kf x) d) (putK es x v) := by
  unfold dPut putK
  rw [has_G hkf r x, valV_any]
  split
  · exact repl_G hkf rv r
  · exact snoc_G rv r
theorem drop_G {x : κ} : ∀ {l : List (D × D)} {es : List (κ × V)}, GKv K ct F kf l es → GKv K ct F kf (dDel l (kf x)) (dropK es x)
  | [], _, r => by rw [show _ = [] from r]; exact rfl
  | (k, d') :: l, _, ⟨y, v', t, e, hk, r, q⟩ => by
    subst e hk
    by_cases h : y = x
    · subst h
      have e1 : dDel ((kf y, d') :: l) (kf y) = dDel l (kf y) := by simp [dDel, List.filter_cons, hkf]
      have e2 : dropK ((y, v') :: t) y = dropK t y := by simp [dropK, List.filter_cons]
      rw [e1, e2]
      exact drop_G q
    · have e1 : dDel ((kf y, d') :: l) (kf x) = (kf y, d') :: dDel l (kf x) := by simp [dDel, List.filter_cons, hkf, h]
      have e2 : dropK ((y, v') :: t) x = (y, v') :: dropK t x := by simp [dropK, List.filter_cons, h]
      rw [e1, e2]
      exact ⟨y, v', _, rfl, rfl, r, drop_G q⟩
omit [DecidableEq κ] hkf in
theorem len_G : ∀ {l : List (D × D)} {es : List (κ × V)}, GKv K ct F kf l es → l.length = es.length
  | [], _, r => by rw [show _ = [] from r] <;> rfl
  | (k, d') :: l, _, ⟨y, v', t, e, hk, r, q⟩ => by rw [e, List.length_cons, List.length_cons, len_G q]
end
/-- the dict's look-up, by the abstract heap -/
theorem look_of {H : Hp} (le : Le F H) {t : Bool} {l : List (D × D)} {k : D} {a : Addr} {u : HO} {y : V} (hk : keyOk t k = true) (hu : Rd H a u) (r : DctO K ct F t l u) (ry : DRep K ct F k y) :
    ∃ o, DGet H a y o ∧ (∀ v, o = some v → ∃ d, dLook l k = some d ∧ DRep K ct F d v) ∧ (o = none → dLook l k = none) := by
  rcases r with ⟨rfl, es, rfl, q⟩ | ⟨rfl, es, rfl, q⟩
  · obtain ⟨x, rfl⟩ := isK_of (show k.isK = true from hk)
    rw [kD_rep x ry]
    obtain ⟨h1, h2⟩ := look_G eqv_key (gkv_K.mp q) x
    exact ⟨valV es x, .inl ⟨es, x, hu, rfl, rfl⟩, h1, h2⟩
  · cases k with
    | tup kb m =>
      cases kb with
      | true => cases hk
      | false =>
      obtain ⟨x, rfl⟩ := isKs_of (show m.all D.isK = true from hk)
      obtain ⟨b, vs, rfl, hb, rv⟩ := ry
      have hb : F b = some (.tup vs) := hb
      rw [kDs_rep rv] at hb
      obtain ⟨h1, h2⟩ := look_G eqv_keys (gkv_T.mp q) x
      exact ⟨valV es x, .inr ⟨es, x, b, hu, rfl, le _ _ hb, rfl⟩, h1, h2⟩
    | _ => cases hk
theorem VRep.key {H : Hp} {t : Bool} {k : D} {y : V} (hk : keyOk t k = true) (r : VRep K ct F H k y) : DRep K ct F k y := by
  cases k with
  | lst l => cases t <;> cases hk
  | dct t' l => cases t <;> cases hk
  | _ => exact r
end
end Ev
end

section
set_option Elab.async false
set_option linter.all false
/-! EvA: new tuples: told plainly, or with their object known. -/
namespace Ev
open PySem PySem.Spec PyProof.Rows L2
set_option autoImplicit false
theorem PE.or {X : Cx} {e : Expr} {t u : TE} (h : PE X e t) (k : PE X e u) : PE X e (fun σ H Q => t σ H Q ∨ u σ H Q) := ⟨fun pins s σ H Q I q => q.elim (h.run pins s σ H Q I) (k.run pins s σ H Q I)⟩
def isPr : D → Bool
  | .tup _ [_, _] => true
  | _ => false
/-- may dict() ask it -/
def dictable (l : List D) : Bool := l.all isPr
def TupO (k : Bool) (xs : List V) (o : HO) : Prop := match k with
  | false => o = .tup xs
  | true => ∃ od : Obj, o = .frz od (.tup xs) ∧ od.dict = none
theorem TupO.at {F : Hp} {a : Addr} {k : Bool} {xs : List V} {o : HO} (t : TupO k xs o) (e : F a = some o) : TupAt F a k xs := match k, t with
  | false, t => by rw [show o = .tup xs from t] at e; exact e
  | true, ⟨od, z, n⟩ => by rw [z] at e; exact ⟨od, e, n⟩
theorem TupO.notbl {k : Bool} {xs : List V} {o : HO} (t : TupO k xs o) : ∀ ps, o ≠ .tbl ps := match k, t with
  | false, t => by rw [show o = .tup xs from t]; intro _ z; cases z
  | true, ⟨od, z, n⟩ => by rw [z]; intro _ z; cases z
/-- a new tuple -/
def TNew (H : Hp) (xs : List V) (Q : VK) : Prop := ∃ k : Bool, ∀ p o, H p = none → TupO k xs o → Q (.ref p) (upd H p o)
section
variable {X : Cx} {pins : List (Addr × Obj)} {σ : L2.St} {H : Hp} {s : Shared}
theorem TNew.go {xs : List V} {its : Array Value} {Q : VK} (t : TNew H xs Q) (I : Inv X pins σ H s) (r : Vals xs its.toList) (hz : xs.length ≤ sizeLine) :
    EP X pins σ Q (.ref s.heap.objs.size) { s with heap := s.heap.push { cls := .type "tuple", data := .seq its } } := by
  obtain ⟨k, t⟩ := t
  have hit : IsTup (s.heap.push { cls := .type "tuple", data := .seq its }) s.heap.objs.size its := IsTup.new _ _
  have key : ∃ o, TupO k xs o ∧ ObjOk X.prog X.w (upd H s.heap.objs.size o) (s.heap.push { cls := .type "tuple", data := .seq its }) s.heap.objs.size o := by
    cases k with
    | false => exact ⟨_, rfl, hz, its.toList, r, hit⟩
    | true => exact ⟨.frz { cls := .type "tuple", data := .seq its } (.tup xs), ⟨_, rfl, rfl⟩, Heap.get?_push_size _ rfl, hz, its.toList, r, hit⟩
  obtain ⟨o, ho, ok⟩ := key
  exact ⟨.ref s.heap.objs.size, _, I.laid (t' := s.toks) (fun b ob q => Heap.get?_push_of_some _ q) (Nat.le_refl _) ok, rfl, t _ _ (I.hok.fresh (Nat.le_refl _)) ho⟩
/-! ### (a, b, ..) -/
def tTupK (t : TA) : TE := fun σ H Q => t σ H fun xs H1 => xs.length ≤ sizeLine ∧ TNew H1 xs Q
theorem pe_tupK {es : List Expr} {t : TA} {x1} {pos : Pos} (h : PA X es t) : PE X (.Tuple es x1 pos) (tTupK t) := by
  refine ⟨fun pins s σ H Q I hq => ?_⟩
  refine wpAny_Tuple_spliced (thn (h.run pos pins s σ H _ I hq) fun us s1 ⟨xs, H1, I1, r, z, q⟩ => ⟨by rw [← r.length]; exact z, ?_⟩)
  exact q.go (its := us.toArray) I1 r z
/-! ### + -/
def rCatK (K : PySem.W.Frag) : R2 := fun x y H Q => ∃ a b xs ys, x = .ref a ∧ y = .ref b ∧ SqT K H a xs ∧ SqT K H b ys ∧ xs.length + ys.length ≤ sizeLine ∧
  (xs = [] → Q (.ref b) H) ∧ (xs ≠ [] → ys = [] → Q (.ref a) H) ∧ (xs ≠ [] → ys ≠ [] → TNew H (xs ++ ys) Q)
theorem op_catK : OpR X (binaryOp .Add) (rCatK X.K) := by
  intro pins s σ H x y v u Q I rx ry h
  obtain ⟨a, b, xs, ys, rfl, rfl, ha, hb, hz, q0, q1, q2⟩ := h
  by_cases hx : xs = []
  · exact op_catA pins s σ H _ _ v u Q I rx ry ⟨a, b, xs, ys, rfl, rfl, ha, hb, hz, q0, q1, fun z => absurd hx z⟩
  · cases rx
    cases ry
    obtain ⟨its, r1, p1, _⟩ := I.tuple ha
    obtain ⟨its2, r2, p2, _⟩ := I.tuple hb
    refine HT.cat_tup p1 p2 (fun z => hx (r1.nil_iff.mp z)) (fun z => ⟨.ref a, H, I, rfl, q1 hx (r2.nil_iff.mp z)⟩) (fun z => ?_) (by rw [← r1.length, ← r2.length]; exact hz)
    have t := q2 hx (fun w => z (r2.nil_iff.mpr w))
    exact t.go (its := (its ++ its2).toArray) I (r1.append r2) (by rw [List.length_append]; exact hz)
/-! ### t[lo:hi] -/
def rSlK (K : PySem.W.Frag) : V → Option Int → Option Int → Hp → VK → Prop := fun x lo hi H Q => ∃ a xs, x = .ref a ∧ SqT K H a xs ∧
  (HT.sIx xs.length 0 lo = 0 ∧ HT.sIx xs.length xs.length hi = xs.length → Q (.ref a) H) ∧ (¬ (HT.sIx xs.length 0 lo = 0 ∧ HT.sIx xs.length xs.length hi = xs.length) → TNew H (cutV xs lo hi) Q)
theorem sl_tupK : SlR X (rSlK X.K) := by
  intro pins s σ H x v vl vu lo hi sl Q I rx hs pl pu h
  obtain ⟨a, xs, rfl, hx, q1, q2⟩ := h
  by_cases hw : HT.sIx xs.length 0 lo = 0 ∧ HT.sIx xs.length xs.length hi = xs.length
  · exact sl_tupA pins s σ H _ v vl vu lo hi sl Q I rx hs pl pu ⟨a, xs, rfl, hx, q1, fun z => absurd hw z⟩
  · cases rx
    obtain ⟨its, r, ht, hz⟩ := I.tuple hx
    have hlen : its.toArray.size = xs.length := by rw [List.size_toArray]; exact r.length.symm
    refine ⟨"tuple", _, PyProof.Rows.slot_tuple_getitem.lookup, ht.typeIs, ?_⟩
    refine HT.getItem_tuple_cut ht hs pl pu (by rw [hlen]; exact hw) ?_ (by rw [hlen]; exact hz)
    rw [hlen]
    exact (q2 hw).go (its := ((its.drop (HT.sIx xs.length 0 lo)).take (HT.sIx xs.length xs.length hi - HT.sIx xs.length 0 lo)).toArray) I ((r.drop _).take _) (Nat.le_trans (cutV_length xs lo hi) hz)
end
/-! ### t[::-1] -/
section
variable {prog : Program} {w : World} {A : Around} {E : Value → Shared → Prop} {s : Shared}
theorem rev_pick (xs : Array Value) : ((List.range xs.size).filterMap fun (k : Nat) => xs[(((xs.size : Int) - 1) + (k : Int) * (-1)).toNat]?).toArray = xs.toList.reverse.toArray := by
  have e : ((List.range xs.size).filterMap fun (k : Nat) => xs[(((xs.size : Int) - 1) + (k : Int) * (-1)).toNat]?) = ((List.range xs.size).map fun k => xs.size - 1 - k).filterMap (xs[·]?) := by
    rw [List.filterMap_map]
    have key : ∀ l : List Nat, (∀ k ∈ l, k < xs.size) → l.filterMap (fun (k : Nat) => xs[(((xs.size : Int) - 1) + (k : Int) * (-1)).toNat]?) = l.filterMap ((fun x => xs[x]?) ∘ fun k => xs.size - 1 - k) := by
      intro l
      induction l with
      | nil => intro _; rfl
      | cons k l ih =>
        intro h
        have hk := h k List.mem_cons_self
        have e1 : xs[(((xs.size : Int) - 1) + (k : Int) * (-1)).toNat]? = ((fun x => xs[x]?) ∘ fun k => xs.size - 1 - k) k := by
          show _ = xs[xs.size - 1 - k]?
          rw [show (((xs.size : Int) - 1) + (k : Int) * (-1)).toNat = xs.size - 1 - k by omega]
        rw [List.filterMap_cons, List.filterMap_cons, ih fun j hj => h j (List.mem_cons_of_mem _ hj), e1]
    exact key _ fun k hk => List.mem_range.mp hk
  rw [e, PySem.W.krv_range, List.filterMap_reverse, PySem.W.krv_all]
theorem sliceApplied_rev {sl : Addr} {vl vu vs : Value} {n : Nat} {Q : Int × Int × Nat → Shared → Prop} (hs : s.heap.IsSliceOf sl vl vu vs) (pl : IsPart vl none) (pu : IsPart vu none) (ps : IsPart vs (some (-1)))
    (h : Q ((n : Int) - 1, -1, n) s) : wpAny (model prog w) A (Builtin.Slice.sliceApplied (.ref sl) (pure (n : Int))) Q E s := by
  obtain ⟨os, hos, hcs, hds⟩ := id hs
  unfold Builtin.Slice.sliceApplied Builtin.Slice.sliceFields
  refine wpAny_bind (wpAny_bind (wpAny_field hos hds (x := vl) rfl (wpAny_bind (wpAny_field hos hds (x := vu) rfl (wpAny_bind (wpAny_field hos hds (x := vs) rfl (wpAny_pure ?_)))))))
  refine wpAny_bind (HT.slicePart_ ps ?_)
  show wpAny _ _ (if ((-1 : Int) == 0) = true then _ else _) _ _ s
  rw [if_neg (by decide)]
  refine wpAny_bind (HT.slicePart_ pl (wpAny_bind (HT.slicePart_ pu (wpAny_bind (wpAny_pure ?_)))))
  have e : Builtin.Slice.sliceAdjust none none (-1) (n : Int) = ((n : Int) - 1, -1) := rfl
  have e2 : Builtin.Slice.slicePlaces ((n : Int) - 1) (-1) (-1) = n := by
    unfold Builtin.Slice.slicePlaces
    have h1 : ¬ ((-1 : Int) > 0) := by decide
    simp only [h1, if_false]
    rw [show (- -1 : Int) = 1 by decide, Int.ediv_one]
    split <;> omega
  show wpAny _ _ (match Builtin.Slice.sliceAdjust none none (-1) (n : Int) with | (lo, hi) => pure (lo, (-1 : Int), Builtin.Slice.slicePlaces lo hi (-1))) _ _ s
  rw [e]
  show wpAny _ _ (pure ((n : Int) - 1, (-1 : Int), Builtin.Slice.slicePlaces ((n : Int) - 1) (-1) (-1))) _ _ s
  rw [e2]
  exact wpAny_pure h
theorem getItem_tuple_rev {t sl : Addr} {items : Array Value} {vl vu vs : Value} {Q : Value → Shared → Prop} (ht : IsTup s.heap t items) (hs : s.heap.IsSliceOf sl vl vu vs) (pl : IsPart vl none) (pu : IsPart vu none) (ps : IsPart vs (some (-1)))
    (h : Q (.ref s.heap.objs.size) { s with heap := s.heap.push { cls := .type "tuple", data := .seq items.toList.reverse.toArray } }) (hsz : items.size ≤ sizeLine) : wpAny (model prog w) A (getItem (.ref t) (.ref sl)) Q E s := by
  obtain ⟨os, hos, hcs, hds⟩ := id hs
  have hTs : s.TypeIs (.ref sl) "slice" := ⟨os, hos, hcs⟩
  have htake : sizeOk (.seq items.toList.reverse.toArray) := by
    show items.toList.reverse.toArray.size ≤ sizeLine
    rw [List.size_toArray, List.length_reverse, Array.length_toList]
    exact hsz
  unfold getItem
  try with_reducible refine wpAny_holding ?_
  first | refine wpAny_bind (wpAny_pure ?_) | skip
  refine wpAny_bind (wpAny_sequenceKey ht.typeIs (by decide) ?_)
  refine wpAny_bind (wpAny_callSpecial?_slot (name := Str.ofString "__getitem__") ht.typeIs PyProof.Rows.slot_tuple_getitem
    (wpAny_call_entry PyProof.Rows.slot_tuple_getitem ht.typeIs PyProof.Rows.entry_tuple_getitem ?_ (PyProof.Rows.args_tuple_getitem _ _)))
  show wpAny _ _ (Builtin.Tuple.tupleItemsOf (.ref t) >>= _) _ _ s
  refine wpAny_bind (PyProof.Rows.tupleItemsOf_ ht ?_)
  refine wpAny_bind (wpAny_typeOf hTs ?_)
  rw [if_pos (by decide)]
  refine wpAny_bind (sliceApplied_rev hs pl pu ps ?_)
  show wpAny _ _ (if (((items.size : Int) - 1) == 0 && (-1 : Int) == 1 && items.size == items.size) = true then _ else _) _ _ s
  rw [if_neg (by simp), rev_pick]
  first
    | exact wpAny_bind (m := Builtin.Tuple.tupleExact _) (wpAny_newObj_type (wpAny_pure ⟨_, rfl, wpAny_pure h⟩) htake)
    | exact wpAny_bind (m := Builtin.Tuple.tupleExact _) (wpAny_newObj_type (wpAny_bind (wpAny_pure (wpAny_pure ⟨_, rfl, wpAny_pure h⟩))) htake)
    | exact wpAny_bind (wpAny_bind (m := Builtin.Tuple.tupleExact _) (wpAny_newObj_type (wpAny_pure (wpAny_pure ⟨_, rfl, wpAny_pure h⟩)) htake))
    | exact wpAny_bind (wpAny_bind (m := Builtin.Tuple.tupleExact _) (wpAny_newObj_type (wpAny_pure ⟨_, rfl, wpAny_pure h⟩) htake))
end
section
variable {X : Cx}
def tRevT (K : PySem.W.Frag) (te : TE) : TE := fun σ H Q => te σ H fun x H1 => ∃ a xs, x = .ref a ∧ SqT K H1 a xs ∧ TNew H1 xs.reverse Q
theorem pe_revT {e : Expr} {te : TE} {k : Nat} {p1 p2 p3 pos : Pos} (he : PE X e te) : PE X (.Subscript e (.Slice none none (some (.UnaryOp .USub (.Constant (.int 1) k p1) p2)) p3) pos) (tRevT X.K te) := by
  refine ⟨fun pins s σ H Q I h => ?_⟩
  refine Subscript_ (thn (he.run pins s σ H _ I h) fun v s1 ⟨x, H1, I1, r1, q1⟩ => ?_)
  obtain ⟨a, xs, ex, hx, q⟩ := q1
  subst ex
  cases r1
  have hst : PO X (some (.UnaryOp .USub (.Constant (.int 1) k p1) p2)) (tPart (tUn (rU fun i => .int (-i)) (tC (.int 1)))) := po_some (pe_un un_neg pe_int)
  refine wpAny_Slice (thn (po_none.run pins s1 σ H1 (fun o H2 => o = none ∧ H2 = H1) I1 ⟨rfl, rfl⟩) fun vl s2 ⟨l, H2, I2, pl, el, e2⟩ => ?_)
  subst el e2
  refine thn (po_none.run pins s2 σ H2 (fun o H3 => o = none ∧ H3 = H2) I2 ⟨rfl, rfl⟩) fun vu s3 ⟨u, H3, I3, pu, eu, e3⟩ => ?_
  subst eu e3
  refine thn (hst.run pins s3 σ H3 (fun o H4 => o = some (-1) ∧ H4 = H3) I3 ⟨1, rfl, -1, rfl, rfl, rfl⟩) fun vs s4 ⟨o, H4, I4, ps, eo, e4⟩ => ?_
  subst eo e4
  have I5 : Inv X pins σ H4 { s4 with heap := s4.heap.push { cls := .type "slice", data := .fields #[vl, vu, vs] } } := I4.kept (t' := s4.toks) fun b ob q => Heap.get?_push_of_some _ q
  obtain ⟨its, r, ht, hz⟩ := I5.tuple hx
  show wpAny (model X.prog X.w) X.A (subscriptTail e (.Slice none none (some (.UnaryOp .USub (.Constant (.int 1) k p1) p2)) p3) (.ref a) (.ref s4.heap.objs.size)) (EP X pins σ Q) X.xe { s4 with heap := s4.heap.push { cls := .type "slice", data := .fields #[vl, vu, vs] } }
  refine tail_any (ops := [.ref a, .ref s4.heap.objs.size]) ht.typeIs PyProof.Rows.slot_tuple_getitem.lookup ?_ (by with_unfolding_all rfl)
  refine getItem_tuple_rev ht (Heap.IsSliceOf.new _ vl vu vs) pl pu ps ?_ (by rw [List.size_toArray, ← r.length]; exact hz)
  exact q.go (its := its.toArray.toList.reverse.toArray) I5 (by simpa using r.reverse) (by rw [List.length_reverse]; exact hz)
end
end Ev
end

section
set_option Elab.async false
set_option linter.all false
/-! Ev5: in of anything, subscripts, + of anything, order, displays, slices. -/
namespace Ev
open PySem PySem.Spec L2
set_option autoImplicit false
/-! ### in -/
def rInDc (neg : Bool) : R2 := fun y x H Q => ∃ a o, x = .ref a ∧ DGet H a y o ∧ Q (.bl (if neg then !o.isSome else o.isSome)) H
section
variable {X : Cx} {ct : Ct}
theorem op_inDc (hu : X.A.units + 1 < cLine) : OpR X (compareOp .In) (rInDc false) := by
  intro pins s σ H y x u v Q I ry rx h
  obtain ⟨a, o, rfl, g, q⟩ := h
  obtain rfl : v = Value.ref a := rx
  exact d_in hu I g ry fun s' I' => ⟨.bl o.isSome, H, I', rfl, q⟩
theorem op_notInDc (hu : X.A.units + 1 < cLine) : OpR X (compareOp .NotIn) (rInDc true) := by
  intro pins s σ H y x u v Q I ry rx h
  obtain ⟨a, o, rfl, g, q⟩ := h
  obtain rfl : v = Value.ref a := rx
  exact d_notIn hu I g ry fun s' I' => ⟨.bl (!o.isSome), H, I', rfl, q⟩
abbrev rInAny (K : PySem.W.Frag) : R2 := fun x y H Q => rInD K x y H Q ∨ rInDc false x y H Q ∨ rIn K false x y H Q
abbrev rNInAny (K : PySem.W.Frag) : R2 := fun x y H Q => rNotInD K x y H Q ∨ rInDc true x y H Q ∨ rIn K true x y H Q
theorem op_inAny (hu : X.A.units + 65 < cLine) : OpR X (compareOp .In) (rInAny X.K) := (op_inD hu).or ((op_inDc (by omega)).or op_in_seq)
theorem op_ninAny (hu : X.A.units + 65 < cLine) : OpR X (compareOp .NotIn) (rNInAny X.K) := (op_notInD hu).or ((op_notInDc (by omega)).or op_notIn_seq)
def D.flat : D → Bool
  | .non => true
  | .bl _ => true
  | .int _ => true
  | .str _ => true
  | _ => false
def D.toV : D → V
  | .bl b => .bl b
  | .int i => .int i
  | .str x => .str x
  | _ => .non
theorem flat_rep {K F} {d : D} {v : V} (h : d.flat = true) (r : DRep K ct F d v) : v = d.toV ∧ flatV v = true := by
  cases d with
  | non => cases r; exact ⟨rfl, rfl⟩
  | bl b => cases r; exact ⟨rfl, rfl⟩
  | int i => cases r; exact ⟨rfl, rfl⟩
  | str x => cases r; exact ⟨rfl, rfl⟩
  | _ => cases h
theorem flats_rep {K F} : ∀ {l : List D} {vs : List V}, l.all D.flat = true → DReps K ct F l vs → vs = l.map D.toV ∧ vs.all flatV = true
  | [], _, _, r => by rw [show _ = [] from r]; exact ⟨rfl, rfl⟩
  | d :: l, _, h, ⟨v, t, e, r, q⟩ => by
    rw [List.all_cons, Bool.and_eq_true] at h
    obtain ⟨h1, h2⟩ := flat_rep h.1 r
    obtain ⟨h3, h4⟩ := flats_rep h.2 q
    rw [e]
    exact ⟨by rw [h1, h3]; rfl, by rw [List.all_cons, h2, h4] <;> rfl⟩
theorem flat_eq : ∀ {d e : D}, d.flat = true → e.flat = true → eqV d.toV e.toV = D.eqv d e := fun {d e} h k => by
  cases d <;> cases e <;> first | (cases h; done) | (cases k; done) | simp [D.toV, eqV, D.eqv]
theorem flat_any {d : D} (h : d.flat = true) : ∀ {l : List D}, l.all D.flat = true → inV d.toV (l.map D.toV) = l.any fun z => D.eqv z d
  | [], _ => rfl
  | e :: l, k => by
    rw [List.all_cons, Bool.and_eq_true] at k
    have ih := flat_any h k.2
    unfold inV at ih ⊢
    rw [List.map_cons, List.any_cons, List.any_cons, flat_eq k.1 h, ih]
def fInA (neg : Bool) (d e : D) : Option S := match e with
  | .lst l => if (d.sh && e.sh) = true then some (.imm (.bl (neg ^^ l.any fun z => D.eqv z d))) else none
  | .dct t l => if keyOk t d = true then some (.imm (.bl (neg ^^ dHas l d))) else none
  | .tup _ l => if (d.flat && l.all D.flat) = true then some (.imm (.bl (neg ^^ l.any fun z => D.eqv z d))) else none
  | _ => none
theorem k_in : OpOk X ct (rInAny X.K) (fInA false) := fun F H d e c x y Q le hf rx ry q => by
  unfold fInA at hf
  split at hf
  · rename_i l
    split at hf
    · rename_i h
      rw [Bool.and_eq_true] at h
      cases hf
      refine .inl ⟨d.toP, D.toPs l, vdp le (sh_pl h.1) rx, vdp le (sh_pl h.2) ry, D.sh_ok h.1, D.sh_ok h.2, ?_⟩
      rw [any_toP]
      exact q _ F H (Grw.refl le) (by simp [GRep, DRep])
    · cases hf
  · rename_i t l
    split at hf
    · rename_i h
      cases hf
      obtain ⟨a, u, rfl, hu, r⟩ := ry
      obtain ⟨o, g, g1, g2⟩ := look_of le h hu r (VRep.key h rx)
      refine .inr (.inl ⟨a, o, rfl, g, ?_⟩)
      refine q _ F H (Grw.refl le) ?_
      show V.bl _ = V.bl _
      rw [has_look]
      cases o with
      | none => rw [g2 rfl]; rfl
      | some v => obtain ⟨d', e', _⟩ := g1 v rfl; rw [e']; rfl
    · cases hf
  · rename_i l
    split at hf
    · rename_i h
      rw [Bool.and_eq_true] at h
      cases hf
      obtain ⟨a, vs, rfl, ha, r⟩ := ry
      have rx' : DRep X.K ct F d x := by
        cases d <;> first | exact rx | (cases h.1)
      obtain ⟨h1, h2⟩ := flat_rep h.1 rx'
      obtain ⟨h3, h4⟩ := flats_rep h.2 r
      refine .inr (.inr ⟨a, vs, rfl, .inr (le.sqt ha.sqt), h2, h4, ?_⟩)
      refine q _ F H (Grw.refl le) ?_
      show V.bl (if false = true then _ else _) = V.bl _
      rw [h1, h3, if_neg (by decide), flat_any h.1 h.2]
      simp
    · cases hf
  · cases hf
theorem k_nin : OpOk X ct (rNInAny X.K) (fInA true) := fun F H d e c x y Q le hf rx ry q => by
  unfold fInA at hf
  split at hf
  · rename_i l
    split at hf
    · rename_i h
      rw [Bool.and_eq_true] at h
      cases hf
      refine .inl ⟨d.toP, D.toPs l, vdp le (sh_pl h.1) rx, vdp le (sh_pl h.2) ry, D.sh_ok h.1, D.sh_ok h.2, ?_⟩
      rw [any_toP]
      exact q _ F H (Grw.refl le) (by simp [GRep, DRep])
    · cases hf
  · rename_i t l
    split at hf
    · rename_i h
      cases hf
      obtain ⟨a, u, rfl, hu, r⟩ := ry
      obtain ⟨o, g, g1, g2⟩ := look_of le h hu r (VRep.key h rx)
      refine .inr (.inl ⟨a, o, rfl, g, ?_⟩)
      refine q _ F H (Grw.refl le) ?_
      show V.bl _ = V.bl _
      rw [has_look]
      cases o with
      | none => rw [g2 rfl]; rfl
      | some v => obtain ⟨d', e', _⟩ := g1 v rfl; rw [e']; rfl
    · cases hf
  · rename_i l
    split at hf
    · rename_i h
      rw [Bool.and_eq_true] at h
      cases hf
      obtain ⟨a, vs, rfl, ha, r⟩ := ry
      have rx' : DRep X.K ct F d x := by
        cases d <;> first | exact rx | (cases h.1)
      obtain ⟨h1, h2⟩ := flat_rep h.1 rx'
      obtain ⟨h3, h4⟩ := flats_rep h.2 r
      refine .inr (.inr ⟨a, vs, rfl, .inr (le.sqt ha.sqt), h2, h4, ?_⟩)
      refine q _ F H (Grw.refl le) ?_
      show V.bl (if true = true then _ else _) = V.bl _
      rw [h1, h3, if_pos rfl, flat_any h.1 h.2]
      simp
    · cases hf
  · cases hf
/-! ### is None, is True -/
def fIsN (neg : Bool) (d e : D) : Option S := match e with
  | .non => some (.imm (.bl (neg ^^ (match d with | .non => true | _ => false))))
  | _ => none
theorem non_dec {K F H} : ∀ {d : D} {x : V}, VRep K ct F H d x → decide (x = .non) = (match d with | .non => true | _ => false)
  | .non, _, r => by rw [show _ = _ from r] <;> rfl
  | .bl _, _, r => by rw [show _ = _ from r] <;> rfl
  | .int _, _, r => by rw [show _ = _ from r] <;> rfl
  | .str _, _, r => by rw [show _ = _ from r] <;> rfl
  | .tup _ _, _, ⟨a, _, e, _⟩ => by rw [e] <;> rfl
  | .lst _, _, ⟨a, _, e, _⟩ => by rw [e] <;> rfl
  | .dct _ _, _, ⟨a, _, e, _⟩ => by rw [e] <;> rfl
  | .ins _ _, _, ⟨a, _, _, e, _⟩ => by rw [e] <;> rfl
  | .scr _, _, ⟨a, e, _⟩ => by rw [e] <;> rfl
  | .adr, _, ⟨a, e⟩ => by rw [e] <;> rfl
  | .at_ _, _, r => by rw [show _ = _ from r] <;> rfl
theorem k_isN : OpOk X ct (fun x y H Q => y = .non ∧ Q (.bl (decide (x = .non))) H) (fIsN false) := fun F H d e c x y Q le hf rx ry q => by
  unfold fIsN at hf
  split at hf
  · cases hf
    refine ⟨ry, q _ F H (Grw.refl le) ?_⟩
    show V.bl _ = V.bl _
    rw [non_dec rx]
    simp
  · cases hf
theorem k_notN : OpOk X ct (fun x y H Q => y = .non ∧ Q (.bl (!decide (x = .non))) H) (fIsN true) := fun F H d e c x y Q le hf rx ry q => by
  unfold fIsN at hf
  split at hf
  · cases hf
    refine ⟨ry, q _ F H (Grw.refl le) ?_⟩
    show V.bl _ = V.bl _
    rw [non_dec rx]
    simp
  · cases hf
/-! ### subscripts -/
def rIxDc : R2 := fun x y H Q => ∃ a v, x = .ref a ∧ DGet H a y (some v) ∧ Q v H
theorem ix_dct (hu : X.A.units + 1 < cLine) : IxR X rIxDc := by
  intro value slice pins s σ H x y v u Q I rx ry h hs
  obtain ⟨a, z, rfl, g, q⟩ := h
  obtain rfl : v = Value.ref a := rx
  exact PyProof.Rows.tail_any (dict_typeIs I g) PySem.F.slot_dict_getitem.lookup (d_getItem hu I g ry fun w' s' I' rw' => ⟨z, H, I', rw', q⟩) hs
abbrev rIxAny (K : PySem.W.Frag) : R2 := fun x y H Q => rIxL K x y H Q ∨ rIxT K x y H Q ∨ rIxDc x y H Q
theorem ix_any (hu : X.A.units + 1 < cLine) : IxR X (rIxAny X.K) := ix_list.or (ix_tup.or (ix_dct hu))
def fIx : D → D → Option S
  | .lst l, .int i => (atI l i).map .imm
  | .tup _ l, .int i => (atI l i).map .imm
  | .dct t l, k => if keyOk t k = true then (dLook l k).map .imm else none
  | _, _ => none
theorem atI_rep {K F} {l : List D} {vs : List V} {i : Int} {d : D} (r : DReps K ct F l vs) (h : atI l i = some d) : ∃ v, atI vs i = some v ∧ DRep K ct F d v := by
  unfold atI at h ⊢
  rw [← r.length]
  cases e : ixN l.length i with
  | none => rw [e] at h; cases h
  | some j =>
    rw [e] at h
    exact r.get h
theorem k_ix : OpOk X ct (rIxAny X.K) fIx := fun F H d e c x y Q le hf rx ry q => by
  unfold fIx at hf
  split at hf
  · rename_i l i
    cases h : atI l i with
    | none => rw [h] at hf; cases hf
    | some z =>
      rw [h] at hf
      cases hf
      obtain ⟨a, vs, rfl, ha, r⟩ := rx
      obtain ⟨v, hv, rv⟩ := atI_rep r h
      exact .inl ⟨a, vs, i, v, rfl, ry, SqL.of ha, hv, q v F H (Grw.refl le) rv⟩
  · rename_i l i
    cases h : atI l i with
    | none => rw [h] at hf; cases hf
    | some z =>
      rw [h] at hf
      cases hf
      obtain ⟨a, vs, rfl, ha, r⟩ := rx
      obtain ⟨v, hv, rv⟩ := atI_rep r h
      exact .inr (.inl ⟨a, vs, i, v, rfl, ry, le.sqt ha.sqt, hv, q v F H (Grw.refl le) rv⟩)
  · rename_i t l
    split at hf
    · rename_i h
      cases h1 : dLook l e with
      | none => rw [h1] at hf; cases hf
      | some z =>
        rw [h1] at hf
        cases hf
        obtain ⟨a, u, rfl, hu, r⟩ := rx
        obtain ⟨o, g, g1, g2⟩ := look_of le h hu r (VRep.key h ry)
        cases o with
        | none => rw [g2 rfl] at h1; cases h1
        | some v =>
          obtain ⟨d', e', rv⟩ := g1 v rfl
          rw [h1] at e'
          cases e'
          exact .inr (.inr ⟨a, v, rfl, g, q v F H (Grw.refl le) rv⟩)
    · cases hf
  · cases hf
theorem sf_ix {r : R2} {f : D → D → Option S} {a b : Expr} {a' b' : A} {pos : Pos} (ho : IxR X r) (k : OpOk X ct r f) (ha : AE X ct a a') (hb : AE X ct b b') (hs : PlainIx b) : SF X ct (.Subscript a b pos) (m2 f a' b') :=
  PEimp (pe_ix ho ha hb hs) fun σV H Q ⟨F, σ, w, s, σ', e, q⟩ => m2_ok k w e q
/-! ### + -/
abbrev rAddAny (K : PySem.W.Frag) : R2 := fun x y H Q => rI0 (fun i j => .int (i + j)) x y H Q ∨ (∃ i j, x = .str i ∧ y = .str j ∧ i.length + j.length ≤ sizeLine ∧ Q (.str (i ++ j)) H) ∨ rCatK K x y H Q ∨ rCat x y H Q
theorem op_addAny : OpR X (binaryOp .Add) (rAddAny X.K) := op_add.or (op_add_str.or (op_catK.or op_cat))
def LIM : Nat := 16777216
theorem LIM_eq : LIM = sizeLine := sizeLine_eq.symm
def fAdd : D → D → Option S
  | .int i, .int j => some (.imm (.int (i + j)))
  | .str i, .str j => if i.length + j.length ≤ LIM then some (.imm (.str (i ++ j))) else none
  | .tup k l, .tup k2 m => if l.length + m.length ≤ LIM then some (.imm (if l = [] then .tup k2 m else if m = [] then .tup k l else .tup (dictable (l ++ m)) (l ++ m))) else none
  | .lst l, .lst m => if l.length + m.length ≤ LIM then some (.ls false (l ++ m)) else none
  | _, _ => none
theorem reps_nil {K F} {l : List D} {vs : List V} (r : DReps K ct F l vs) : vs = [] ↔ l = [] := by
  have e := r.length
  constructor
  · intro h; rw [h] at e; exact List.eq_nil_of_length_eq_zero e
  · intro h; rw [h] at e; exact List.eq_nil_of_length_eq_zero e.symm
theorem k_add : OpOk X ct (rAddAny X.K) fAdd := fun F H d e c x y Q le hf rx ry q => by
  unfold fAdd at hf
  split at hf
  · rename_i i j
    cases hf
    exact .inl ⟨i, j, rx, ry, q _ F H (Grw.refl le) rfl⟩
  · rename_i i j
    split at hf
    · rename_i h
      cases hf
      exact .inr (.inl ⟨i, j, rx, ry, by rw [← LIM_eq]; exact h, q _ F H (Grw.refl le) rfl⟩)
    · cases hf
  · rename_i k l k2 m
    split at hf
    · rename_i h
      cases hf
      obtain ⟨a, vs, rfl, ha, r⟩ := rx
      obtain ⟨b, us, rfl, hb, t⟩ := ry
      refine .inr (.inr (.inl ⟨a, b, vs, us, rfl, rfl, le.sqt ha.sqt, le.sqt hb.sqt, by rw [← LIM_eq, ← r.length, ← t.length]; exact h, fun z => ?_, fun z0 z => ?_, fun z0 z1 => ⟨dictable (l ++ m), fun p o hp ho => ?_⟩⟩))
      · have z' := (reps_nil r).mp z
        refine q _ F H (Grw.refl le) ?_
        show DRep _ _ _ (if l = [] then _ else _) _
        rw [if_pos z']
        exact ⟨b, us, rfl, hb, t⟩
      · have z' := (reps_nil t).mp z
        have zl : ¬ l = [] := fun e => z0 ((reps_nil r).mpr e)
        refine q _ F H (Grw.refl le) ?_
        show DRep _ _ _ (if l = [] then _ else _) _
        rw [if_neg zl, if_pos z']
        exact ⟨a, vs, rfl, ha, r⟩
      · have le2 : Le F (upd F p o) := Le.laid (le.none hp)
        have zl : ¬ l = [] := fun e => z0 ((reps_nil r).mpr e)
        have zm : ¬ m = [] := fun e => z1 ((reps_nil t).mpr e)
        refine q _ _ _ (Grw.new le hp ho.notbl) ?_
        show DRep _ _ _ (if l = [] then _ else _) _
        rw [if_neg zl, if_neg zm]
        exact ⟨p, _, rfl, ho.at upd_same, DReps.append (DReps.mono le2 _ _ r) (DReps.mono le2 _ _ t)⟩
    · cases hf
  · rename_i l m
    split at hf
    · rename_i h
      cases hf
      obtain ⟨a, vs, rfl, ha, r⟩ := rx
      obtain ⟨b, us, rfl, hb, t⟩ := ry
      exact .inr (.inr (.inr ⟨a, b, vs, us, rfl, rfl, ha, hb, by rw [← LIM_eq, ← r.length, ← t.length]; exact h, fun p hp => q _ F _ (Grw.lay le hp) ⟨rfl, p, _, rfl, hp, le.none hp, upd_same, DReps.append r t⟩⟩))
    · cases hf
  · cases hf
/-! ### order -/
def D.ints : List D → Option (List Int)
  | [] => some []
  | .int i :: l => (D.ints l).map (i :: ·)
  | _ :: _ => none
theorem ints_rep {K F} : ∀ {l : List D} {ns : List Int} {vs : List V}, D.ints l = some ns → DReps K ct F l vs → vs = ns.map V.int
  | [], _, _, h, r => by cases h; exact r
  | d :: l, ns, _, h, ⟨v, t, e, r, q⟩ => by
    cases d with
    | int i =>
      cases h1 : D.ints l with
      | none => simp [D.ints, h1] at h
      | some ms =>
        simp [D.ints, h1] at h
        subst h
        rw [e, show v = .int i from r, ints_rep h1 q] <;> rfl
    | _ => simp [D.ints] at h
theorem ints_map {K F} (ns : List Int) : DReps K ct F (ns.map D.int) (ns.map V.int) := by
  induction ns with
  | nil => exact rfl
  | cons n ns ih => exact ⟨_, _, rfl, rfl, ih⟩
theorem ints_eq : ∀ {l : List D} {ns : List Int}, D.ints l = some ns → l = ns.map D.int
  | [], _, h => by cases h; rfl
  | d :: l, ns, h => by
    cases d with
    | int i =>
      cases h1 : D.ints l with
      | none => simp [D.ints, h1] at h
      | some ms =>
        simp [D.ints, h1] at h
        subst h
        rw [ints_eq h1] <;> rfl
    | _ => simp [D.ints] at h
abbrev rLtAny (K : PySem.W.Frag) : R2 := fun x y H Q => rI0 (fun i j => .bl (decide (i < j))) x y H Q ∨ rLtT K x y H Q
theorem op_ltAny (hu : X.A.units < cLine) : OpR X (compareOp .Lt) (rLtAny X.K) := op_lt.or (op_ltT hu)
def fLt : D → D → Option S
  | .int i, .int j => some (.imm (.bl (decide (i < j))))
  | .tup _ l, .tup _ m => (match D.ints l, D.ints m with
    | some ns, some ms => some (.imm (.bl (HT.lexLt ns ms)))
    | _, _ => none)
  | _, _ => none
theorem k_ltA : OpOk X ct (rLtAny X.K) fLt := fun F H d e c x y Q le hf rx ry q => by
  unfold fLt at hf
  split at hf
  · rename_i i j
    cases hf
    exact .inl ⟨i, j, rx, ry, q _ F H (Grw.refl le) rfl⟩
  · rename_i l m
    split at hf
    · rename_i ns ms h1 h2
      cases hf
      obtain ⟨a, vs, rfl, ha, r⟩ := rx
      obtain ⟨b, us, rfl, hb, t⟩ := ry
      rw [ints_rep h1 r] at ha
      rw [ints_rep h2 t] at hb
      exact .inr ⟨a, b, ns, ms, rfl, rfl, le.sqt ha.sqt, le.sqt hb.sqt, q _ F H (Grw.refl le) rfl⟩
    · cases hf
  · cases hf
/-! ### displays -/
def mL : List (M D) → Fr → Option (List D × Fr)
  | [], σ => some ([], σ)
  | m :: ms, σ => match m σ with
    | some (d, σ1) => (match mL ms σ1 with
      | some (ds, σ2) => some (d :: ds, σ2)
      | none => none)
    | none => none
def tL (X : Cx) (ct : Ct) : List (M D) → TA
  | [] => tNil
  | m :: ms => tCons (rdE X ct m) (tL X ct ms)
abbrev SEs (X : Cx) (ct : Ct) (es : List Expr) (ms : List (M D)) : Prop := PA X es (tL X ct ms)
theorem tL_ok {F H : Hp} {σV : St} {σ' : Fr} : ∀ {ms : List (M D)} {F H : Hp} {σ : Fr} {ds : List D} {R : List V → Hp → Prop}, Wd X.K ct F H σV σ → mL ms σ = some (ds, σ') →
    (∀ vs H' F', Stp X.K ct F H σV σ F' H' σV σ' → DReps X.K ct F' ds vs → R vs H') → tL X ct ms σV H R
  | [], F, H, σ, ds, R, w, e, h => by
    cases e
    exact h [] H F (Stp.refl w) rfl
  | m :: ms, F, H, σ, ds, R, w, e, h => by
    unfold mL at e
    split at e
    · rename_i d σ1 h1
      split at e
      · rename_i ds' σ2 h2
        cases e
        exact ⟨F, σ, w, d, σ1, h1, fun v H1 F1 st r => tL_ok (F := F1) (H := H1) st.w h2 fun vs H2 F2 st2 rs => h (v :: vs) H2 F2 (st.trans st2) ⟨v, vs, rfl, DRep.mono st2.le d v r, rs⟩⟩
      · cases e
    · cases e
def mTup (ms : List (M D)) : M S := fun σ => match mL ms σ with
  | some (ds, σ') => if ds.length ≤ LIM then some (.imm (.tup (dictable ds) ds), σ') else none
  | none => none
def mLst (ms : List (M D)) : M S := fun σ => match mL ms σ with
  | some (ds, σ') => if ds.length ≤ LIM then some (.ls false ds, σ') else none
  | none => none
variable {es : List Expr} {e : Expr} {pos : Pos} {ms : List (M D)} {m : M D}
theorem ses_nil : SEs X ct [] [] := pa_nil
theorem ses_cons (h : SE X ct e m) (hs : SEs X ct es ms) (hst : starEach (e :: es) X.env = (false, eval e X.env) :: starEach es X.env := by rfl) : SEs X ct (e :: es) (m :: ms) := pa_cons h hs hst
theorem sf_tup {x1} (h : SEs X ct es ms) : SF X ct (.Tuple es x1 pos) (mTup ms) := PEimp (pe_tupK h) fun σV H Q ⟨F, σ, w, s, σ', e, q⟩ => by
  unfold mTup at e
  split at e
  · rename_i ds σ1 h1
    split at e
    · rename_i hl
      cases e
      refine tL_ok (F := F) (H := H) w h1 fun vs H1 F1 st rs => ⟨by rw [← rs.length, ← LIM_eq]; exact hl, dictable ds, fun p o hp ho => ?_⟩
      have g := Grw.new (o := o) st.w.le hp ho.notbl
      exact q _ _ _ (st.trans (g.stp st.w)) ⟨p, vs, rfl, ho.at upd_same, DReps.mono g.le _ _ rs⟩
    · cases e
  · cases e
theorem sf_lst (h : SEs X ct es ms) : SF X ct (.List es pos) (mLst ms) := PEimp (pe_lst h) fun σV H Q ⟨F, σ, w, s, σ', e, q⟩ => by
  unfold mLst at e
  split at e
  · rename_i ds σ1 h1
    split at e
    · rename_i hl
      cases e
      refine tL_ok (F := F) (H := H) w h1 fun vs H1 F1 st rs => ⟨by rw [← rs.length, ← LIM_eq]; exact hl, fun p hp => ?_⟩
      have g := Grw.lay (o := .lst vs) st.w.le hp
      exact q _ _ _ (st.trans (g.stp st.w)) (GRep.fresh st g (s := .ls false ds) ⟨rfl, p, vs, rfl, hp, st.w.le.none hp, upd_same, rs⟩)
    · cases e
  · cases e
/-! ### slices -/
inductive Pt where
  | no | at_ (m : M D)
def Pt.go : Pt → Fr → Option (Option Int × Fr)
  | .no, σ => some (none, σ)
  | .at_ m, σ => match m σ with
    | some (.int i, σ') => some (some i, σ')
    | _ => none
def Pt.rd (X : Cx) (ct : Ct) : Pt → TO
  | .no => tNoPart
  | .at_ m => tPart (rdE X ct m)
abbrev SO (X : Cx) (ct : Ct) (e : Option Expr) (p : Pt) : Prop := PO X e (p.rd X ct)
theorem so_no : SO X ct none .no := po_none
theorem so_at (h : SE X ct e m) : SO X ct (some e) (.at_ m) := po_some h
theorem Pt.ok {F H : Hp} {σV : St} {σ σ' : Fr} {o : Option Int} (w : Wd X.K ct F H σV σ) : ∀ {p : Pt}, p.go σ = some (o, σ') → ∀ {R : Option Int → Hp → Prop}, (∀ H' F', Stp X.K ct F H σV σ F' H' σV σ' → R o H') → p.rd X ct σV H R
  | .no, e, R, h => by cases e; exact h H F (Stp.refl w)
  | .at_ m, e, R, h => by
    have e : (match m σ with | some (.int i, σ') => some (some i, σ') | _ => none) = some (o, σ') := e
    split at e
    · rename_i i σ1 h1
      cases e
      exact ⟨F, σ, w, _, _, h1, fun v H1 F1 st r => ⟨i, r, h H1 F1 st⟩⟩
    · cases e
def dCut {α : Type} (xs : List α) (lo hi : Option Int) : List α := (xs.drop (HT.sIx xs.length 0 lo)).take (HT.sIx xs.length xs.length hi - HT.sIx xs.length 0 lo)
def fSl (d : D) (lo hi : Option Int) : Option S := match d with
  | .lst l => some (.ls false (dCut l lo hi))
  | .tup k l => some (.imm (.tup (if HT.sIx l.length 0 lo = 0 ∧ HT.sIx l.length l.length hi = l.length then k else dictable (dCut l lo hi)) (dCut l lo hi)))
  | .scr l => some (.ls false ((dCut l lo hi).map D.int))
  | _ => none
def mSl (a : A) (lo hi : Pt) : M S := fun σ => match a.go σ with
  | some (x, σ1) => (match lo.go σ1 with
    | some (l, σ2) => (match hi.go σ2 with
      | some (u, σ3) => (match a.fin x σ3 with
        | some d => (match fSl d l u with
          | some s => some (s, σ3)
          | none => none)
        | none => none)
      | none => none)
    | none => none)
  | none => none
abbrev rSlAny (K : PySem.W.Frag) : V → Option Int → Option Int → Hp → VK → Prop := fun x lo hi H Q => rSlL K x lo hi H Q ∨ rSlK K x lo hi H Q
theorem cut_rep {K F} {l : List D} {vs : List V} (r : DReps K ct F l vs) (lo hi : Option Int) : DReps K ct F (dCut l lo hi) (cutV vs lo hi) := by
  unfold dCut cutV
  rw [r.length]
  exact (r.drop _).take _
theorem cut_all {α : Type} {l : List α} {lo hi : Option Int} (h : HT.sIx l.length 0 lo = 0 ∧ HT.sIx l.length l.length hi = l.length) : dCut l lo hi = l := by
  unfold dCut
  rw [h.1, h.2]
  simp
theorem sf_sl {a : Expr} {a' : A} {lo hi : Option Expr} {lo' hi' : Pt} {p2 : Pos} (ha : AE X ct a a') (hl : SO X ct lo lo') (hu : SO X ct hi hi') : SF X ct (.Subscript a (.Slice lo hi none p2) pos) (mSl a' lo' hi') :=
  PEimp (pe_slice (sl_list.or sl_tupK) ha hl hu) fun σV H Q ⟨F, σ, w, s, σ', e, q⟩ => by
  unfold mSl at e
  split at e
  · rename_i x σ1 h1
    split at e
    · rename_i l σ2 h2
      split at e
      · rename_i u σ3 h3
        split at e
        · rename_i d h4
          split at e
          · rename_i s' h5
            cases e
            refine A.ok w h1 fun v H1 F1 st1 r1 => Pt.ok st1.w h2 fun H2 F2 st2 => Pt.ok st2.w h3 fun H3 F3 st3 => ?_
            have st := (st1.trans st2).trans st3
            have rv := A.view st3.w (A.res_mono (st2.trans st3).le r1) h4
            unfold fSl at h5
            split at h5
            · rename_i m
              cases h5
              obtain ⟨b, vs, rfl, hb, r⟩ := rv
              refine .inl ⟨b, vs, rfl, SqL.of hb, fun p hp => ?_⟩
              have g := Grw.lay (o := .lst (cutV vs l u)) st.w.le hp
              exact q _ _ _ (st.trans (g.stp st.w)) (GRep.fresh st g (s := .ls false _) ⟨rfl, p, _, rfl, hp, st.w.le.none hp, upd_same, cut_rep r l u⟩)
            · rename_i k m
              cases h5
              obtain ⟨b, vs, rfl, hb, r⟩ := rv
              refine .inr ⟨b, vs, rfl, st.w.le.sqt hb.sqt, fun z => ?_, fun z => ⟨dictable (dCut m l u), fun p o hp ho => ?_⟩⟩
              · rw [← r.length] at z
                refine q _ _ _ st ?_
                show DRep _ _ _ (.tup (if _ then _ else _) _) _
                rw [if_pos z, cut_all z]
                exact ⟨b, vs, rfl, hb, r⟩
              · have g := Grw.new (o := o) st.w.le hp ho.notbl
                rw [← r.length] at z
                refine q _ _ _ (st.trans (g.stp st.w)) ?_
                show DRep _ _ _ (.tup (if _ then _ else _) _) _
                rw [if_neg z]
                exact ⟨p, _, rfl, ho.at upd_same, DReps.mono g.le _ _ (cut_rep r l u)⟩
            · rename_i m
              cases h5
              obtain ⟨b, rfl, hb⟩ := rv
              refine .inl ⟨b, _, rfl, st.w.le.sql hb, fun p hp => ?_⟩
              have g := Grw.lay (o := .lst (cutV (m.map V.int) l u)) st.w.le hp
              have er : DReps X.K ct F3 ((dCut m l u).map D.int) (cutV (m.map V.int) l u) := by
                have e0 : cutV (m.map V.int) l u = (dCut m l u).map V.int := by
                  unfold cutV dCut
                  simp only [List.length_map, List.map_take, List.map_drop]
                rw [e0]
                exact ints_map _
              exact q _ _ _ (st.trans (g.stp st.w)) (GRep.fresh st g (s := .ls false _) ⟨rfl, p, _, rfl, hp, st.w.le.none hp, upd_same, er⟩)
            · cases h5
          · cases e
        · cases e
      · cases e
    · cases e
  · cases e
end
end Ev
end

section
set_option Elab.async false
set_option linter.all false
/-! Ev6: statements: their readings, blocks, names set, tests, returns. -/
namespace Ev
open PySem PySem.Spec L2
set_option autoImplicit false
inductive Fl where
  | nx | br | ct | rt (s : S)
/-- what a returned value is -/
def RRep (K : PySem.W.Frag) (ct : Ct) (H : Hp) (σV : St) (σ : Fr) (F' H' : Hp) (σV' : St) (σ' : Fr) : S → V → Prop
  | .imm d, v => DRep K ct F' d v
  | s, v => s.io = false ∧ SRep K ct F' H' s v ∧ ∀ a, v = .ref a → ¬ Own σV' σ' a ∧ (H a = none ∨ Own σV σ a)
def FlR (K : PySem.W.Frag) (ct : Ct) (H : Hp) (σV : St) (σ : Fr) (F' H' : Hp) (σV' : St) (σ' : Fr) : Fl → V → Prop
  | .rt s, v => RRep K ct H σV σ F' H' σV' σ' s v
  | _, v => v = .non
def _root_.L2.Ends.to (D : Ends) : Fl → V → St → Hp → Prop
  | .nx, _, σ, H => D.nx σ H
  | .br, _, σ, H => D.bk σ H
  | .ct, _, σ, H => D.ct σ H
  | .rt _, v, _, H => D.rt v H
def rdS (X : Cx) (ct : Ct) (m : M Fl) : TS := fun D σV H => ∃ F σ, Wd X.K ct F H σV σ ∧ ∃ f σ', m σ = some (f, σ') ∧
  ∀ v σV' H' F', Stp X.K ct F H σV σ F' H' σV' σ' → FlR X.K ct H σV σ F' H' σV' σ' f v → D.to f v σV' H'
abbrev SS (X : Cx) (ct : Ct) (st : Stmt) (m : M Fl) : Prop := PS X st (rdS X ct m)
abbrev SSs (X : Cx) (ct : Ct) (st : List Stmt) (m : M Fl) : Prop := PSs X st (rdS X ct m)
section
variable {K : PySem.W.Frag} {ct : Ct} {F H F1 H1 F2 H2 : Hp} {σV σV1 σV2 : St} {σ σ1 σ2 : Fr}
theorem FRep.ret : ∀ {s : S} {v : V}, FRep K ct H σV σ F1 H1 σ1 s v → RRep K ct H σV σ F1 H1 σV σ1 s v
  | .imm _, _, r => r
  | .ls _ _, _, r => r
  | .ds _ _ _, _, r => r
  | .prv, _, r => r
theorem RRep.step (st : Stp K ct F H σV σ F1 H1 σV1 σ1) : ∀ {s : S} {v : V}, RRep K ct H1 σV1 σ1 F2 H2 σV2 σ2 s v → RRep K ct H σV σ F2 H2 σV2 σ2 s v
  | .imm _, _, r => r
  | .ls _ _, _, ⟨h1, h2, h3⟩ => ⟨h1, h2, fun a e => ⟨(h3 a e).1, (h3 a e).2.elim (fun z => .inl (st.there a z)) fun z => (st.own a z).symm⟩⟩
  | .ds _ _ _, _, ⟨h1, h2, h3⟩ => ⟨h1, h2, fun a e => ⟨(h3 a e).1, (h3 a e).2.elim (fun z => .inl (st.there a z)) fun z => (st.own a z).symm⟩⟩
  | .prv, _, ⟨h1, h2, h3⟩ => ⟨h1, h2, fun a e => ⟨(h3 a e).1, (h3 a e).2.elim (fun z => .inl (st.there a z)) fun z => (st.own a z).symm⟩⟩
theorem FlR.step (st : Stp K ct F H σV σ F1 H1 σV1 σ1) : ∀ {f : Fl} {v : V}, FlR K ct H1 σV1 σ1 F2 H2 σV2 σ2 f v → FlR K ct H σV σ F2 H2 σV2 σ2 f v
  | .rt _, _, r => RRep.step st r
  | .nx, _, r => r
  | .br, _, r => r
  | .ct, _, r => r
end
/-- may this slot be set -/
def okSet (σ : Fr) (i : Nat) : Bool := decide (i < σ.length) && (match σ[i]? with
  | some (some s) => !s.io
  | _ => true)
section
variable {K : PySem.W.Frag} {ct : Ct} {F H F' H' : Hp} {σV : St} {σ σ' : Fr}
theorem okSet_io {i : Nat} (h : okSet σ i = true) : ∀ s, σ[i]? = some (some s) → s.io = false := fun s e => by
  unfold okSet at h
  rw [Bool.and_eq_true, e] at h
  simpa using h.2
theorem okSet_lt {i : Nat} (h : okSet σ i = true) : i < σ.length := by
  unfold okSet at h
  rw [Bool.and_eq_true] at h
  exact of_decide_eq_true h.1
theorem FRep.addr : ∀ {s : S} {v : V}, FRep K ct H σV σ F' H' σ' s v → s.own = true → ∀ a, v = .ref a → ¬ Own σV σ' a ∧ (H a = none ∨ Own σV σ a)
  | .imm _, _, _, o => by cases o
  | .ls _ _, _, r, _ => r.2.2
  | .ds _ _ _, _, r, _ => r.2.2
theorem FRep.io : ∀ {s : S} {v : V}, FRep K ct H σV σ F' H' σ' s v → s.io = false
  | .imm _, _, _ => rfl
  | .ls _ _, _, r => r.1
  | .ds _ _ _, _, r => r.1
theorem FRep.srep : ∀ {s : S} {v : V}, FRep K ct H σV σ F' H' σ' s v → SRep K ct F' H' s v
  | .imm _, _, r => r
  | .ls _ _, _, r => r.2.1
  | .ds _ _ _, _, r => r.2.1
/-- a slot is set to a fresh or deep thing -/
theorem Stp.set (st : Stp K ct F H σV σ F' H' σV σ') {i : Nat} {s : S} {v : V} (r : FRep K ct H σV σ F' H' σ' s v) (h : okSet σ' i = true) : Stp K ct F H σV σ F' H' (σV.set i (some v)) (σ'.set i (some s)) where
  w := by
    have hi := okSet_lt h
    have hv : i < σV.length := Nat.lt_of_lt_of_le hi st.w.ln
    have sv : (σV.set i (some v))[i]? = some (some v) := by rw [List.getElem?_set_self hv]
    have nv : ∀ j, j ≠ i → (σV.set i (some v))[j]? = σV[j]? := fun j hj => by rw [List.getElem?_set_ne (Ne.symm hj)]
    refine ⟨st.w.le, fun j t e => ?_, fun j k t t' a ej ek to to' aj ak => ?_, by simp; exact st.w.ln, st.w.tb, st.w.nt⟩
    · rcases set_get e with ⟨rfl, rfl⟩ | ⟨hj, e⟩
      · exact ⟨v, sv, r.srep⟩
      · obtain ⟨u, e1, q⟩ := st.w.slot j t e
        exact ⟨u, by rw [nv j hj]; exact e1, q⟩
    · rcases set_get ej with ⟨rfl, rfl⟩ | ⟨hj, fj⟩
      · rcases set_get ek with ⟨rfl, rfl⟩ | ⟨hk, fk⟩
        · rfl
        · rw [sv] at aj; cases aj
          rw [nv k hk] at ak
          exact absurd ⟨k, t', fk, to', ak⟩ (r.addr to a rfl).1
      · rcases set_get ek with ⟨rfl, rfl⟩ | ⟨hk, fk⟩
        · rw [sv] at ak; cases ak
          rw [nv j hj] at aj
          exact absurd ⟨j, t, fj, to, aj⟩ (r.addr to' a rfl).1
        · rw [nv j hj] at aj
          rw [nv k hk] at ak
          exact st.w.dis j k t t' a fj fk to to' aj ak
  le := st.le
  keep := st.keep
  there := st.there
  froz := st.froz
  own := fun a ⟨j, t, ej, to, aj⟩ => by
    rcases set_get ej with ⟨rfl, rfl⟩ | ⟨hj, ej⟩
    · rw [List.getElem?_set_self (Nat.lt_of_lt_of_le (okSet_lt h) st.w.ln)] at aj; cases aj
      exact (r.addr to a rfl).2.symm
    · rw [List.getElem?_set_ne (Ne.symm hj)] at aj
      exact st.own a ⟨j, t, ej, to, aj⟩
  io := fun j t ej tio => by
    obtain ⟨⟨t', e', o'⟩, ev⟩ := st.io j t ej tio
    have hj : j ≠ i := fun z => by subst z; rw [okSet_io h t' e'] at o'; cases o'
    exact ⟨⟨t', by rw [List.getElem?_set_ne (Ne.symm hj)]; exact e', o'⟩, by rw [List.getElem?_set_ne (Ne.symm hj)]⟩
  len := by simp; exact st.len
end
section
variable {X : Cx} {ct : Ct} {pos : Pos} {e c : Expr} {st : Stmt} {rest body orelse : List Stmt}
def mNx : M Fl := fun σ => some (.nx, σ)
def mBr : M Fl := fun σ => some (.br, σ)
def mCt : M Fl := fun σ => some (.ct, σ)
def mNo : M Fl := fun _ => none
def mSeq (m n : M Fl) : M Fl := fun σ => match m σ with
  | some (.nx, σ') => n σ'
  | some (.br, σ') => some (.br, σ')
  | some (.ct, σ') => some (.ct, σ')
  | some (.rt s, σ') => some (.rt s, σ')
  | none => none
variable {m n : M Fl}
theorem sss_nil : SSs X ct [] mNx := PSsimp pss_nil fun D σV H ⟨F, σ, w, f, σ', e, q⟩ => by
  cases e
  exact q .non σV H F (Stp.refl w) rfl
theorem ss_pass : SS X ct (.Pass pos) mNx := PSimp ps_pass fun D σV H ⟨F, σ, w, f, σ', e, q⟩ => by
  cases e
  exact q .non σV H F (Stp.refl w) rfl
theorem ss_break : SS X ct (.Break pos) mBr := PSimp ps_break fun D σV H ⟨F, σ, w, f, σ', e, q⟩ => by
  cases e
  exact q .non σV H F (Stp.refl w) rfl
theorem ss_continue : SS X ct (.Continue pos) mCt := PSimp ps_continue fun D σV H ⟨F, σ, w, f, σ', e, q⟩ => by
  cases e
  exact q .non σV H F (Stp.refl w) rfl
theorem ss_no : SS X ct st mNo := PSimp ps_never fun D σV H ⟨F, σ, w, f, σ', e, q⟩ => by cases e
theorem sss_no : SSs X ct rest mNo := PSsimp pss_never fun D σV H ⟨F, σ, w, f, σ', e, q⟩ => by cases e
theorem sss_cons (h : SS X ct st m) (hs : SSs X ct rest n) : SSs X ct (st :: rest) (mSeq m n) := PSsimp (pss_cons h hs) fun D σV H ⟨F, σ, w, f, σ', e, q⟩ => by
  unfold mSeq at e
  split at e
  · rename_i σ1 h1
    exact ⟨F, σ, w, _, _, h1, fun v σV1 H1 F1 st1 _ => ⟨F1, σ1, st1.w, _, _, e, fun v2 σV2 H2 F2 st2 r => q v2 σV2 H2 F2 (st1.trans st2) (r.step st1)⟩⟩
  all_goals first
    | (rename_i h1; cases e; exact ⟨F, σ, w, _, _, h1, fun v σV1 H1 F1 st1 r => q v σV1 H1 F1 st1 r⟩)
    | cases e
theorem sss_one (h : SS X ct st m) : SSs X ct [st] m := pss_one h
def mDrop (m : M S) : M Fl := fun σ => match m σ with
  | some (_, σ') => some (.nx, σ')
  | none => none
theorem ss_expr {m : M S} (h : SF X ct e m) (hs : swapsWith e none pos.line X.env = pure false := by rfl) : SS X ct (.Expr e pos) (mDrop m) := PSimp (ps_expr h hs) fun D σV H ⟨F, σ, w, f, σ', e, q⟩ => by
  unfold mDrop at e
  split at e
  · rename_i s σ1 h1
    cases e
    exact ⟨F, σ, w, _, _, h1, fun v H1 F1 st1 r => q .non σV H1 F1 st1 rfl⟩
  · cases e
theorem ss_doc {x j pos'} : SS X ct (.Expr (.Constant (.str x) j pos) pos') mNx := PSimp ps_doc fun D σV H ⟨F, σ, w, f, σ', e, q⟩ => by
  cases e
  exact q .non σV H F (Stp.refl w) rfl
def mRet (m : M S) : M Fl := fun σ => match m σ with
  | some (s, σ') => some (.rt s, σ')
  | none => none
theorem ss_ret {m : M S} (h : SF X ct e m) : SS X ct (.Return (some e) pos) (mRet m) := PSimp (ps_ret h) fun D σV H ⟨F, σ, w, f, σ', e, q⟩ => by
  unfold mRet at e
  split at e
  · rename_i s σ1 h1
    cases e
    exact ⟨F, σ, w, _, _, h1, fun v H1 F1 st1 r => q v σV H1 F1 st1 r.ret⟩
  · cases e
def mRetN : M Fl := fun σ => some (.rt (.imm .non), σ)
theorem ss_retN : SS X ct (.Return none pos) mRetN := PSimp ps_retN fun D σV H ⟨F, σ, w, f, σ', e, q⟩ => by
  cases e
  exact q .non σV H F (Stp.refl w) rfl
theorem ss_if {t : M Bool} (hc : ST X ct c t) (ha : SSs X ct body m) (hb : SSs X ct orelse n) : SS X ct (.If c body orelse pos) (mIf t m n) := PSimp (ps_if hc ha hb) fun D σV H ⟨F, σ, w, f, σ', e, q⟩ => by
  unfold mIf at e
  split at e
  · rename_i σ1 h1
    refine ⟨F, σ, w, _, _, h1, fun H1 F1 st1 => ?_⟩
    refine iteT ?_
    exact ⟨F1, σ1, st1.w, _, _, e, fun v σV2 H2 F2 st2 r => q v σV2 H2 F2 (st1.trans st2) (r.step st1)⟩
  · rename_i σ1 h1
    refine ⟨F, σ, w, _, _, h1, fun H1 F1 st1 => ?_⟩
    refine iteF ?_
    exact ⟨F1, σ1, st1.w, _, _, e, fun v σV2 H2 F2 st2 r => q v σV2 H2 F2 (st1.trans st2) (r.step st1)⟩
  · cases e
/-- name = value -/
def mSet (i : Nat) (m : M S) : M Fl := fun σ => match m σ with
  | some (s, σ') => if okSet σ' i = true then some (.nx, σ'.set i (some s)) else none
  | none => none
theorem ss_set {i : Nat} {x : Str} {m : M S} {pos' : Pos} (hN : X.N.Nodup) (hi : X.N[i]? = some x) (hx : Loc X.env.scope x) (h : SF X ct e m) (hs : swapsWith e (some (.Name x pos')) pos.line X.env = pure false := by rfl)
    (hf : X.fn x = true ∨ X.env.scope.names.lookup x = some .local := by first | exact .inl rfl | exact .inr rfl | assumption) : SS X ct (.Assign [.Name x pos'] e pos) (mSet i m) := PSimp (ps_set hN hi hx h hs hf) fun D σV H ⟨F, σ, w, f, σ', e, q⟩ => by
  unfold mSet at e
  split at e
  · rename_i s σ1 h1
    split at e
    · rename_i ho
      cases e
      exact ⟨F, σ, w, _, _, h1, fun v H1 F1 st1 r => q .non _ H1 F1 (st1.set r ho) rfl⟩
    · cases e
  · cases e
/-- name op= value, ints -/
def mAug (i : Nat) (p : Int → Int → Int) (m : M D) : M Fl := fun σ => match σ[i]? with
  | some (some (.imm (.int x))) => (match m σ with
    | some (.int y, σ') => if okSet σ' i = true then some (.nx, σ'.set i (some (.imm (.int (p x y))))) else none
    | _ => none)
  | _ => none
theorem ss_aug {i : Nat} {x : Str} {m : M D} {op : Operator} {p : Int → Int → Int} {pos' : Pos} (hN : X.N.Nodup) (hi : X.N[i]? = some x) (hx : Loc X.env.scope x) (h : SE X ct e m) (ho : PIp X op (ipI p))
    (hf : X.fn x = true ∨ X.env.scope.names.lookup x = some .local := by first | exact .inl rfl | exact .inr rfl | assumption) : SS X ct (.AugAssign (.Name x pos') op e pos) (mAug i p m) := PSimp (ps_aug hN hi hx h ho hf) fun D σV H ⟨F, σ, w, f, σ', e, q⟩ => by
  unfold mAug at e
  split at e
  · rename_i y h1
    split at e
    · rename_i z σ1 h2
      split at e
      · rename_i hk
        cases e
        obtain ⟨v, e1, r1⟩ := w.slot i _ h1
        refine ⟨v, e1, F, σ, w, _, _, h2, fun u H1 F1 st1 r2 => ?_⟩
        refine ⟨y, z, r1, r2, ?_⟩
        exact q .non _ H1 F1 (st1.set (s := .imm (.int (p y z))) (v := .int (p y z)) rfl hk) rfl
      · cases e
    · cases e
  · cases e
end
/-! ### targets -/
inductive Tg where
  | nm (i : Nat) | tp (l : List Tg)
mutual
def Tg.put : Tg → D → Fr → Option Fr
  | .nm i, d, σ => if okSet σ i = true then some (σ.set i (some (.imm d))) else none
  | .tp ts, .tup _ ds, σ => Tg.puts ts ds σ
  | .tp ts, .lst ds, σ => Tg.puts ts ds σ
  | .tp _, _, _ => none
def Tg.puts : List Tg → List D → Fr → Option Fr
  | [], [], σ => some σ
  | t :: ts, d :: ds, σ => (match Tg.put t d σ with
    | some σ' => Tg.puts ts ds σ'
    | none => none)
  | _, _, _ => none
end
mutual
def Tg.vs : Tg → List Nat
  | .nm i => [i]
  | .tp ts => Tg.vss ts
def Tg.vss : List Tg → List Nat
  | [] => []
  | t :: ts => t.vs ++ Tg.vss ts
end
/-- but for some slots the same -/
def Chg (vs : List Nat) (σV σV' : St) : Prop := σV'.length = σV.length ∧ ∀ i, i ∉ vs → σV'[i]? = σV[i]?
theorem Chg.refl {vs : List Nat} {σV : St} : Chg vs σV σV := ⟨rfl, fun _ _ => rfl⟩
theorem Chg.trans {vs us : List Nat} {σV σV1 σV2 : St} (h : Chg vs σV σV1) (k : Chg us σV1 σV2) : Chg (vs ++ us) σV σV2 :=
  ⟨k.1.trans h.1, fun i n => (k.2 i fun z => n (List.mem_append_right _ z)).trans (h.2 i fun z => n (List.mem_append_left _ z))⟩
theorem Chg.set {i : Nat} {σV : St} {v : Option V} : Chg [i] σV (σV.set i v) := ⟨by simp, fun j n => by rw [List.getElem?_set_ne (fun z => n (by simp [z]))]⟩
def gRd (K : PySem.W.Frag) (ct : Ct) (T : Tg) : TG := fun v σV H Q => ∃ F σ d σ', Wd K ct F H σV σ ∧ DRep K ct F d v ∧ T.put d σ = some σ' ∧ ∀ σV', Stp K ct F H σV σ F H σV' σ' → Chg T.vs σV σV' → Q σV' H
def gRds (K : PySem.W.Frag) (ct : Ct) (T : List Tg) : TGs := fun vs σV H Q => ∃ F σ ds σ', Wd K ct F H σV σ ∧ DReps K ct F ds vs ∧ Tg.puts T ds σ = some σ' ∧ ∀ σV', Stp K ct F H σV σ F H σV' σ' → Chg (Tg.vss T) σV σV' → Q σV' H
abbrev SG (X : Cx) (ct : Ct) (e : Expr) (T : Tg) : Prop := PG X e (gRd X.K ct T)
abbrev SGs (X : Cx) (ct : Ct) (e : List Expr) (T : List Tg) : Prop := PGs X e (gRds X.K ct T)
theorem PGimp {X : Cx} {e : Expr} {t t' : TG} (h : PG X e t) (i : ∀ v σ H Q, t' v σ H Q → t v σ H Q) : PG X e t' := ⟨fun pins s σ H v u Q I r q => h.run pins s σ H v u Q I r (i v σ H Q q)⟩
theorem PGsimp {X : Cx} {e : List Expr} {t t' : TGs} (h : PGs X e t) (i : ∀ v σ H Q, t' v σ H Q → t v σ H Q) : PGs X e t' := ⟨fun pins s σ H v u Q I r q => h.run pins s σ H v u Q I r (i v σ H Q q)⟩
section
variable {X : Cx} {ct : Ct} {pos : Pos}
theorem sg_nm {i : Nat} {x : Str} (hN : X.N.Nodup) (hi : X.N[i]? = some x) (hx : Loc X.env.scope x) (hf : X.fn x = true ∨ X.env.scope.names.lookup x = some .local := by first | exact .inl rfl | exact .inr rfl | assumption) : SG X ct (.Name x pos) (.nm i) :=
  PGimp (pg_name hN hi hx hf) fun v σV H Q ⟨F, σ, d, σ', w, r, e, q⟩ => by
  simp only [Tg.put] at e
  split at e
  · rename_i ho
    cases e
    exact q _ ((Stp.refl w).set (s := .imm d) (v := v) r ho) Chg.set
  · cases e
theorem sgs_nil : SGs X ct [] [] := PGsimp pgs_nil fun vs σV H Q ⟨F, σ, ds, σ', w, r, e, q⟩ => by
  cases ds with
  | nil => simp only [Tg.puts] at e; cases e; exact ⟨r, q _ (Stp.refl w) Chg.refl⟩
  | cons d ds => simp [Tg.puts] at e
theorem sgs_cons {e : Expr} {es : List Expr} {T : Tg} {Ts : List Tg} (h : SG X ct e T) (hs : SGs X ct es Ts) (h1 : (assignEach (e :: es) X.env).map (·.2) = assign e X.env :: (assignEach es X.env).map (·.2) := by rfl) : SGs X ct (e :: es) (T :: Ts) :=
  PGsimp (pgs_cons h hs h1) fun vs σV H Q ⟨F, σ, ds, σ', w, r, e, q⟩ => by
  cases ds with
  | nil => simp [Tg.puts] at e
  | cons d ds =>
    obtain ⟨v, t, rfl, r1, r2⟩ := r
    simp only [Tg.puts] at e
    split at e
    · rename_i σ1 h1
      exact ⟨v, t, rfl, F, σ, d, σ1, w, r1, h1, fun σV1 st1 c1 => ⟨F, σ1, ds, σ', st1.w, r2, e, fun σV2 st2 c2 => q σV2 (st1.trans st2) (by simp only [Tg.vss]; exact c1.trans c2)⟩⟩
    · cases e
theorem puts_len : ∀ {ts : List Tg} {ds : List D} {σ σ' : Fr}, Tg.puts ts ds σ = some σ' → ts.length = ds.length
  | [], [], _, _, _ => rfl
  | [], _ :: _, _, _, h => by simp [Tg.puts] at h
  | _ :: _, [], _, _, h => by simp [Tg.puts] at h
  | t :: ts, d :: ds, σ, σ', h => by
    simp only [Tg.puts] at h
    split at h
    · rw [List.length_cons, List.length_cons, puts_len h]
    · cases h
theorem PGor {X : Cx} {e : Expr} {t t' : TG} (h : PG X e t) (h' : PG X e t') : PG X e fun v σ H Q => t v σ H Q ∨ t' v σ H Q := ⟨fun pins s σ H v u Q I r q => q.elim (h.run pins s σ H v u Q I r) (h'.run pins s σ H v u Q I r)⟩
theorem sg_tp {es : List Expr} {k : Nat} {Ts : List Tg} (hc : X.calm = true) (h : SGs X ct es Ts) (hn : (assignEach es X.env).length = Ts.length := by rfl) (hst : (assignEach es X.env).findIdx? (·.1) = none := by rfl) : SG X ct (.Tuple es k pos) (.tp Ts) :=
  PGimp (PGor (pg_tup hc h hn hst) (pg_lst hc h hn hst)) fun v σV H Q ⟨F, σ, d, σ', w, r, e, q⟩ => by
  cases d with
  | tup kb ds =>
    simp only [Tg.put] at e
    obtain ⟨a, vs, rfl, ha, rs⟩ := r
    exact .inl ⟨a, vs, rfl, w.le.sqt ha.sqt, by rw [← rs.length, puts_len e], F, σ, ds, σ', w, rs, e, by simpa only [Tg.vs] using q⟩
  | lst ds =>
    simp only [Tg.put] at e
    obtain ⟨a, vs, rfl, ha, rs⟩ := r
    exact .inr ⟨a, vs, rfl, SqL.of (w.le _ _ ha), by rw [← rs.length, puts_len e], F, σ, ds, σ', w, rs, e, by simpa only [Tg.vs] using q⟩
  | _ => simp [Tg.put] at e
/-- target = a deep value -/
def mAsg (T : Tg) (m : M D) : M Fl := fun σ => match m σ with
  | some (d, σ') => (match T.put d σ' with
    | some σ2 => some (.nx, σ2)
    | none => none)
  | none => none
theorem ss_asg {tg e : Expr} {T : Tg} {m : M D} (he : SE X ct e m) (hg : SG X ct tg T) (hs : swapsWithSole [tg] e pos.line X.env = pure false := by rfl) (hw : swappedStores [tg] e X.env = pure none := by rfl)
    (h1 : (assignEach [tg] X.env).map (·.2) = [assign tg X.env] := by rfl) : SS X ct (.Assign [tg] e pos) (mAsg T m) := PSimp (ps_asg he hg hs hw h1) fun D σV H ⟨F, σ, w, f, σ', e, q⟩ => by
  unfold mAsg at e
  split at e
  · rename_i d σ1 h1
    split at e
    · rename_i σ2 h2
      cases e
      exact ⟨F, σ, w, _, _, h1, fun v H1 F1 st1 r => ⟨F1, σ1, d, _, st1.w, r, h2, fun σV2 st2 _ => q .non σV2 H1 F1 (st1.trans st2) rfl⟩⟩
    · cases e
  · cases e
/-- a, b = x, y -/
def mPar (i j : Nat) (ms : List (M D)) : M Fl := fun σ => match mL ms σ with
  | some ([d, e], σ') => (match Tg.put (.nm i) d σ' with
    | some σ2 => (match Tg.put (.nm j) e σ2 with
      | some σ3 => some (.nx, σ3)
      | none => none)
    | none => none)
  | _ => none
theorem ss_par {i j : Nat} {x y : Str} {a b : Expr} {ms : List (M D)} {px py pt : Pos} {kt k2 pt2} (hc : X.calm = true) (hN : X.N.Nodup) (hi : X.N[i]? = some x) (hj : X.N[j]? = some y) (hij : i ≠ j)
    (hx : X.env.scope.names.lookup x = some .local) (hy : X.env.scope.names.lookup y = some .local) (ha : SEs X ct [a, b] ms)
    (hw : swappedStores [.Tuple [.Name x px, .Name y py] kt pt] (.Tuple [a, b] k2 pt2) X.env = pure (some [x, y]))
    (hs : swapsWithSole [.Tuple [.Name x px, .Name y py] kt pt] (.Tuple [a, b] k2 pt2) pos.line X.env = pure false := by rfl) :
    SS X ct (.Assign [.Tuple [.Name x px, .Name y py] kt pt] (.Tuple [a, b] k2 pt2) pos) (mPar i j ms) := PSimp (ps_par hc hN hi hj hij hx hy ha hw hs) fun D σV H ⟨F, σ, w, f, σ', e, q⟩ => by
  unfold mPar at e
  split at e
  · rename_i d e' σ1 h1
    split at e
    · rename_i σ2 h2
      split at e
      · rename_i σ3 h3
        cases e
        refine tL_ok (F := F) (H := H) w h1 fun vs H1 F1 st1 r => ?_
        obtain ⟨v, t, rfl, r1, u, t2, rfl, r2, rfl⟩ := r
        refine ⟨v, u, rfl, ?_⟩
        simp only [Tg.put] at h2 h3
        split at h2
        · rename_i ho
          cases h2
          split at h3
          · rename_i ho2
            cases h3
            have s1 := st1.set (s := .imm d) (v := v) r1 ho
            have s2 := (Stp.refl s1.w).set (s := .imm e') (v := u) r2 ho2
            exact q .non _ H1 F1 (s1.trans s2) rfl
          · cases h3
        · cases h2
      · cases e
    · cases e
  · cases e
end
end Ev
end

section
set_option Elab.async false
set_option linter.all false
/-! Ev7: loops: for, while, comprehensions. -/
namespace Ev
open PySem PySem.Spec L2
set_option autoImplicit false
/-- an iterator over deep things -/
def WalkD (K : PySem.W.Frag) (ct : Ct) (F : Hp) (J : It) (ds : List D) : Prop := ∃ (G : Hp → Prop) (Y : Nat → Hp → V → Hp → Prop), Walk J ds.length G Y ∧ (∀ H, Le F H → G H) ∧
  ∀ F2 i H x H', Le F F2 → Le F2 H → i < ds.length → Y i H x H' → ∃ F3 d, Grw F2 H F3 H' ∧ ds[i]? = some d ∧ DRep K ct F3 d x
abbrev MI := Fr → Option (List D × Fr)
def iRd (X : Cx) (ct : Ct) (it : MI) : TI := fun σV H R => ∃ F σ, Wd X.K ct F H σV σ ∧ ∃ ds σ', it σ = some (ds, σ') ∧ ∀ J H' F', Stp X.K ct F H σV σ F' H' σV σ' → WalkD X.K ct F' J ds → R J H'
abbrev SI (X : Cx) (ct : Ct) (tg iter : Expr) (it : MI) : Prop := PI X tg iter (iRd X ct it)
theorem PIimp {X : Cx} {tg e : Expr} {t t' : TI} (h : PI X tg e t) (i : ∀ σ H R, t' σ H R → t σ H R) : PI X tg e t' := ⟨fun pins s σ H R I q => h.run pins s σ H R I (i σ H R q)⟩
theorem PIor {X : Cx} {tg e : Expr} {t t' : TI} (h : PI X tg e t) (h' : PI X tg e t') : PI X tg e fun σ H R => t σ H R ∨ t' σ H R := ⟨fun pins s σ H R I q => q.elim (h.run pins s σ H R I) (h'.run pins s σ H R I)⟩
def lpF (T : Tg) (b : M Fl) : List D → M Fl
  | [], σ => some (.nx, σ)
  | d :: ds, σ => match T.put d σ with
    | some σ1 => (match b σ1 with
      | some (.nx, σ2) => lpF T b ds σ2
      | some (.ct, σ2) => lpF T b ds σ2
      | some (.br, σ2) => some (.nx, σ2)
      | some (.rt s, σ2) => some (.rt s, σ2)
      | none => none)
    | none => none
def mFor (it : MI) (T : Tg) (b : M Fl) : M Fl := fun σ => match it σ with
  | some (ds, σ1) => lpF T b ds σ1
  | none => none
section
variable {X : Cx} {ct : Ct} {pos : Pos} {tg iter c : Expr} {body : List Stmt}
theorem drop_at {α : Type} {l : List α} {i : Nat} {d : α} (h : l[i]? = some d) : l.drop i = d :: l.drop (i + 1) := by
  obtain ⟨hi, e⟩ := List.getElem?_eq_some_iff.mp h
  rw [List.drop_eq_getElem_cons hi, e]
theorem ss_for {it : MI} {T : Tg} {b : M Fl} (hp : PassesOwn (model X.prog X.w) X.A X.env X.xe) (hc : X.calm = true) (hi : SI X ct tg iter it) (hg : SG X ct tg T) (hb : SSs X ct body b)
    (hs : ∀ x, foldedSetIterable iter X.env x = pure x := by intro _; rfl) : SS X ct (.For tg iter body [] pos) (mFor it T b) := PSimp (ps_for hp hc hi hg hb hs) fun D σV H ⟨F, σ, w, f, σ', e, q⟩ => by
  unfold mFor at e
  split at e
  · rename_i ds σ1 h1
    refine ⟨F, σ, w, ds, σ1, h1, fun J H1 F1 st1 ⟨G, Y, wk, hG, hY⟩ => ?_⟩
    refine for_it wk (fun i σVi Hi => ∃ Fi σi, Stp X.K ct F H σV σ Fi Hi σVi σi ∧ Le F1 Fi ∧ lpF T b (ds.drop i) σi = some (f, σ')) ⟨F1, σ1, st1, Le.refl F1, e⟩ (fun i σVi Hi _ ⟨Fi, σi, sti, lei, _⟩ => hG Hi (lei.trans sti.w.le)) ?_ ?_
    · rintro i x σVi Hi H' hlt ⟨Fi, σi, sti, lei, hl⟩ y
      obtain ⟨F3, d, gr, hd, rd⟩ := hY Fi i Hi x H' lei sti.w.le hlt y
      rw [drop_at hd] at hl
      have st3 := sti.trans (gr.stp sti.w)
      simp only [lpF] at hl
      split at hl
      · rename_i σ2 h2
        refine ⟨F3, σi, d, σ2, st3.w, rd, h2, fun σV2 st2 _ => ?_⟩
        have st4 := st3.trans st2
        have le4 := lei.trans gr.le
        split at hl
        · rename_i σ3 h3
          exact ⟨F3, σ2, st2.w, _, _, h3, fun v σV3 H3 F3' st5 r => ⟨F3', _, st4.trans st5, le4.trans st5.le, hl⟩⟩
        · rename_i σ3 h3
          exact ⟨F3, σ2, st2.w, _, _, h3, fun v σV3 H3 F3' st5 r => ⟨F3', _, st4.trans st5, le4.trans st5.le, hl⟩⟩
        · rename_i σ3 h3
          cases hl
          exact ⟨F3, σ2, st2.w, _, _, h3, fun v σV3 H3 F3' st5 r => q .non σV3 H3 F3' (st4.trans st5) rfl⟩
        · rename_i s σ3 h3
          cases hl
          exact ⟨F3, σ2, st2.w, _, _, h3, fun v σV3 H3 F3' st5 r => q v σV3 H3 F3' (st4.trans st5) (RRep.step st4 r)⟩
        · cases hl
      · cases hl
    · rintro σVi Hi ⟨Fi, σi, sti, lei, hl⟩
      rw [List.drop_length] at hl
      simp only [lpF] at hl
      cases hl
      exact q .non σVi Hi Fi sti rfl
  · cases e
/-! ### while -/
def lpW (t : M Bool) (b : M Fl) : Nat → M Fl
  | 0, _ => none
  | n + 1, σ => match t σ with
    | some (true, σ1) => (match b σ1 with
      | some (.nx, σ2) => lpW t b n σ2
      | some (.ct, σ2) => lpW t b n σ2
      | some (.br, σ2) => some (.nx, σ2)
      | some (.rt s, σ2) => some (.rt s, σ2)
      | none => none)
    | some (false, σ1) => some (.nx, σ1)
    | none => none
theorem ss_while {t : M Bool} {b : M Fl} {n : Nat} (hp : PassesOwn (model X.prog X.w) X.A X.env X.xe) (hc : ST X ct c t) (hb : SSs X ct body b) : SS X ct (.While c body [] pos) (lpW t b n) := PSimp (ps_while hp hc hb) fun D σV H ⟨F, σ, w, f, σ', e, q⟩ => by
  refine ⟨fun m σVi Hi => ∃ Fi σi, Stp X.K ct F H σV σ Fi Hi σVi σi ∧ lpW t b m σi = some (f, σ'), ⟨n, F, σ, Stp.refl w, e⟩, ?_⟩
  rintro m σVi Hi ⟨Fi, σi, sti, hl⟩
  cases m with
  | zero => cases hl
  | succ m =>
    simp only [lpW] at hl
    split at hl
    · rename_i σ1 h1
      refine ⟨Fi, σi, sti.w, _, _, h1, fun H1 F1 st1 => iteT ?_⟩
      refine ⟨fun σV2 H2 => ∃ F2 σ2, Stp X.K ct F H σV σ F2 H2 σV2 σ2 ∧ lpW t b m σ2 = some (f, σ'), fun σV2 H2 z => ⟨m, Nat.lt_succ_self m, z⟩, ?_⟩
      have st2 := sti.trans st1
      split at hl
      · rename_i σ3 h3
        exact ⟨F1, σ1, st1.w, _, _, h3, fun v σV3 H3 F3 st3 r => ⟨F3, _, st2.trans st3, hl⟩⟩
      · rename_i σ3 h3
        exact ⟨F1, σ1, st1.w, _, _, h3, fun v σV3 H3 F3 st3 r => ⟨F3, _, st2.trans st3, hl⟩⟩
      · rename_i σ3 h3
        cases hl
        exact ⟨F1, σ1, st1.w, _, _, h3, fun v σV3 H3 F3 st3 r => q .non σV3 H3 F3 (st2.trans st3) rfl⟩
      · rename_i s σ3 h3
        cases hl
        exact ⟨F1, σ1, st1.w, _, _, h3, fun v σV3 H3 F3 st3 r => q v σV3 H3 F3 (st2.trans st3) (RRep.step st2 r)⟩
      · cases hl
    · rename_i σ1 h1
      cases hl
      exact ⟨Fi, σi, sti.w, _, _, h1, fun H1 F1 st1 => iteF (q .non σVi H1 F1 (sti.trans st1) rfl)⟩
    · cases hl
end
/-! ### the slots of a block hidden -/
def hide (σ : Fr) : List Nat → Fr
  | [] => σ
  | v :: vs => (hide σ vs).set v none
/-- shown again -/
def shown (σ' σ : Fr) (vs : List Nat) : Fr := σ'.mapIdx fun i s => if vs.contains i then σ.getD i none else s
theorem hide_len {σ : Fr} : ∀ {vs : List Nat}, (hide σ vs).length = σ.length
  | [] => rfl
  | v :: vs => by unfold hide; rw [List.length_set, hide_len]
theorem hide_some {σ : Fr} {i : Nat} {s : S} : ∀ {vs : List Nat}, (hide σ vs)[i]? = some (some s) → i ∉ vs ∧ σ[i]? = some (some s)
  | [], h => ⟨by simp, h⟩
  | v :: vs, h => by
    unfold hide at h
    obtain ⟨h1, h2⟩ := set_getN h
    obtain ⟨h3, h4⟩ := hide_some h2
    exact ⟨by simp only [List.mem_cons, not_or]; exact ⟨h1, h3⟩, h4⟩
theorem hide_out {σ : Fr} {i : Nat} : ∀ {vs : List Nat}, i ∉ vs → (hide σ vs)[i]? = σ[i]?
  | [], _ => rfl
  | v :: vs, h => by
    simp only [List.mem_cons, not_or] at h
    unfold hide
    rw [List.getElem?_set_ne (Ne.symm h.1), hide_out h.2]
theorem shown_get {σ' σ : Fr} {vs : List Nat} (hl : σ'.length = σ.length) (i : Nat) : (shown σ' σ vs)[i]? = if vs.contains i = true then σ[i]? else σ'[i]? := by
  unfold shown
  rw [List.getElem?_mapIdx]
  by_cases h : vs.contains i = true
  · simp only [h, if_true]
    by_cases hi : i < σ.length
    · rw [List.getElem?_eq_getElem (by omega : i < σ'.length), List.getElem?_eq_getElem hi]
      simp [List.getD, hi]
    · rw [List.getElem?_eq_none (by omega), List.getElem?_eq_none (by omega)]
      rfl
  · simp only [h]
    cases h2 : σ'[i]? <;> simp
theorem wipe_in {σ : St} {i : Nat} : ∀ {vs : List Nat}, i ∈ vs → (wipe σ vs)[i]? = if i < σ.length then some none else none
  | v :: vs, h => by
    unfold wipe
    by_cases hi : v = i
    · subst hi
      by_cases hv : v < σ.length
      · rw [List.getElem?_set_self (by rw [wipe_length]; exact hv), if_pos hv]
      · rw [List.getElem?_eq_none (by simp [wipe_length]; omega), if_neg hv]
    · rw [List.getElem?_set_ne hi]
      exact wipe_in ((List.mem_cons.mp h).resolve_left (Ne.symm hi))
theorem wipe_chg {us vs : List Nat} {σV σV' : St} (h : Chg us σV σV') (s : ∀ i ∈ us, i ∈ vs) : wipe σV' vs = wipe σV vs := by
  apply List.ext_getElem?
  intro i
  by_cases hi : i ∈ vs
  · rw [wipe_in hi, wipe_in hi, h.1]
  · rw [wipe_out hi, wipe_out hi, h.2 i fun z => hi (s i z)]
theorem hide_hide {σ : Fr} {vs : List Nat} : ∀ {i : Nat}, i ∈ vs → ∀ s, (hide σ vs)[i]? ≠ some (some s) := fun {i} hi s e => (hide_some e).1 hi
section
variable {K : PySem.W.Frag} {ct : Ct} {F H F' H' : Hp} {σV σV' : St} {σ σ' : Fr} {vs : List Nat}
theorem Own.of_hide {a : Addr} (h : Own (wipe σV vs) (hide σ vs) a) : Own σV σ a := by
  obtain ⟨i, s, e, so, ev⟩ := h
  obtain ⟨hi, e⟩ := hide_some e
  rw [wipe_out hi] at ev
  exact ⟨i, s, e, so, ev⟩
theorem Wd.hide (w : Wd K ct F H σV σ) : Wd K ct F H (wipe σV vs) (hide σ vs) where
  le := w.le
  slot := fun i s e => by
    obtain ⟨hi, e⟩ := hide_some e
    obtain ⟨v, e1, r⟩ := w.slot i s e
    exact ⟨v, by rw [wipe_out hi]; exact e1, r⟩
  dis := fun i j s t a ei ej si sj ai aj => by
    obtain ⟨hi, ei⟩ := hide_some ei
    obtain ⟨hj, ej⟩ := hide_some ej
    rw [wipe_out hi] at ai
    rw [wipe_out hj] at aj
    exact w.dis i j s t a ei ej si sj ai aj
  ln := by rw [wipe_length, hide_len]; exact w.ln
  tb := w.tb
  nt := w.nt
/-- a turn's end: the block's slots are forgotten -/
theorem Stp.forget (st : Stp K ct F H (wipe σV vs) (hide σ vs) F' H' σV' σ') (hw : wipe σV' vs = wipe σV vs) : Stp K ct F H (wipe σV vs) (Ev.hide σ vs) F' H' (wipe σV vs) (Ev.hide σ' vs) where
  w := hw ▸ st.w.hide
  le := st.le
  keep := st.keep
  there := st.there
  froz := st.froz
  own := fun a h => st.own a (Own.of_hide (vs := vs) (hw ▸ h))
  io := fun i s e o => by
    obtain ⟨⟨s', e', o'⟩, ev⟩ := st.io i s e o
    have hi := (hide_some e).1
    exact ⟨⟨s', by rw [hide_out hi]; exact e', o'⟩, rfl⟩
  len := by rw [hide_len]; exact st.len
/-- behind the block -/
theorem Stp.show (w : Wd K ct F H σV σ) (st : Stp K ct F H (wipe σV vs) (hide σ vs) F' H' (wipe σV vs) σ') : Stp K ct F H σV σ F' H' σV (shown σ' σ vs) := by
  have hl : σ'.length = σ.length := by rw [st.len, hide_len]
  have gi : ∀ i, i ∈ vs → (shown σ' σ vs)[i]? = σ[i]? := fun i hi => by rw [shown_get hl, if_pos (by simpa using hi)]
  have go : ∀ i, i ∉ vs → (shown σ' σ vs)[i]? = σ'[i]? := fun i hi => by rw [shown_get hl, if_neg (by simpa using hi)]
  have own2 : ∀ a, Own σV (shown σ' σ vs) a → Own σV σ a ∨ H a = none := fun a ⟨i, s, e, so, ev⟩ => by
    by_cases hi : i ∈ vs
    · rw [gi i hi] at e
      exact .inl ⟨i, s, e, so, ev⟩
    · rw [go i hi] at e
      exact (st.own a ⟨i, s, e, so, by rw [wipe_out hi]; exact ev⟩).imp Own.of_hide id
  have apart : ∀ i s a, i ∈ vs → σ[i]? = some (some s) → s.own = true → σV[i]? = some (some (.ref a)) → ¬ Own (wipe σV vs) (hide σ vs) a := fun i s a hi e so ev ⟨j, t, ej, to, aj⟩ => by
    obtain ⟨hj, ej⟩ := hide_some ej
    rw [wipe_out hj] at aj
    exact hj (w.dis i j s t a e ej so to ev aj ▸ hi)
  refine ⟨⟨st.w.le, fun i s e => ?_, fun i j s t a ei ej si sj ai aj => ?_, by rw [show (shown σ' σ vs).length = σ.length by unfold shown; simp [hl]]; exact w.ln, st.w.tb, st.w.nt⟩, st.le, fun a o h n => st.keep a o h fun z => n (Own.of_hide z), st.there, fun a h => ?_, own2, fun i s e o => ?_, by unfold shown; simp [hl]⟩
  · by_cases hi : i ∈ vs
    · rw [gi i hi] at e
      obtain ⟨v, e1, r⟩ := w.slot i s e
      refine ⟨v, e1, r.keep st.le fun so a ea => ?_⟩
      subst ea
      have ap := apart i s a hi e so e1
      obtain ⟨fa, u, ha, nt⟩ := w.own ⟨i, s, e, so, e1⟩
      refine ⟨?_, ((st.keep a u ha ap).eq nt.2.1).trans ha.symm⟩
      cases q : F' a with
      | none => rfl
      | some o =>
        rcases st.froz a (by rw [q]; simp) with z | z | z | ⟨xs, z⟩
        · exact absurd fa z
        · rw [ha] at z; cases z
        · exact absurd z ap
        · rw [ha] at z; cases z; exact absurd rfl (nt.1 xs)
    · rw [go i hi] at e
      obtain ⟨v, e1, r⟩ := st.w.slot i s e
      rw [wipe_out hi] at e1
      exact ⟨v, e1, r⟩
  · by_cases hi : i ∈ vs
    · rw [gi i hi] at ei
      by_cases hj : j ∈ vs
      · rw [gi j hj] at ej
        exact w.dis i j s t a ei ej si sj ai aj
      · rw [go j hj] at ej
        rcases st.own a ⟨j, t, ej, sj, by rw [wipe_out hj]; exact aj⟩ with z | z
        · exact absurd z (apart i s a hi ei si ai)
        · obtain ⟨_, u, ha, _⟩ := w.own ⟨i, s, ei, si, ai⟩
          rw [ha] at z; cases z
    · rw [go i hi] at ei
      by_cases hj : j ∈ vs
      · rw [gi j hj] at ej
        rcases st.own a ⟨i, s, ei, si, by rw [wipe_out hi]; exact ai⟩ with z | z
        · exact absurd z (apart j t a hj ej sj aj)
        · obtain ⟨_, u, ha, _⟩ := w.own ⟨j, t, ej, sj, aj⟩
          rw [ha] at z; cases z
      · rw [go j hj] at ej
        exact st.w.dis i j s t a ei ej si sj (by rw [wipe_out hi]; exact ai) (by rw [wipe_out hj]; exact aj)
  · rcases st.froz a h with z | z | z | z
    · exact .inl z
    · exact .inr (.inl z)
    · exact .inr (.inr (.inl (Own.of_hide z)))
    · exact .inr (.inr (.inr z))
  · by_cases hi : i ∈ vs
    · exact ⟨⟨s, by rw [gi i hi]; exact e, o⟩, rfl⟩
    · obtain ⟨⟨s', e', o'⟩, _⟩ := st.io i s (by rw [hide_out hi]; exact e) o
      exact ⟨⟨s', by rw [go i hi]; exact e', o'⟩, rfl⟩
end
end Ev
end

section
set_option Elab.async false
set_option linter.all false
/-! Ev8: comprehensions. -/
namespace Ev
open PySem PySem.Spec L2
set_option autoImplicit false
section
variable {K : PySem.W.Frag} {ct : Ct} {F H F' H' : Hp} {σV σV' : St} {σ σ' : Fr} {vs : List Nat}
/-- a new thing that no slot has is changed -/
theorem Stp.poke (st : Stp K ct F H σV σ F' H' σV' σ') {p : Addr} {o o0 : HO} (h0 : H p = none) (fp : F' p = none) (np : ¬ Own σV' σ' p) (hp : H' p = some o0) (n0 : Nt o0) : Stp K ct F H σV σ F' (upd H' p o) σV' σ' where
  w := ⟨fun a u e => by
      rw [upd_ne fun z => by subst z; rw [fp] at e; cases e]; exact st.w.le a u e, fun i s e => by
      obtain ⟨v, e1, r⟩ := st.w.slot i s e
      refine ⟨v, e1, r.keep (Le.refl F') fun so a ea => ?_⟩
      subst ea
      have o : Own σV' σ' a := ⟨i, s, e, so, e1⟩
      exact ⟨(st.w.own o).1, by rw [upd_ne fun z => np (by subst z; exact o)]⟩, st.w.dis, st.w.ln, fun p hp => tab_upd ‹_› n0 (st.w.tb p hp), st.w.nt⟩
  le := st.le
  keep := fun a u h n => by
    unfold Kp
    rw [upd_ne fun z => by subst z; rw [h0] at h; cases h]; exact st.keep a u h n
  there := fun a h => st.there a (upd_none h)
  froz := st.froz
  own := st.own
  io := st.io
  len := st.len
/-- what no slot has stays so -/
theorem Stp.apart (st : Stp K ct F H σV σ F' H' σV' σ') {p : Addr} {o : HO} (h : H p = some o) (fp : F p = none) (np : ¬ Own σV σ p) (nt : Nt o := by first | exact Nt.lst | exact Nt.dK | exact Nt.dT | exact Nt.ins | exact Nt.own | assumption) : H' p = some o ∧ F' p = none ∧ ¬ Own σV' σ' p := by
  refine ⟨(st.keep p o h np).eq nt.2.1, ?_, fun z => (st.own p z).elim np fun q => by rw [h] at q; cases q⟩
  cases q : F' p with
  | none => rfl
  | some u =>
    rcases st.froz p (by rw [q]; simp) with z | z | z | ⟨xs, z⟩
    · exact absurd fp z
    · rw [h] at z; cases z
    · exact absurd z np
    · rw [h] at z; cases z; exact absurd rfl (nt.1 xs)
theorem wipe_wipe {σV : St} {vs : List Nat} : wipe (wipe σV vs) vs = wipe σV vs := by
  apply List.ext_getElem?
  intro i
  by_cases hi : i ∈ vs
  · rw [wipe_in hi, wipe_in hi, wipe_length]
  · rw [wipe_out hi, wipe_out hi]
end
def mYes : M Bool := fun σ => some (true, σ)
abbrev STs (X : Cx) (ct : Ct) (ifs : List Expr) (t : M Bool) : Prop := PTs X ifs (rdT X ct t)
theorem sts_nil {X : Cx} {ct : Ct} : STs X ct [] mYes := ⟨fun pins s σV H Q I ⟨F, σ, w, b, σ', e, q⟩ => by
  cases e
  exact pts_nil.run pins s σV H Q I (q H F (Stp.refl w))⟩
theorem sts_one {X : Cx} {ct : Ct} {c : Expr} {t : M Bool} (h : ST X ct c t) : STs X ct [c] t := pts_one h
def lpC (T : Tg) (tt : M Bool) (te : M D) (vs : List Nat) : List D → Fr → Option (List D × Fr)
  | [], σ => some ([], σ)
  | d :: ds, σ => match T.put d σ with
    | some σ1 => (match tt σ1 with
      | some (true, σ2) => (match te σ2 with
        | some (x, σ3) => (match lpC T tt te vs ds (hide σ3 vs) with
          | some (xs, σ4) => some (x :: xs, σ4)
          | none => none)
        | none => none)
      | some (false, σ2) => lpC T tt te vs ds (hide σ2 vs)
      | none => none)
    | none => none
def mLc (it : MI) (T : Tg) (tt : M Bool) (te : M D) (vs : List Nat) : M S := fun σ => match it σ with
  | some (ds, σ1) => if ds.length ≤ LIM then (match lpC T tt te vs ds (hide σ1 vs) with
    | some (xs, σ2) => some (.ls false xs, shown σ2 σ1 vs)
    | none => none) else none
  | none => none
section
variable {X : Cx} {ct : Ct} {pos spos : Pos} {elt tg iter : Expr} {ifs : List Expr} {scope : Scope} {own : List (Str × Nat)}
theorem lc_imp {σV : St} {H : Hp} {Q : VK} {it : MI} {T : Tg} {tt : M Bool} {te : M D} {vs : List Nat} (hT : ∀ i ∈ T.vs, i ∈ vs) (h : rdF X ct (mLc it T tt te vs) σV H Q) :
    tLc (iRd X ct it) (gRd X.K ct T) (rdT X ct tt) (rdE X ct te) vs σV H Q := by
  obtain ⟨F, σ, w, s, σ', e, q⟩ := h
  unfold mLc at e
  split at e
  · rename_i ds σ1 h1
    split at e
    · rename_i hl
      split at e
      · rename_i all σe h2
        cases e
        refine ⟨F, σ, w, ds, σ1, h1, fun J H1 F1 st1 ⟨G, Y, wk, hG, hY⟩ D hD => ?_⟩
        have w1 := st1.w
        have wh : Wd X.K ct F1 H1 (wipe σV vs) (hide σ1 vs) := w1.hide
        have fD := w1.le.none hD
        have nD : ¬ Own (wipe σV vs) (hide σ1 vs) D := fun o => by obtain ⟨_, u, z, _⟩ := wh.own o; rw [hD] at z; cases z
        refine lc_it wk (fun i Hi => ∃ Fi σi accD accV xs, Stp X.K ct F1 H1 (wipe σV vs) (hide σ1 vs) Fi Hi (wipe σV vs) σi ∧ Le F1 Fi ∧ Hi D = some (.lst accV) ∧ Fi D = none ∧ ¬ Own (wipe σV vs) σi D ∧
          DReps X.K ct Fi accD accV ∧ accD.length ≤ i ∧ lpC T tt te vs (ds.drop i) σi = some (xs, σe) ∧ accD ++ xs = all) ?_ (fun i Hi _ ⟨Fi, σi, _, _, _, sti, lei, _⟩ => hG Hi (lei.trans sti.w.le)) ?_ ?_
        · exact ⟨F1, hide σ1 vs, [], [], all, Stp.lay wh hD, Le.refl F1, upd_same, fD, nD, rfl, Nat.le_refl 0, h2, rfl⟩
        · rintro i x Hi H' hlt ⟨Fi, σi, accD, accV, xs, sti, lei, hDi, fDi, nDi, ra, la, hp, ha⟩ y
          obtain ⟨F3, d, gr, hd, rd⟩ := hY Fi i Hi x H' lei sti.w.le hlt y
          rw [drop_at hd] at hp
          have g3 := gr.stp sti.w
          simp only [lpC] at hp
          split at hp
          · rename_i σ2 hp2
            refine ⟨F3, σi, d, σ2, g3.w, rd, hp2, fun σV2 st2 c2 => ?_⟩
            have ew : wipe σV2 vs = wipe σV vs := by rw [wipe_chg c2 hT, wipe_wipe]
            refine ⟨ew, ?_⟩
            split at hp
            · rename_i σ3 h3
              refine ⟨F3, σ2, st2.w, _, _, h3, fun H4 F4 st4 => iteT ?_⟩
              split at hp
              · rename_i z σ4 h4
                split at hp
                · rename_i xs' σ5 h5
                  cases hp
                  refine ⟨F4, σ3, st4.w, z, σ4, h4, fun v H5 F5 st5 rv => ?_⟩
                  have turn := (g3.trans (st2.trans st4)).trans st5
                  obtain ⟨hD5, fD5, nD5⟩ := turn.apart hDi fDi nDi
                  have tot := (sti.trans turn).forget ew
                  have nD6 : ¬ Own (wipe σV vs) (hide σ4 vs) D := fun o => nD5 (Own.of_hide (vs := vs) (ew ▸ o))
                  refine ⟨accV, hD5, ?_, F5, hide σ4 vs, accD ++ [z], accV ++ [v], xs', tot.poke hD fD5 nD6 hD5 Nt.lst, lei.trans turn.le, upd_same, fD5, nD6, DReps.append (DReps.mono turn.le _ _ ra) (DReps.one rv), by simp; exact la, h5, by rw [← ha]; simp⟩
                  rw [← ra.length]
                  have : ds.length ≤ sizeLine := by rw [← LIM_eq]; exact hl
                  omega
                · cases hp
              · cases hp
            · rename_i σ3 h3
              refine ⟨F3, σ2, st2.w, _, _, h3, fun H4 F4 st4 => iteF ?_⟩
              have turn := g3.trans (st2.trans st4)
              obtain ⟨hD5, fD5, nD5⟩ := turn.apart hDi fDi nDi
              have tot := (sti.trans turn).forget ew
              have nD6 : ¬ Own (wipe σV vs) (hide σ3 vs) D := fun o => nD5 (Own.of_hide (vs := vs) (ew ▸ o))
              exact ⟨F4, hide σ3 vs, accD, accV, xs, tot, lei.trans turn.le, hD5, fD5, nD6, DReps.mono turn.le _ _ ra, Nat.le_succ_of_le la, hp, ha⟩
            · cases hp
          · cases hp
        · rintro Hi ⟨Fi, σi, accD, accV, xs, sti, lei, hDi, fDi, nDi, ra, la, hp, ha⟩
          rw [List.drop_length] at hp
          simp only [lpC] at hp
          cases hp
          rw [List.append_nil] at ha
          subst ha
          have tot := Stp.show w1 sti
          refine q _ Hi Fi (st1.trans tot) ⟨rfl, ⟨D, accV, rfl, fDi, hDi, ra⟩, fun a ea => ?_⟩
          cases ea
          refine ⟨fun o => ?_, .inl (st1.there D hD)⟩
          rcases tot.own D o with z | z
          · obtain ⟨_, u, z, _⟩ := w1.own z; rw [hD] at z; cases z
          · obtain ⟨j, t, ej, to, aj⟩ := o
            by_cases hj : j ∈ vs
            · rw [shown_get (by rw [sti.len, hide_len]), if_pos (by simpa using hj)] at ej
              obtain ⟨_, u, z2, _⟩ := w1.own ⟨j, t, ej, to, aj⟩; rw [hD] at z2; cases z2
            · rw [shown_get (by rw [sti.len, hide_len]), if_neg (by simpa using hj)] at ej
              exact nDi ⟨j, t, ej, to, by rw [wipe_out hj]; exact aj⟩
      · cases e
    · cases e
  · cases e
theorem sf_lc {it : MI} {T : Tg} {tt : M Bool} {te : M D} (hc : X.calm = true) (hN : X.N.Nodup) (hi : SI X ct tg iter it) (ok : BlkOk X.N X.env.scope scope own)
    (hg : ∀ (s : Shared) (H : Hp) (C : Addr) (cl : List (Str × Addr)) (fp : List Addr), SG (X.blk s H scope (compEnvC scope cl C X.env) fp) ct tg T) (ht : ∀ (s : Shared) (H : Hp) (C : Addr) (cl : List (Str × Addr)) (fp : List Addr), STs (X.blk s H scope (compEnvC scope cl C X.env) fp) ct ifs tt)
    (he : ∀ (s : Shared) (H : Hp) (C : Addr) (cl : List (Str × Addr)) (fp : List Addr), SE (X.blk s H scope (compEnvC scope cl C X.env) fp) ct elt te) (hT : ∀ i ∈ T.vs, i ∈ own.map (·.2) := by decide) (hs : ∀ x, foldedSetIterable iter X.env x = pure x := by intro _; rfl) :
    SF X ct (.ListComp elt [⟨tg, iter, ifs, 0⟩] scope pos) (mLc it T tt te (own.map (·.2))) := PEimp (pe_lc hc hN hi ok hg ht he hs) fun σV H Q h => lc_imp hT h
theorem ss_setLc {i : Nat} {y : Str} {py : Pos} {it : MI} {T : Tg} {tt : M Bool} {te : M D} (hc : X.calm = true) (hN : X.N.Nodup) (hy : X.N[i]? = some y) (hyl : X.env.scope.names.lookup y = some .local)
    (hsw : swapsWith (.ListComp elt [⟨tg, iter, ifs, 0⟩] scope pos) (some (.Name y py)) spos.line X.env = pure true) (hi : SI X ct tg iter it) (ok : BlkOk X.N X.env.scope scope own)
    (hg : ∀ (s : Shared) (H : Hp) (C : Addr) (cl : List (Str × Addr)) (fp : List Addr), SG (X.blk s H scope (compEnvC scope cl C X.env) fp) ct tg T) (ht : ∀ (s : Shared) (H : Hp) (C : Addr) (cl : List (Str × Addr)) (fp : List Addr), STs (X.blk s H scope (compEnvC scope cl C X.env) fp) ct ifs tt)
    (he : ∀ (s : Shared) (H : Hp) (C : Addr) (cl : List (Str × Addr)) (fp : List Addr), SE (X.blk s H scope (compEnvC scope cl C X.env) fp) ct elt te) (hT : ∀ i ∈ T.vs, i ∈ own.map (·.2) := by decide) (hs : ∀ x, foldedSetIterable iter X.env x = pure x := by intro _; rfl) :
    SS X ct (.Assign [.Name y py] (.ListComp elt [⟨tg, iter, ifs, 0⟩] scope pos) spos) (mSet i (mLc it T tt te (own.map (·.2)))) := PSimp (ps_setLc hc hN hy hyl hsw hi ok hg ht he hs) fun D σV H ⟨F, σ, w, f, σ', e, q⟩ => by
  refine lc_imp (X := X) (ct := ct) (it := it) (T := T) (tt := tt) (te := te) hT ?_
  unfold mSet at e
  split at e
  · rename_i s σ1 h1
    split at e
    · rename_i ho
      cases e
      exact ⟨F, σ, w, _, _, h1, fun v H1 F1 st1 r => q .non _ H1 F1 (st1.set r ho) rfl⟩
    · cases e
  · cases e
/-! ### dicts of ints, texts -/
def lpDc (T : Tg) (tt : M Bool) (tk tv : M D) (vs : List Nat) : List D → List (D × D) → Fr → Option (List (D × D) × Fr)
  | [], acc, σ => some (acc, σ)
  | d :: ds, acc, σ => match T.put d σ with
    | some σ1 => (match tt σ1 with
      | some (true, σ2) => (match tk σ2 with
        | some (k, σ3) => if k.isK = true then (match tv σ3 with
          | some (x, σ4) => lpDc T tt tk tv vs ds (dPut acc k x) (hide σ4 vs)
          | none => none) else none
        | none => none)
      | some (false, σ2) => lpDc T tt tk tv vs ds acc (hide σ2 vs)
      | none => none)
    | none => none
def mDc (it : MI) (T : Tg) (tt : M Bool) (tk tv : M D) (vs : List Nat) : M S := fun σ => match it σ with
  | some (ds, σ1) => if ds.length ≤ LIM then (match lpDc T tt tk tv vs ds [] (hide σ1 vs) with
    | some (xs, σ2) => some (.ds false false xs, shown σ2 σ1 vs)
    | none => none) else none
  | none => none
theorem dPut_len (l : List (D × D)) (k v : D) : (dPut l k v).length ≤ l.length + 1 := by
  unfold dPut
  split
  · simp
  · simp
theorem dc_imp {σV : St} {H : Hp} {Q : VK} {it : MI} {T : Tg} {tt : M Bool} {tk tv : M D} {vs : List Nat} (hT : ∀ i ∈ T.vs, i ∈ vs) (h : rdF X ct (mDc it T tt tk tv vs) σV H Q) :
    tDc (iRd X ct it) (gRd X.K ct T) (rdT X ct tt) (rdE X ct tk) (rdE X ct tv) vs σV H Q := by
  obtain ⟨F, σ, w, s, σ', e, q⟩ := h
  unfold mDc at e
  split at e
  · rename_i ds σ1 h1
    split at e
    · rename_i hl
      split at e
      · rename_i all σe h2
        cases e
        refine ⟨F, σ, w, ds, σ1, h1, fun J H1 F1 st1 ⟨G, Y, wk, hG, hY⟩ D hD => ?_⟩
        have w1 := st1.w
        have wh : Wd X.K ct F1 H1 (wipe σV vs) (hide σ1 vs) := w1.hide
        have fD := w1.le.none hD
        have nD : ¬ Own (wipe σV vs) (hide σ1 vs) D := fun o => by obtain ⟨_, u, z, _⟩ := wh.own o; rw [hD] at z; cases z
        let Pv : Nat → Hp → Prop := fun i Hi => ∃ Fi σi accD accV, Stp X.K ct F1 H1 (wipe σV vs) (hide σ1 vs) Fi Hi (wipe σV vs) σi ∧ Le F1 Fi ∧ Hi D = some (.dK accV) ∧ Fi D = none ∧ ¬ Own (wipe σV vs) σi D ∧
          GKv X.K ct Fi kD accD accV ∧ accD.length ≤ i ∧ lpDc T tt tk tv vs (ds.drop i) accD σi = some (all, σe)
        refine ⟨fun i m Hi => m = ds.length - i ∧ i ≤ ds.length ∧ Pv i Hi, ⟨ds.length, by simp, Nat.zero_le _, F1, hide σ1 vs, [], [], Stp.lay wh hD, Le.refl F1, upd_same, fD, nD, rfl, Nat.le_refl 0, h2⟩, ?_⟩
        rintro i m Hi ⟨rfl, hi', Fi, σi, accD, accV, sti, lei, hDi, fDi, nDi, ra, la, hp⟩
        by_cases hlt : i < ds.length
        · refine .inr ⟨wk.goes i Hi hlt (hG Hi (lei.trans sti.w.le)), Pv (i + 1), fun H' p' => ⟨ds.length - (i + 1), by omega, rfl, hlt, p'⟩, fun x H' y => ?_⟩
          obtain ⟨F3, d, gr, hd, rd⟩ := hY Fi i Hi x H' lei sti.w.le hlt (wk.yields i Hi x H' hlt (hG Hi (lei.trans sti.w.le)) y)
          rw [drop_at hd] at hp
          have g3 := gr.stp sti.w
          simp only [lpDc] at hp
          split at hp
          · rename_i σ2 hp2
            refine ⟨F3, σi, d, σ2, g3.w, rd, hp2, fun σV2 st2 c2 => ?_⟩
            have ew : wipe σV2 vs = wipe σV vs := by rw [wipe_chg c2 hT, wipe_wipe]
            refine ⟨ew, ?_⟩
            split at hp
            · rename_i σ3 h3
              refine ⟨F3, σ2, st2.w, _, _, h3, fun H4 F4 st4 => iteT ?_⟩
              split at hp
              · rename_i k σ4 h4
                split at hp
                · rename_i hk'
                  split at hp
                  · rename_i z σ5 h5
                    refine ⟨F4, σ3, st4.w, k, σ4, h4, fun u H5 F5 st5 ru => ⟨F5, σ4, st5.w, z, σ5, h5, fun v H6 F6 st6 rv => ?_⟩⟩
                    obtain ⟨kk, rfl⟩ := isK_of hk'
                    have turn := ((g3.trans (st2.trans st4)).trans st5).trans st6
                    obtain ⟨hD5, fD5, nD5⟩ := turn.apart hDi fDi nDi
                    have tot := (sti.trans turn).forget ew
                    have nD6 : ¬ Own (wipe σV vs) (hide σ5 vs) D := fun o => nD5 (Own.of_hide (vs := vs) (ew ▸ o))
                    have ra' := gkv_K.mp (DKv.mono turn.le _ _ (gkv_K.mpr ra))
                    refine ⟨accV, kk, kD_rep kk ru, hD5, ?_, F6, hide σ5 vs, dPut accD (kD kk) z, putK accV kk v, tot.poke hD fD5 nD6 hD5 Nt.dK, lei.trans turn.le, upd_same, fD5, nD6, put_G eqv_key rv ra', ?_, hp⟩
                    · rw [← len_G ra]
                      have : ds.length ≤ sizeLine := by rw [← LIM_eq]; exact hl
                      omega
                    · have := dPut_len accD (kD kk) z; omega
                  · cases hp
                · cases hp
              · cases hp
            · rename_i σ3 h3
              refine ⟨F3, σ2, st2.w, _, _, h3, fun H4 F4 st4 => iteF ?_⟩
              have turn := g3.trans (st2.trans st4)
              obtain ⟨hD5, fD5, nD5⟩ := turn.apart hDi fDi nDi
              have tot := (sti.trans turn).forget ew
              have nD6 : ¬ Own (wipe σV vs) (hide σ3 vs) D := fun o => nD5 (Own.of_hide (vs := vs) (ew ▸ o))
              exact ⟨F4, hide σ3 vs, accD, accV, tot, lei.trans turn.le, hD5, fD5, nD6, gkv_K.mp (DKv.mono turn.le _ _ (gkv_K.mpr ra)), Nat.le_succ_of_le la, hp⟩
            · cases hp
          · cases hp
        · have ei : i = ds.length := by omega
          subst ei
          refine .inl ⟨wk.stops Hi (hG Hi (lei.trans sti.w.le)), ?_⟩
          rw [List.drop_length] at hp
          simp only [lpDc] at hp
          cases hp
          have tot := Stp.show w1 sti
          refine q _ Hi Fi (st1.trans tot) ⟨rfl, ⟨D, _, rfl, fDi, hDi, .inl ⟨rfl, _, rfl, gkv_K.mpr ra⟩⟩, fun a ea => ?_⟩
          cases ea
          refine ⟨fun o => ?_, .inl (st1.there D hD)⟩
          obtain ⟨j, t, ej, to, aj⟩ := o
          by_cases hj : j ∈ vs
          · rw [shown_get (by rw [sti.len, hide_len]), if_pos (by simpa using hj)] at ej
            obtain ⟨_, u, z2, _⟩ := w1.own ⟨j, t, ej, to, aj⟩; rw [hD] at z2; cases z2
          · rw [shown_get (by rw [sti.len, hide_len]), if_neg (by simpa using hj)] at ej
            exact nDi ⟨j, t, ej, to, by rw [wipe_out hj]; exact aj⟩
      · cases e
    · cases e
  · cases e
theorem sf_dc {kx vx : Expr} {it : MI} {T : Tg} {tt : M Bool} {tk tv : M D} (hc : X.calm = true) (hN : X.N.Nodup) (hi : SI X ct tg iter it) (ok : BlkOk X.N X.env.scope scope own)
    (hg : ∀ (s : Shared) (H : Hp) (C : Addr) (cl : List (Str × Addr)) (fp : List Addr), SG (X.blk s H scope (compEnvC scope cl C X.env) fp) ct tg T) (ht : ∀ (s : Shared) (H : Hp) (C : Addr) (cl : List (Str × Addr)) (fp : List Addr), STs (X.blk s H scope (compEnvC scope cl C X.env) fp) ct ifs tt)
    (hk : ∀ (s : Shared) (H : Hp) (C : Addr) (cl : List (Str × Addr)) (fp : List Addr), SE (X.blk s H scope (compEnvC scope cl C X.env) fp) ct kx tk)
    (hv : ∀ (s : Shared) (H : Hp) (C : Addr) (cl : List (Str × Addr)) (fp : List Addr), SE (X.blk s H scope (compEnvC scope cl C X.env) fp) ct vx tv) (hT : ∀ i ∈ T.vs, i ∈ own.map (·.2) := by decide) (hs : ∀ x, foldedSetIterable iter X.env x = pure x := by intro _; rfl) :
    SF X ct (.DictComp kx vx [⟨tg, iter, ifs, 0⟩] scope pos) (mDc it T tt tk tv (own.map (·.2))) := PEimp (pe_dc hc hN hi ok hg ht hk hv hs) fun σV H Q h => dc_imp hT h
end
end Ev
end

section
set_option Elab.async false
set_option linter.all false
/-! EvI: iterators: any GoesN as a Turn; enumerate of anything, zip of anything, items and values of any dict. -/
namespace Ev
open PySem PySem.Spec L2
set_option autoImplicit false
section
variable {X : Cx} {pins : List (Addr × Obj)} {σ : St} {H : Hp} {s : Shared} {h' : Heap}
theorem inv_ch {t' : Nat} {ch : List Addr} (I : Inv X pins σ H s) (k : ∀ b o, b ∉ ch → s.heap.get? b = some o → h'.get? b = some o) (hf : ∀ b ∈ ch, FpOk X pins H b) : Inv X pins σ H { s with heap := h', toks := t' } := by
  have nit : ∀ b u, H b = some u → b ∉ ch := fun b u e z => by rw [(hf b z).1] at e; cases e
  refine I.step (g' := s.gens) (d' := s.drawn) (ch := ch) (fun b z => ⟨(hf b z).2.2.2.1, (hf b z).2.1, (hf b z).2.2.2.2.1, (hf b z).2.2.2.2.2⟩) (fun b o _ _ n e _ => k b o n e) (fun b o _ _ n e _ => ⟨o.slots, k b o n e⟩) (fun _ _ _ _ n => n)
    (fun b o n e => ⟨o, k b o n e⟩) (fun _ _ e => e) (fun _ _ _ e => e) (fun b ps e => ⟨#[], by rw [e]; simp⟩) (fun m hm => ?_) (fun b u e => ?_) I.bare
  · obtain ⟨o, es, ep, ho, r⟩ := hm
    exact ⟨o, es, ep, k _ o (fun z => (hf _ z).2.1 rfl) ho, r⟩
  · refine (I.hok b u e).stay (fun c v hc q => k c v ?_ q) (fun _ q => q) fun _ _ q => q
    rcases hc with z | z
    · rw [z]; exact nit b u e
    · exact nit c _ z
/-- what an iterator hands out: a thing that is there, or a new pair -/
def Hand (X : Cx) (J : It) (i : Nat) (H : Hp) (s : Shared) (v : Value) (h' : Heap) : Prop :=
  (∃ x, RelV x v ∧ J.yld i H x H) ∨ ∃ (T : Addr) (x y : V) (us : Array Value), v = .ref T ∧ s.heap.objs.size ≤ T ∧ Vals [x, y] us.toList ∧ h'.IsTuple T us ∧ (H T = none → J.yld i H (.ref T) (upd H T (.tup [x, y])))
theorem turn_goes {P : Program} {w : World} {K : PySem.W.Frag} {tg : Expr} {I : Addr} {wr : List Addr} {J : It} {tn : Nat → Heap → Prop} (hI : I ∈ wr) (obj : ∀ i h, tn i h → ∀ b ∈ wr, ∃ o, h.get? b = some o ∧ ∀ v, o.data ≠ .cell v)
    (keep : ∀ i h h', tn i h → (∀ b ∈ wr, ∀ o, h.get? b = some o → h'.get? b = some o) → tn i h')
    (go : ∀ (X : Cx) (i : Nat) (pins : List (Addr × Obj)) (s : Shared) (σ : St) (H : Hp), X.prog = P → X.w = w → X.K = K → X.calm = true → Inv X pins σ H s → tn i s.heap → J.go i H → ∃ n fp Y St, GoesN P w X.A tg I fp wr n Y St ∧ i < n ∧ St i s.heap ∧
      ∀ v h', Y i s.heap v h' → St (i + 1) h' → (∀ b o, b ∉ wr → s.heap.get? b = some o → h'.get? b = some o) → tn (i + 1) h' ∧ Hand X J i H s v h')
    (stop : ∀ (X : Cx) (i : Nat) (pins : List (Addr × Obj)) (s : Shared) (σ : St) (H : Hp), X.prog = P → X.w = w → X.K = K → X.calm = true → Inv X pins σ H s → tn i s.heap → J.stop i H → ∃ fp Y St, GoesN P w X.A tg I fp wr i Y St ∧ St i s.heap)
    (self : ∀ (A : Around) (i : Nat) (s : Shared) (Q : Value → Shared → Prop) (E : Value → Shared → Prop), tn i s.heap → Q (.ref I) s → wpAny (model P w) A (pyIter (.ref I)) Q E s) : Turn P w K tg J wr I tn where
  mem := hI
  obj := obj
  keep := keep
  item := fun X hP hw hK hc i pins s σ H E V hf st hg => by
    obtain ⟨n, fp, Y, St, G, hi, h0, hY⟩ := go X i pins s σ H hP hw hK hc V st hg
    subst hP hw hK
    refine wpAny_mono (G.goes i s (fun v s2 => ∃ x H', Inv X pins σ H' s2 ∧ RelV x v ∧ J.yld i H x H' ∧ tn (i + 1) s2.heap ∧ ∀ b ∈ wr, H' b = none) E hi h0 fun v h' tk y st' hk _ => ?_) (fun r s1 ⟨v, e, q⟩ => ⟨v, e, q⟩) fun _ _ z => z
    obtain ⟨t1, hd⟩ := hY v h' y st' hk
    rcases hd with ⟨x, rx, jy⟩ | ⟨T, x, y', us, rfl, hT, rv, ht, jy⟩
    · exact ⟨x, H, inv_ch V hk hf, rx, jy, t1, fun b hb => (hf b hb).1⟩
    · have nT : H T = none := V.hok.fresh hT
      have new : ObjOk X.prog X.w (upd H T (.tup [x, y'])) h' T (.tup [x, y']) := ⟨by show 2 ≤ sizeLine; decide, us.toList, rv, by rw [Array.toArray_toList]; exact ht⟩
      refine ⟨.ref T, _, V.turnedNew (ch := wr) hk hf hT new, rfl, jy nT, t1, fun b hb => ?_⟩
      obtain ⟨o, e, _⟩ := obj i _ st b hb
      rw [upd_ne (Nat.ne_of_lt (Nat.lt_of_lt_of_le (Heap.lt_size e) hT))]
      exact (hf b hb).1
  done := fun X hP hw hK hc i pins s σ H E V hf st hg => by
    obtain ⟨fp, Y, St, G, h0⟩ := stop X i pins s σ H hP hw hK hc V st hg
    subst hP hw hK
    exact wpAny_mono (G.stops s (fun s1 => Inv X pins σ H s1) E h0 fun h' tk hk _ => inv_ch V hk hf) (fun r s1 q => q) fun _ _ z => z
  self := self
end
/-! ### enumerate of a tuple -/
/-- pairs of a number and an item of a tuple -/
def Iet (K : PySem.W.Frag) (a : Addr) : It :=
  ⟨fun i H => ∃ (xs : List V) (x : V), SqT K H a xs ∧ xs[i]? = some x, fun i H v H' => ∃ T x, v = .ref T ∧ H T = none ∧ H' = upd H T (.tup [.int (i : Nat), x]) ∧ ∀ xs, SqT K H a xs → xs[i]? = some x, fun i H => ∃ xs : List V, SqT K H a xs ∧ xs.length = i⟩
section
set_option maxHeartbeats 1000000
theorem meets_enum1 {v : Value} {o : Obj} {G : Heap → Prop} (B : Begins v o G) :
    Meets (Builtin.«enumerate.__new__» ⟨[.type "enumerate", v], []⟩) (fun _ R s => G s.heap ∧ R (.ok (.ret (.ref (s.heap.push o).objs.size))) { s with heap := (s.heap.push o).push { cls := .type "enumerate", data := .fields #[.none, .bool false, .ref s.heap.objs.size, rawInt 0, .none, .none] } }) :=
  .of_wp fun prog w A R s h => by
    obtain ⟨hp, g, d, tk, os⟩ := s; obtain ⟨h1, h⟩ := h
    have hsub := sub_enumerate
    have qb : ∀ {A' : Around} {E : Value → Shared → Prop} {Q : Value → Shared → Prop}, Q (.ref hp.objs.size) ⟨hp.push o, g, d, tk, os⟩ → wpAny (model prog w) A' (pyIter v) Q E ⟨hp, g, d, tk, os⟩ := fun q => B.iter prog w _ _ ⟨hp, g, d, tk, os⟩ _ h1 q
    wp_walk using qb
    refine wpAny_stack_any fun st => wpAny_pure ?_
    split
    · rename_i c _ _ _ _ _
      cases (c == Value.type "enumerate") <;> (wp_walk using qb; exact ⟨_, rfl, h⟩)
    · wp_walk using qb; exact ⟨_, rfl, h⟩
theorem call_enum1 {prog : Program} {w : World} {A : Around} {E : Value → Shared → Prop} {s : Shared} {v : Value} {o : Obj} {G : Heap → Prop} {Q : Value → Shared → Prop} (B : Begins v o G) (h1 : G s.heap)
    (h : ∀ h', IsEnum h' (s.heap.objs.size + 1) s.heap.objs.size 0 .none → h'.get? s.heap.objs.size = some o → (∀ b o, s.heap.get? b = some o → h'.get? b = some o) → Q (.ref (s.heap.objs.size + 1)) { s with heap := h' }) : wpAny (model prog w) A (call (.type "enumerate") [v]) Q E s := by
  refine callType_new F.called_enumerate (by decide) (F.typeCall_enumerate_1 _) (F.newCall_enumerate_1 _) (fun obj => F.args_object_init_2 obj _) F.entry_enumerate_new (meets_enum1 B) ⟨h1, ?_⟩
  have hz : (s.heap.push o).objs.size = s.heap.objs.size + 1 := by rw [Heap.size_push]
  show _ ∧ _
  rw [hz]
  have he : IsEnum ((s.heap.push o).push { cls := .type "enumerate", data := .fields #[.none, .bool false, .ref s.heap.objs.size, rawInt 0, .none, .none] }) (s.heap.objs.size + 1) s.heap.objs.size 0 .none := by
    have q := Heap.get?_push_size (s.heap.push o) (o := { cls := .type "enumerate", data := .fields #[.none, .bool false, .ref s.heap.objs.size, rawInt 0, .none, .none] }) rfl
    rw [hz] at q; exact q
  exact ⟨⟨_, he, rfl⟩, h _ he (Heap.get?_push_of_some _ (Heap.get?_push_size _ B.free)) fun b o x => Heap.get?_push_of_some _ (Heap.get?_push_of_some _ x)⟩
end
section
variable {P : Program} {w : World} {K : PySem.W.Frag} {elts : List Expr} {kk : Nat} {tpos : Pos}
theorem turn_enumT (a e it : Addr) (hei : e ≠ it) : Turn P w K (.Tuple elts kk tpos) (Iet K a) [e, it] e (fun i h => (∃ old, IsEnum h e it ((i : Nat) : Int) old) ∧ h.IsTupleIter it a i) := by
  have apart : ∀ {i : Nat} {h : Heap} {items : Array Value}, h.IsTupleIter it a i → h.IsTuple a items → a ≠ it := fun {i h items} h1 h2 z => by
    obtain ⟨o, ho, hc, _⟩ := h1
    obtain ⟨o', ho', hc', _⟩ := h2
    subst z
    rw [ho] at ho'; cases ho'
    rw [hc] at hc'; exact absurd (Value.type.inj hc') (by decide)
  have apart2 : ∀ {i : Int} {h : Heap} {items : Array Value} {old : Value}, IsEnum h e it i old → h.IsTuple a items → a ≠ e := fun {i h items old} h1 h2 z => by
    obtain ⟨o', ho', hc', _⟩ := h2
    subst z
    rw [show h.get? a = _ from h1] at ho'; cases ho'
    exact absurd (Value.type.inj hc') (by decide)
  refine turn_goes (by simp) (fun i h st b hb => ?_) (fun i h h' st k => ?_) (fun X i pins s σ H hP hw hK hc V st hg => ?_) (fun X i pins s σ H hP hw hK hc V st hg => ?_) fun A i s Q E st h => let ⟨⟨_, he⟩, _⟩ := st; wpAny_pyIter_enum he h
  · obtain ⟨⟨old, he⟩, o, ho, hc, hd⟩ := st
    rcases (by simpa using hb : b = e ∨ b = it) with z | z
    · rw [z]; exact ⟨_, he, fun v q => nomatch q⟩
    · rw [z]; exact ⟨o, ho, fun v q => by rw [hd] at q; cases q⟩
  · obtain ⟨⟨old, he⟩, hi⟩ := st
    exact ⟨⟨old, k e (by simp) _ he⟩, hi.at fun o q => k it (by simp) o q⟩
  · subst hP hw hK
    obtain ⟨⟨old, he⟩, hit⟩ := st
    obtain ⟨xs, x, hq, hx⟩ := hg
    obtain ⟨its, rv, p, hz⟩ := V.tuple hq
    have p' : s.heap.IsTuple a its.toArray := p
    have h1 := apart hit p'
    have h2 := apart2 he p'
    have hil : i < its.length := by rw [← rv.length]; exact (List.getElem?_eq_some_iff.mp hx).1
    have g := GoesN.enumFrom (prog := X.prog) (w := X.w) (A := X.A) (elts := elts) (x1 := kk) (pos := tpos) 0 (Draws.tuple (A := X.A.in1) (V.ok.hd hc) it a h1 its.toArray) e hei (by simp; exact ⟨hei, Ne.symm h2⟩) (by simp)
    refine ⟨_, _, _, _, g, by simpa using hil, ⟨⟨old, by simpa using he⟩, hit, p'⟩, fun v h' y st' hk => ?_⟩
    obtain ⟨⟨old', he'⟩, hit', _⟩ := st'
    refine ⟨⟨⟨old', by simpa using he'⟩, hit'⟩, .inr ?_⟩
    obtain ⟨T, t, u, rfl, hT, hu, ht⟩ := y
    obtain ⟨u', hu', ru⟩ := rv.get hx
    have eu : u = u' := by
      have z : its[i]? = some u := by simpa using hu
      rw [hu'] at z; cases z; rfl
    subst eu
    exact ⟨T, .int ((i : Nat) : Int), x, _, rfl, hT, .cons ⟨t, by simp⟩ (.cons ru .nil), ht, fun nT => ⟨T, x, rfl, nT, rfl, fun ys hy => by rw [V.tuple_inj hy hq]; exact hx⟩⟩
  · subst hP hw hK
    obtain ⟨⟨old, he⟩, hit⟩ := st
    obtain ⟨xs, hq, hx⟩ := hg
    obtain ⟨its, rv, p, hz⟩ := V.tuple hq
    have p' : s.heap.IsTuple a its.toArray := p
    have h1 := apart hit p'
    have h2 := apart2 he p'
    have el : its.toArray.size = i := by rw [← hx, rv.length]; simp
    have g := GoesN.enumFrom (prog := X.prog) (w := X.w) (A := X.A) (elts := elts) (x1 := kk) (pos := tpos) 0 (Draws.tuple (A := X.A.in1) (V.ok.hd hc) it a h1 its.toArray) e hei (by simp; exact ⟨hei, Ne.symm h2⟩) (by simp)
    rw [el] at g
    exact ⟨_, _, _, g, ⟨old, by simpa using he⟩, hit, p'⟩
def iEnT (K : PySem.W.Frag) (ta : TA) : TI := fun σ H R => ta σ H fun vs H1 => ∃ a xs, vs = [.ref a] ∧ SqT K H1 a xs ∧ R (Iet K a) H1
theorem pi_enumT {X : Cx} {e : Expr} {ta : TA} {p pos : Pos} (hg : Gl X "enumerate") (hm : X.mg "enumerate" = none) (ha : PA X [e] ta) (hs : starEach [e] X.env = [(false, eval e X.env)] := by rfl) :
    PI X (.Tuple elts kk tpos) (.Call (.Name "enumerate" p) [e] [] pos) (iEnT X.K ta) := ⟨fun pins s σ H R I h => by
  refine PyProof.Rows.Call_ (ld_blt I hg hm PyProof.Rows.boot_enumerate (PyProof.Rows.callWith_type1 (thn (ha.run pos pins s σ H _ I h) fun us s1 ⟨vs, H1, I1, r1, a, xs, ex, hq, q⟩ => ?_) hs rfl))
  subst ex
  cases r1 with
  | cons r rr =>
    cases rr
    cases r
    obtain ⟨its, rv, p', hz⟩ := I1.tuple hq
    refine call_enum1 (begins_tuple a its.toArray) p' fun h' he hit hk => wpAny_pyIter_enum he ?_
    have I2 : Inv X pins σ H1 { s1 with heap := h' } := I1.kept (t' := s1.toks) hk
    refine ⟨s1.heap.objs.size + 1, [s1.heap.objs.size + 1, s1.heap.objs.size], _, _, H1, rfl, I2, turn_enumT a _ _ (Nat.succ_ne_self _), ⟨⟨.none, he⟩, ⟨_, hit, rfl, rfl⟩⟩, fun b hb => ?_, q⟩
    have hle : s1.heap.objs.size ≤ b := by
      rcases (by simpa using hb : b = s1.heap.objs.size + 1 ∨ b = s1.heap.objs.size) with z | z
      · rw [z]; exact Nat.le_add_right _ _
      · rw [z]; exact Nat.le_refl _
    exact I1.fpOk hle (I1.hok.fresh hle)⟩
end
/-! ### items, values of any dict -/
def uLen : HO → Nat
  | .dK es => es.length
  | .dT es => es.length
  | _ => 0
/-- the i-th entry of a dict -/
def KeyAt (H : Hp) : HO → Nat → V → V → Prop
  | .dK es, i, x, y => ∃ k, es[i]? = some (k, y) ∧ x = kV k
  | .dT es, i, x, y => ∃ k q, es[i]? = some (k, y) ∧ x = .ref q ∧ H q = some (.tup (k.map kV))
  | _, _, _, _ => False
def IsD : HO → Prop
  | .dK _ => True
  | .dT _ => True
  | _ => False
theorem rawAt {X : Cx} {pins : List (Addr × Obj)} {σ : St} {H : Hp} {s : Shared} {d : Addr} {o : Obj} {u : HO} (I : Inv X pins σ H s) (h : H d = some (.frz o u)) (hu : IsD u) :
    ∃ es ep, s.heap.DictRaw d es ep ∧ (d == sysModules) = false ∧ es.size = uLen u ∧ ∀ i (hi : i < es.size), ∃ x y, KeyAt H u i x y ∧ RelV x es[i].key ∧ RelV y es[i].val := by
  obtain ⟨_, ok⟩ := I.hok d _ h
  cases u with
  | dK kvs =>
    obtain ⟨_, hs, vs, kv, dd⟩ := ok
    obtain ⟨es, ep, raw, hz, hk⟩ := Heap.DictOf.raw dd
    have hl : kvs.length = vs.length := Paired.length kv
    refine ⟨es, ep, raw, hs, by rw [hz]; exact hl.symm, fun i hi => ?_⟩
    have hi2 : i < kvs.length := by omega
    obtain ⟨v, hv, rv⟩ := kv_get kv (show kvs[i]? = some ((kvs[i]).1, (kvs[i]).2) from List.getElem?_eq_getElem hi2)
    obtain ⟨e1, e2⟩ := hk i hi _ _ hv
    exact ⟨kV (kvs[i]).1, (kvs[i]).2, ⟨(kvs[i]).1, List.getElem?_eq_getElem hi2, rfl⟩, relV_key e1, by rw [e2]; exact rv⟩
  | dT kvs =>
    obtain ⟨_, hs, xs, kt, dd⟩ := dt_rd I.hok (.inr ⟨o, h⟩)
    obtain ⟨es, ep, raw, hz, hk⟩ := Heap.DictOfH.raw dd
    have hl : kvs.length = xs.length := Paired.length kt
    refine ⟨es, ep, raw, hs, by rw [hz]; exact hl.symm, fun i hi => ?_⟩
    have hi2 : i < kvs.length := by omega
    obtain ⟨b, hb, _, e2, e3⟩ := L2.paired_get kt (show kvs[i]? = some ((kvs[i]).1, (kvs[i]).2) from List.getElem?_eq_getElem hi2)
    obtain ⟨y, hy, k1, k2, _⟩ := hk i hi
    rw [hb] at hy; cases hy
    exact ⟨.ref b.2.1, (kvs[i]).2, ⟨(kvs[i]).1, b.2.1, List.getElem?_eq_getElem hi2, rfl, e2⟩, by rw [k1] <;> rfl, by rw [k2]; exact e3⟩
  | _ => exact hu.elim
def Jit (d : Addr) (o : Obj) (u : HO) : It := ⟨fun i H => H d = some (.frz o u) ∧ i < uLen u, fun i H v H' => ∃ T x y, v = .ref T ∧ H T = none ∧ H' = upd H T (.tup [x, y]) ∧ KeyAt H u i x y, fun i H => H d = some (.frz o u) ∧ i = uLen u⟩
def Jva (d : Addr) (o : Obj) (u : HO) : It := ⟨fun i H => H d = some (.frz o u) ∧ i < uLen u, fun i H v H' => H' = H ∧ ∃ x, KeyAt H u i x v, fun i H => H d = some (.frz o u) ∧ i = uLen u⟩
section
variable {P : Program} {w : World} {K : PySem.W.Frag} {elts : List Expr} {kk : Nat} {tpos : Pos} {tg : Expr} {d : Addr} {o : Obj} {u : HO} {es : Array DictEntry} {ep : Nat}
theorem dict_ne {h : Heap} {it : Addr} {ob : Obj} (raw : h.DictRaw d es ep) (e : h.get? it = some ob) (hc : ob.cls ≠ .type "dict") : d ≠ it := fun z => by
  obtain ⟨o', ho', hx, _⟩ := raw
  subst z
  rw [e] at ho'; cases ho'
  exact hc hx.1
theorem turn_jit (it : Addr) (hu : IsD u) (hes : o.data = .dict es ep) : Turn P w K (.Tuple elts kk tpos) (Jit d o u) [it] it (fun i h => ∃ ok ov, IsItemIter h it d i (uLen u) ep ok ov) := by
  have same : ∀ {X : Cx} {pins : List (Addr × Obj)} {s : Shared} {σ : St} {H : Hp}, Inv X pins σ H s → H d = some (.frz o u) → ∃ es2, s.heap.DictRaw d es2 ep ∧ es2.size = uLen u ∧ ∀ i (hi : i < es2.size), ∃ x y, KeyAt H u i x y ∧ RelV x es2[i].key ∧ RelV y es2[i].val := fun {X pins s σ H} V h => by
    obtain ⟨es2, ep2, raw, _, hz, hk⟩ := rawAt V h hu
    obtain ⟨o2, h2, _, h3⟩ := id raw
    obtain ⟨hd, _⟩ := V.hok d _ h
    rw [hd] at h2; cases h2
    rw [hes] at h3; cases h3
    exact ⟨es, raw, hz, hk⟩
  refine turn_goes (by simp) (fun i h st b hb => ?_) (fun i h h' st k => ?_) (fun X i pins s σ H hP hw hK hc V st hg => ?_) (fun X i pins s σ H hP hw hK hc V st hg => ?_) fun A i s Q E st h => let ⟨_, _, e⟩ := st; PySem.W.kcp_self e h
  · obtain ⟨ok, ov, e⟩ := st
    rw [show b = it by simpa using hb]
    exact ⟨_, e, fun v z => nomatch z⟩
  · obtain ⟨ok, ov, e⟩ := st
    exact ⟨ok, ov, k it (by simp) _ e⟩
  · subst hP hw hK
    obtain ⟨hd, hi⟩ := hg
    obtain ⟨es2, raw, hz, hk⟩ := same V hd
    obtain ⟨ok, ov, he⟩ := st
    have ne := dict_ne raw he (fun z => absurd (Value.type.inj z) (by decide))
    have g := GoesN.rawItems (prog := X.prog) (w := X.w) (A := X.A) (elts := elts) (x1 := kk) (pos := tpos) (V.ok.hd hc) it d ne es2 ep
    rw [← hz] at he
    refine ⟨_, _, _, _, g, by rw [hz]; exact hi, ⟨⟨ok, ov, he⟩, raw⟩, fun v h' y st' hk' => ?_⟩
    obtain ⟨⟨ok', ov', he'⟩, _⟩ := st'
    rw [hz] at he'
    refine ⟨⟨ok', ov', he'⟩, .inr ?_⟩
    obtain ⟨T, hi2, rfl, hT, ht⟩ := y
    obtain ⟨x, y, ka, r1, r2⟩ := hk i hi2
    exact ⟨T, x, y, _, rfl, hT, .cons r1 (.cons r2 .nil), ht, fun nT => ⟨T, x, y, rfl, nT, rfl, ka⟩⟩
  · subst hP hw hK
    obtain ⟨hd, hi⟩ := hg
    obtain ⟨es2, raw, hz, hk⟩ := same V hd
    obtain ⟨ok, ov, he⟩ := st
    have ne := dict_ne raw he (fun z => absurd (Value.type.inj z) (by decide))
    have g := GoesN.rawItems (prog := X.prog) (w := X.w) (A := X.A) (elts := elts) (x1 := kk) (pos := tpos) (V.ok.hd hc) it d ne es2 ep
    rw [← hz] at he hi
    subst hi
    exact ⟨_, _, _, g, ⟨ok, ov, he⟩, raw⟩
theorem turn_jva (it : Addr) (hu : IsD u) (hes : o.data = .dict es ep) : Turn P w K tg (Jva d o u) [it] it (fun i h => h.IsValIter it d i (uLen u) ep) := by
  have same : ∀ {X : Cx} {pins : List (Addr × Obj)} {s : Shared} {σ : St} {H : Hp}, Inv X pins σ H s → H d = some (.frz o u) → ∃ es2, s.heap.DictRaw d es2 ep ∧ es2.size = uLen u ∧ ∀ i (hi : i < es2.size), ∃ x y, KeyAt H u i x y ∧ RelV x es2[i].key ∧ RelV y es2[i].val := fun {X pins s σ H} V h => by
    obtain ⟨es2, ep2, raw, _, hz, hk⟩ := rawAt V h hu
    obtain ⟨o2, h2, _, h3⟩ := id raw
    obtain ⟨hd, _⟩ := V.hok d _ h
    rw [hd] at h2; cases h2
    rw [hes] at h3; cases h3
    exact ⟨es, raw, hz, hk⟩
  refine turn_goes (by simp) (fun i h st b hb => ?_) (fun i h h' st k => ?_) (fun X i pins s σ H hP hw hK hc V st hg => ?_) (fun X i pins s σ H hP hw hK hc V st hg => ?_) fun A i s Q E st h => wpAny_pyIter_valiter st h
  · obtain ⟨oi, e, c, dd⟩ := st
    rw [show b = it by simpa using hb]
    exact ⟨oi, e, fun v z => by rw [dd] at z; cases z⟩
  · exact st.at fun oi e => k it (by simp) oi e
  · subst hP hw hK
    obtain ⟨hd, hi⟩ := hg
    obtain ⟨es2, raw, hz, hk⟩ := same V hd
    obtain ⟨oi, e, c, dd⟩ := id st
    have ne := dict_ne raw e (fun z => by rw [c] at z; exact absurd (Value.type.inj z) (by decide))
    have g := (Goes.rawValues (prog := X.prog) (w := X.w) (A := X.A) (target := tg) (V.ok.hd hc) it d ne es2 ep).toN
    rw [← hz] at st
    refine ⟨_, _, _, _, g, by rw [hz]; exact hi, ⟨st, raw⟩, fun v h' y st' hk' => ?_⟩
    obtain ⟨st', _⟩ := st'
    rw [hz] at st'
    refine ⟨st', .inl ?_⟩
    obtain ⟨hi2, rfl⟩ := y
    obtain ⟨x, y, ka, r1, r2⟩ := hk i hi2
    exact ⟨y, r2, rfl, x, ka⟩
  · subst hP hw hK
    obtain ⟨hd, hi⟩ := hg
    obtain ⟨es2, raw, hz, hk⟩ := same V hd
    obtain ⟨oi, e, c, dd⟩ := id st
    have ne := dict_ne raw e (fun z => by rw [c] at z; exact absurd (Value.type.inj z) (by decide))
    have g := (Goes.rawValues (prog := X.prog) (w := X.w) (A := X.A) (target := tg) (V.ok.hd hc) it d ne es2 ep).toN
    rw [← hz] at st hi
    subst hi
    exact ⟨_, _, _, g, st, raw⟩
def iItR (td : TE) : TI := fun σ H R => td σ H fun x H1 => ∃ d o u, x = .ref d ∧ H1 d = some (.frz o u) ∧ IsD u ∧ R (Jit d o u) H1
def iVaR (td : TE) : TI := fun σ H R => td σ H fun x H1 => ∃ d o u, x = .ref d ∧ H1 d = some (.frz o u) ∧ IsD u ∧ R (Jva d o u) H1
variable {X : Cx} {e : Expr} {td : TE} {apos cpos : Pos}
theorem pi_itR (he : PE X e td) (hbase : attributeBase e "items" X.env (eval e X.env) = eval e X.env := by rfl) (hline : (apos.endLine == cpos.line) = true := by rfl) : PI X (.Tuple elts kk tpos) (.Call (.Attribute e "items" apos) [] [] cpos) (iItR td) := ⟨fun pins s σ H R I h => by
  refine wpAny_Call_method (T := "dict") (id := "dict.items") hbase rfl hline F.plainAttrs_dict F.slot_dict_items F.type_dict_items (thn (he.run pins s σ H _ I h) fun v s1 ⟨x, H1, I1, rx, d, o, u, ex, hd, hu, q⟩ => ?_)
  subst ex
  obtain rfl : v = Value.ref d := rx
  obtain ⟨es, ep, raw, hs, hz, hk⟩ := rawAt I1 hd hu
  obtain ⟨o2, h2, hx, hes⟩ := id raw
  obtain ⟨hd2, _⟩ := I1.hok d _ hd
  rw [hd2] at h2; cases h2
  refine ⟨⟨o, hd2, hx.1⟩, fun a z => (by cases z; exact ⟨o, hd2, hx.2.1⟩), ?_⟩
  have I2 : Inv X pins σ H1 { s1 with heap := s1.heap.push { cls := .type "dict_items", data := .fields #[.ref d] } } := I1.kept (t' := s1.toks) fun b ob q => Heap.get?_push_of_some _ q
  have raw2 : (s1.heap.push { cls := .type "dict_items", data := .fields #[.ref d] }).DictRaw d es ep := raw.at fun ob q => Heap.get?_push_of_some _ q
  have fin : wpAny (model X.prog X.w) X.A (pyIter (.ref s1.heap.objs.size)) (PIE X pins σ (.Tuple elts kk tpos) R) X.xe { s1 with heap := s1.heap.push { cls := .type "dict_items", data := .fields #[.ref d] } } := by
    refine wpAny_pyIter_items_raw (d := d) ⟨_, Heap.get?_push_size _ rfl, rfl, rfl⟩ raw2 (pi_one (tk := s1.toks) I2 _ (turn_jit _ hu hes) ⟨.none, .none, ?_⟩ q)
    rw [← hz]
    exact Heap.get?_push_size _ rfl
  show wpAny _ _ (callWith cpos (.builtin "dict.items") [.ref d] [] []) _ X.xe s1
  exact method_meetsIn F.slot_dict_items F.entry_dict_items rfl (PySem.evalArgs_none ⟨rfl, ⟨o, hd2, hx.1⟩, F.args_dict_items_1 _, _, meets_dict_items_raw d hs, ⟨es, ep, raw⟩, fin⟩)⟩
theorem pi_vaR (he : PE X e td) (hbase : attributeBase e "values" X.env (eval e X.env) = eval e X.env := by rfl) (hline : (apos.endLine == cpos.line) = true := by rfl) : PI X tg (.Call (.Attribute e "values" apos) [] [] cpos) (iVaR td) := ⟨fun pins s σ H R I h => by
  refine wpAny_Call_method (T := "dict") (id := "dict.values") hbase rfl hline F.plainAttrs_dict F.slot_dict_values F.type_dict_values (thn (he.run pins s σ H _ I h) fun v s1 ⟨x, H1, I1, rx, d, o, u, ex, hd, hu, q⟩ => ?_)
  subst ex
  obtain rfl : v = Value.ref d := rx
  obtain ⟨es, ep, raw, hs, hz, hk⟩ := rawAt I1 hd hu
  obtain ⟨o2, h2, hx, hes⟩ := id raw
  obtain ⟨hd2, _⟩ := I1.hok d _ hd
  rw [hd2] at h2; cases h2
  refine ⟨⟨o, hd2, hx.1⟩, fun a z => (by cases z; exact ⟨o, hd2, hx.2.1⟩), ?_⟩
  have I2 : Inv X pins σ H1 { s1 with heap := s1.heap.push { cls := .type "dict_values", data := .fields #[.ref d] } } := I1.kept (t' := s1.toks) fun b ob q => Heap.get?_push_of_some _ q
  have raw2 : (s1.heap.push { cls := .type "dict_values", data := .fields #[.ref d] }).DictRaw d es ep := raw.at fun ob q => Heap.get?_push_of_some _ q
  have fin : wpAny (model X.prog X.w) X.A (pyIter (.ref s1.heap.objs.size)) (PIE X pins σ tg R) X.xe { s1 with heap := s1.heap.push { cls := .type "dict_values", data := .fields #[.ref d] } } := by
    refine wpAny_pyIter_values_raw (d := d) ⟨_, Heap.get?_push_size _ rfl, rfl, rfl⟩ raw2 (pi_one (tk := s1.toks) I2 _ (turn_jva _ hu hes) ⟨_, Heap.get?_push_size _ rfl, rfl, ?_⟩ q)
    rw [hz] <;> rfl
  show wpAny _ _ (callWith cpos (.builtin "dict.values") [.ref d] [] []) _ X.xe s1
  exact method_meetsIn F.slot_dict_values F.entry_dict_values rfl (PySem.evalArgs_none ⟨rfl, ⟨o, hd2, hx.1⟩, F.args_dict_values_1 _, _, meets_dict_values_raw d hs, ⟨es, ep, raw⟩, fin⟩)⟩
end
end Ev
end

section
set_option Elab.async false
set_option linter.all false
/-! EvJ: iterables as readings. -/
namespace Ev
open PySem PySem.Spec L2
set_option autoImplicit false
section
variable {K : PySem.W.Frag} {ct : Ct} {F : Hp} {a b : Addr} {vs us : List V} {l m : List D}
theorem walkD_list (fa : F a = some (.lst vs)) (rs : DReps K ct F l vs) : WalkD K ct F (Itl K a) l :=
  ⟨fun H => SqL K H a vs, YAt vs, by rw [rs.length]; exact walk_list, fun H le => SqL.of (le _ _ fa), fun F2 i H x H' le le2 hi y => by
    obtain ⟨rfl, y⟩ := y
    obtain ⟨d, h1, h2⟩ := rs.get' y
    exact ⟨F2, d, Grw.refl le2, h1, DRep.mono le _ _ h2⟩⟩
theorem walkD_tup {k : Bool} (fa : TupAt F a k vs) (rs : DReps K ct F l vs) : WalkD K ct F (Itt K a) l :=
  ⟨fun H => SqT K H a vs, YAt vs, by rw [rs.length]; exact walk_tup, fun H le => le.sqt fa.sqt, fun F2 i H x H' le le2 hi y => by
    obtain ⟨rfl, y⟩ := y
    obtain ⟨d, h1, h2⟩ := rs.get' y
    exact ⟨F2, d, Grw.refl le2, h1, DRep.mono le _ _ h2⟩⟩
theorem walkD_scr {ns : List Int} (fa : SqL K F a (ns.map V.int)) : WalkD K ct F (Itl K a) (ns.map D.int) :=
  ⟨fun H => SqL K H a (ns.map V.int), YAt (ns.map V.int), by rw [show (ns.map D.int).length = (ns.map V.int).length by simp]; exact walk_list, fun H le => le.sql fa, fun F2 i H x H' le le2 hi y => by
    obtain ⟨rfl, y⟩ := y
    rw [List.getElem?_map] at y
    cases h : ns[i]? with
    | none => rw [h] at y; cases y
    | some n =>
      rw [h] at y; cases y
      exact ⟨F2, .int n, Grw.refl le2, by rw [List.getElem?_map, h]; rfl, rfl⟩⟩
theorem gkv_get {κ : Type} {kf : κ → D} : ∀ {l : List (D × D)} {es : List (κ × V)} {i : Nat} {k : κ} {v : V}, GKv K ct F kf l es → es[i]? = some (k, v) → ∃ d, l[i]? = some (kf k, d) ∧ DRep K ct F d v
  | [], _, i, k, v, r, h => by rw [show _ = [] from r] at h; cases h
  | (k', d) :: l, _, i, k, v, ⟨x, v', t, e, hk, r, q⟩, h => by
    subst e hk
    cases i with
    | zero => cases h; exact ⟨d, rfl, r⟩
    | succ i =>
      obtain ⟨d2, h1, h2⟩ := gkv_get (i := i) q (by simpa using h)
      exact ⟨d2, by simpa using h1, h2⟩
theorem keys_rep : ∀ ks : List Key, DReps K ct F (ks.map kD) (ks.map kV)
  | [] => rfl
  | k :: ks => ⟨_, _, rfl, rep_kD k, keys_rep ks⟩
/-- a key that is there, as a deep thing -/
theorem key_grow {F2 H : Hp} (le : Le F2 H) {q : Addr} {k : List Key} (hq : H q = some (.tup (k.map kV))) : ∃ F3, Grw F2 H F3 H ∧ DRep K ct F3 (kT k) (.ref q) :=
  ⟨_, Grw.tup le hq fun o e => by have := le _ _ e; rw [hq] at this; cases this; rfl, q, _, rfl, upd_same, keys_rep k⟩
theorem walkD_keys {od : Obj} {es : List (Key × V)} {l : List (D × D)} (fa : F a = some (.frz od (.dK es))) (r : DKv K ct F l es) : WalkD K ct F (Itk a od es) (l.map (·.1)) :=
  ⟨fun H => H a = some (.frz od (.dK es)), _, by rw [List.length_map, len_G (gkv_K.mp r)]; exact walk_keys, fun H le => le _ _ fa, fun F2 i H x H' le le2 hi y => by
    obtain ⟨rfl, k, v, hk, rfl⟩ := y
    obtain ⟨d, h1, _⟩ := gkv_get (gkv_K.mp r) hk
    exact ⟨F2, kD k, Grw.refl le2, by rw [List.getElem?_map, h1]; rfl, rep_kD k⟩⟩
theorem walkD_keysT {od : Obj} {es : List (List Key × V)} {l : List (D × D)} (fa : F a = some (.frz od (.dT es))) (r : DTv K ct F l es) : WalkD K ct F (Itkt a od es) (l.map (·.1)) :=
  ⟨fun H => H a = some (.frz od (.dT es)), _, by rw [List.length_map, len_G (gkv_T.mp r)]; exact walk_keysT, fun H le => le _ _ fa, fun F2 i H x H' le le2 hi y => by
    obtain ⟨rfl, k, v, q, hk, rfl, hq⟩ := y
    obtain ⟨d, h1, _⟩ := gkv_get (gkv_T.mp r) hk
    obtain ⟨F3, g, rq⟩ := key_grow (K := K) (ct := ct) le2 hq
    exact ⟨F3, _, g, by rw [List.getElem?_map, h1]; rfl, rq⟩⟩
theorem walkD_range {lo : Int} {n : Nat} : WalkD K ct F (Itr lo n) ((List.range n).map fun i => .int (lo + (i : Nat))) :=
  ⟨fun _ => True, _, by rw [List.length_map, List.length_range]; exact walk_range, fun _ _ => trivial, fun F2 i H x H' le le2 hi y => by
    obtain ⟨rfl, rfl⟩ := y
    have hi' : i < n := by simpa using hi
    exact ⟨F2, .int (lo + (i : Nat)), Grw.refl le2, by rw [List.getElem?_map, List.getElem?_range hi']; rfl, rfl⟩⟩
/-- new pairs -/
theorem pair_new {F2 H : Hp} (le2 : Le F2 H) {T : Addr} {x y : V} {d e : D} (hT : H T = none) (r1 : DRep K ct F2 d x) (r2 : DRep K ct F2 e y) : ∃ F3, Grw F2 H F3 (upd H T (.tup [x, y])) ∧ DRep K ct F3 (.tup false [d, e]) (.ref T) := by
  have g := Grw.new (o := .tup [x, y]) le2 hT
  exact ⟨_, g, T, [x, y], rfl, upd_same, ⟨x, [y], rfl, DRep.mono g.le _ _ r1, y, [], rfl, DRep.mono g.le _ _ r2, rfl⟩⟩
def dEnum (l : List D) : List D := l.zipIdx.map fun p => .tup false [.int (p.2 : Nat), p.1]
def dZip (l m : List D) : List D := (l.zip m).map fun p => .tup false [p.1, p.2]
theorem enum_get {i : Nat} {d : D} (h : l[i]? = some d) : (dEnum l)[i]? = some (.tup false [.int (i : Nat), d]) := by
  unfold dEnum
  rw [List.getElem?_map, List.getElem?_zipIdx, h]
  simp
theorem zip_get {i : Nat} {d e : D} (h : l[i]? = some d) (k : m[i]? = some e) : (dZip l m)[i]? = some (.tup false [d, e]) := by
  unfold dZip
  rw [List.getElem?_map, List.getElem?_zip_eq_some (z := (d, e)) |>.mpr ⟨h, k⟩]
  rfl
theorem enum_len : (dEnum l).length = l.length := by unfold dEnum; simp
theorem zip_len : (dZip l m).length = min l.length m.length := by unfold dZip; simp
theorem walkD_enum (fa : F a = some (.lst vs)) (rs : DReps K ct F l vs) : WalkD K ct F (Ite K a) (dEnum l) :=
  ⟨fun H => SqL K H a vs, _, by rw [enum_len, rs.length]; exact walk_enum, fun H le => SqL.of (le _ _ fa), fun F2 i H x H' le le2 hi y => by
    obtain ⟨T, x, y, rfl, hT, rfl, hx, hy⟩ := y
    cases hx
    obtain ⟨d, h1, h2⟩ := rs.get' hy
    obtain ⟨F3, g, r⟩ := pair_new (K := K) (ct := ct) (d := .int (i : Nat)) le2 hT rfl (DRep.mono le _ _ h2)
    exact ⟨F3, _, g, enum_get h1, r⟩⟩
theorem walk_iet : Walk (Iet K a) vs.length (fun H => SqT K H a vs) (YPair (fun i => some (.int (i : Nat))) (fun i => vs[i]?)) :=
  ⟨fun i _ hi q => ⟨vs, vs[i], q, List.getElem?_eq_getElem hi⟩, fun _ q => ⟨vs, q, rfl⟩, fun i H v H' _ q y => by
    obtain ⟨T, x, h1, h2, h3, h4⟩ := y
    exact ⟨T, _, x, h1, h2, h3, rfl, h4 vs q⟩⟩
theorem walkD_enumT {k : Bool} (fa : TupAt F a k vs) (rs : DReps K ct F l vs) : WalkD K ct F (Iet K a) (dEnum l) :=
  ⟨fun H => SqT K H a vs, _, by rw [enum_len, rs.length]; exact walk_iet, fun H le => le.sqt fa.sqt, fun F2 i H x H' le le2 hi y => by
    obtain ⟨T, x, y, rfl, hT, rfl, hx, hy⟩ := y
    cases hx
    obtain ⟨d, h1, h2⟩ := rs.get' hy
    obtain ⟨F3, g, r⟩ := pair_new (K := K) (ct := ct) (d := .int (i : Nat)) le2 hT rfl (DRep.mono le _ _ h2)
    exact ⟨F3, _, g, enum_get h1, r⟩⟩
theorem walk_zipT : Walk (RZ.ItzT K a b) (min vs.length us.length) (fun H => SqT K H a vs ∧ SqT K H b us) (YPair (fun i => vs[i]?) (fun i => us[i]?)) := by
  refine ⟨fun i _ hi q => ?_, fun _ q => ⟨vs, us, q.1, q.2, by omega⟩, fun i H v H' _ q y => ?_⟩
  · exact ⟨vs, us, vs[i]'(by omega), us[i]'(by omega), q.1, q.2, List.getElem?_eq_getElem (by omega), List.getElem?_eq_getElem (by omega)⟩
  · obtain ⟨T, x, z, h1, h2, h3, h4, h5⟩ := y
    exact ⟨T, x, z, h1, h2, h3, h4 vs q.1, h5 us q.2⟩
theorem walkD_zip (fa : F a = some (.lst vs)) (rs : DReps K ct F l vs) (fb : F b = some (.lst us)) (qs : DReps K ct F m us) : WalkD K ct F (Itz K a b) (dZip l m) :=
  ⟨fun H => SqL K H a vs ∧ SqL K H b us, _, by rw [zip_len, rs.length, qs.length]; exact walk_zip rfl, fun H le => ⟨SqL.of (le _ _ fa), SqL.of (le _ _ fb)⟩, fun F2 i H x H' le le2 hi y => by
    obtain ⟨T, x, y, rfl, hT, rfl, hx, hy⟩ := y
    obtain ⟨d, h1, h2⟩ := rs.get' hx
    obtain ⟨e, h3, h4⟩ := qs.get' hy
    obtain ⟨F3, g, r⟩ := pair_new (K := K) (ct := ct) le2 hT (DRep.mono le _ _ h2) (DRep.mono le _ _ h4)
    exact ⟨F3, _, g, zip_get h1 h3, r⟩⟩
theorem walkD_zipT {k k2 : Bool} (fa : TupAt F a k vs) (rs : DReps K ct F l vs) (fb : TupAt F b k2 us) (qs : DReps K ct F m us) : WalkD K ct F (RZ.ItzT K a b) (dZip l m) :=
  ⟨fun H => SqT K H a vs ∧ SqT K H b us, _, by rw [zip_len, rs.length, qs.length]; exact walk_zipT, fun H le => ⟨le.sqt fa.sqt, le.sqt fb.sqt⟩, fun F2 i H x H' le le2 hi y => by
    obtain ⟨T, x, y, rfl, hT, rfl, hx, hy⟩ := y
    obtain ⟨d, h1, h2⟩ := rs.get' hx
    obtain ⟨e, h3, h4⟩ := qs.get' hy
    obtain ⟨F3, g, r⟩ := pair_new (K := K) (ct := ct) le2 hT (DRep.mono le _ _ h2) (DRep.mono le _ _ h4)
    exact ⟨F3, _, g, zip_get h1 h3, r⟩⟩
theorem dct_isD {t : Bool} {l : List (D × D)} {u : HO} (r : DctO K ct F t l u) : IsD u ∧ l.length = uLen u := by
  rcases r with ⟨_, es, rfl, q⟩ | ⟨_, es, rfl, q⟩
  · exact ⟨trivial, len_G (gkv_K.mp q)⟩
  · exact ⟨trivial, len_G (gkv_T.mp q)⟩
/-- an entry of a dict, as deep things -/
theorem keyAt_rep {t : Bool} {l : List (D × D)} {u : HO} (r : DctO K ct F t l u) {F2 H : Hp} (le : Le F F2) (le2 : Le F2 H) {i : Nat} {x y : V} (h : KeyAt H u i x y) : ∃ F3 k d, Grw F2 H F3 H ∧ l[i]? = some (k, d) ∧ DRep K ct F3 k x ∧ DRep K ct F3 d y := by
  rcases r with ⟨_, es, rfl, q⟩ | ⟨_, es, rfl, q⟩
  · obtain ⟨k, hk, rfl⟩ := h
    obtain ⟨d, h1, h2⟩ := gkv_get (gkv_K.mp q) hk
    exact ⟨F2, kD k, d, Grw.refl le2, h1, rep_kD k, DRep.mono le _ _ h2⟩
  · obtain ⟨k, p, hk, rfl, hp⟩ := h
    obtain ⟨d, h1, h2⟩ := gkv_get (gkv_T.mp q) hk
    obtain ⟨F3, g, rq⟩ := key_grow (K := K) (ct := ct) le2 hp
    exact ⟨F3, _, d, g, h1, rq, DRep.mono (le.trans g.le) _ _ h2⟩
theorem walkD_items {od : Obj} {t : Bool} {l : List (D × D)} {u : HO} (fa : F a = some (.frz od u)) (r : DctO K ct F t l u) : WalkD K ct F (Jit a od u) (l.map fun p => .tup false [p.1, p.2]) := by
  obtain ⟨hd, hl⟩ := dct_isD r
  refine ⟨fun H => H a = some (.frz od u), (Jit a od u).yld, ⟨fun i H hi q => ⟨q, by rw [← hl]; simpa using hi⟩, fun H q => ⟨q, by rw [← hl]; simp⟩, fun i H x H' hi q y => y⟩, fun H le => le _ _ fa, fun F2 i H x H' le le2 hi y => ?_⟩
  obtain ⟨T, x, y, rfl, hT, rfl, ka⟩ := y
  obtain ⟨F3, k, d, g, h1, r1, r2⟩ := keyAt_rep r le le2 ka
  obtain ⟨F4, g2, rr⟩ := pair_new (K := K) (ct := ct) g.le' hT r1 r2
  exact ⟨F4, _, g.trans g2, by rw [List.getElem?_map, h1]; rfl, rr⟩
theorem walkD_vals {od : Obj} {t : Bool} {l : List (D × D)} {u : HO} (fa : F a = some (.frz od u)) (r : DctO K ct F t l u) : WalkD K ct F (Jva a od u) (l.map (·.2)) := by
  obtain ⟨hd, hl⟩ := dct_isD r
  refine ⟨fun H => H a = some (.frz od u), (Jva a od u).yld, ⟨fun i H hi q => ⟨q, by rw [← hl]; simpa using hi⟩, fun H q => ⟨q, by rw [← hl]; simp⟩, fun i H x H' hi q y => y⟩, fun H le => le _ _ fa, fun F2 i H x H' le le2 hi y => ?_⟩
  obtain ⟨rfl, x', ka⟩ := y
  obtain ⟨F3, k, d, g, h1, r1, r2⟩ := keyAt_rep r le le2 ka
  exact ⟨F3, d, g, by rw [List.getElem?_map, h1]; rfl, r2⟩
end
/-! ### as rules -/
def dItems : D → Option (List D)
  | .lst l => some l
  | .tup _ l => some l
  | .dct _ l => some (l.map (·.1))
  | .scr l => some (l.map .int)
  | _ => none
def itD (m : M D) : MI := fun σ => match m σ with
  | some (d, σ') => (match dItems d with
    | some l => some (l, σ')
    | none => none)
  | none => none
def dEnm : D → Option (List D)
  | .lst l => some (dEnum l)
  | .tup _ l => some (dEnum l)
  | _ => none
def itE (m : M D) : MI := fun σ => match m σ with
  | some (d, σ') => (match dEnm d with
    | some l => some (l, σ')
    | none => none)
  | none => none
def dItm : D → Option (List D)
  | .dct _ l => some (l.map fun p => .tup false [p.1, p.2])
  | _ => none
def dVal : D → Option (List D)
  | .dct _ l => some (l.map (·.2))
  | _ => none
def itF (f : D → Option (List D)) (m : M D) : MI := fun σ => match m σ with
  | some (d, σ') => (match f d with
    | some l => some (l, σ')
    | none => none)
  | none => none
def okR (i : Int) : Bool := decide (-(2 ^ 62) ≤ i) && decide (i < 2 ^ 62)
def dRng (lo : Int) (n : Nat) : List D := (List.range n).map fun i => .int (lo + (i : Nat))
def itR1 (m : M D) : MI := fun σ => match m σ with
  | some (.int j, σ') => if okR j = true then some (dRng 0 j.toNat, σ') else none
  | _ => none
def itR2 (m n : M D) : MI := fun σ => match mL [m, n] σ with
  | some ([.int i, .int j], σ') => if (okR i && okR j) = true then some (dRng i (j - i).toNat, σ') else none
  | _ => none
def itZ (m n : M D) : MI := fun σ => match mL [m, n] σ with
  | some ([.lst l, .lst k], σ') => some (dZip l k, σ')
  | some ([.tup _ l, .tup _ k], σ') => some (dZip l k, σ')
  | _ => none
theorem okR_ok {i : Int} (h : okR i = true) : -(2 ^ 62) ≤ i ∧ i < 2 ^ 62 := by
  unfold okR at h
  rw [Bool.and_eq_true] at h
  exact ⟨of_decide_eq_true h.1, of_decide_eq_true h.2⟩
section
variable {X : Cx} {ct : Ct} {tg e e2 : Expr} {m n : M D} {p pos apos tpos : Pos} {elts : List Expr} {kk : Nat}
theorem si_d (h : SE X ct e m) : SI X ct tg e (itD m) := PIimp (PIor (pi_list h) (PIor (pi_tup h) (pi_keys h))) fun σV H R ⟨F, σ, w, ds, σ', e, q⟩ => by
  unfold itD at e
  split at e
  · rename_i d σ1 h1
    split at e
    · rename_i l h2
      cases e
      cases d with
      | lst l => cases h2; exact .inl ⟨F, σ, w, _, _, h1, fun v H' F' st ⟨a, vs, e, fa, rs⟩ => ⟨a, e, ⟨vs, SqL.of (st.w.le _ _ fa)⟩, q _ H' F' st (walkD_list fa rs)⟩⟩
      | tup kb l => cases h2; exact .inr (.inl ⟨F, σ, w, _, _, h1, fun v H' F' st ⟨a, vs, e, fa, rs⟩ => ⟨a, e, ⟨vs, st.w.le.sqt fa.sqt⟩, q _ H' F' st (walkD_tup fa rs)⟩⟩)
      | scr l => cases h2; exact .inl ⟨F, σ, w, _, _, h1, fun v H' F' st ⟨a, e, fa⟩ => ⟨a, e, ⟨_, st.w.le.sql fa⟩, q _ H' F' st (walkD_scr fa)⟩⟩
      | dct t l =>
        cases h2
        refine .inr (.inr ⟨F, σ, w, _, _, h1, fun v H' F' st ⟨a, od, u, e, fa, r⟩ => ⟨a, od, e, ?_⟩⟩)
        rcases r with ⟨_, es, rfl, r⟩ | ⟨_, es, rfl, r⟩
        · exact .inl ⟨es, st.w.le _ _ fa, q _ H' F' st (walkD_keys fa r)⟩
        · exact .inr ⟨es, st.w.le _ _ fa, q _ H' F' st (walkD_keysT fa r)⟩
      | _ => cases h2
    · cases e
  · cases e
theorem si_en (hg : Gl X "enumerate") (hm : X.mg "enumerate" = none) (h : SE X ct e m) (hs : starEach [e] X.env = [(false, eval e X.env)] := by rfl) : SI X ct (.Tuple elts kk tpos) (.Call (.Name "enumerate" p) [e] [] pos) (itF dEnm m) :=
  PIimp (PIor (pi_enum hg hm (pa_cons h pa_nil hs) hs) (pi_enumT hg hm (pa_cons h pa_nil hs) hs)) fun σV H R ⟨F, σ, w, ds, σ', e, q⟩ => by
  unfold itF at e
  split at e
  · rename_i d σ1 h1
    split at e
    · rename_i l h2
      cases e
      cases d with
      | lst l => cases h2; exact .inl ⟨F, σ, w, _, _, h1, fun v H' F' st ⟨a, vs, e, fa, rs⟩ => ⟨a, vs, by rw [e], SqL.of (st.w.le _ _ fa), q _ H' F' st (walkD_enum fa rs)⟩⟩
      | tup kb l => cases h2; exact .inr ⟨F, σ, w, _, _, h1, fun v H' F' st ⟨a, vs, e, fa, rs⟩ => ⟨a, vs, by rw [e], st.w.le.sqt fa.sqt, q _ H' F' st (walkD_enumT fa rs)⟩⟩
      | _ => cases h2
    · cases e
  · cases e
theorem si_it (h : SE X ct e m) (hbase : attributeBase e "items" X.env (eval e X.env) = eval e X.env := by rfl) (hline : (apos.endLine == pos.line) = true := by rfl) : SI X ct (.Tuple elts kk tpos) (.Call (.Attribute e "items" apos) [] [] pos) (itF dItm m) :=
  PIimp (pi_itR h hbase hline) fun σV H R ⟨F, σ, w, ds, σ', e, q⟩ => by
  unfold itF at e
  split at e
  · rename_i d σ1 h1
    split at e
    · rename_i l h2
      cases e
      cases d with
      | dct t l => cases h2; exact ⟨F, σ, w, _, _, h1, fun v H' F' st ⟨a, od, u, e, fa, r⟩ => ⟨a, od, u, e, st.w.le _ _ fa, (dct_isD r).1, q _ H' F' st (walkD_items fa r)⟩⟩
      | _ => cases h2
    · cases e
  · cases e
theorem si_va (h : SE X ct e m) (hbase : attributeBase e "values" X.env (eval e X.env) = eval e X.env := by rfl) (hline : (apos.endLine == pos.line) = true := by rfl) : SI X ct tg (.Call (.Attribute e "values" apos) [] [] pos) (itF dVal m) :=
  PIimp (pi_vaR h hbase hline) fun σV H R ⟨F, σ, w, ds, σ', e, q⟩ => by
  unfold itF at e
  split at e
  · rename_i d σ1 h1
    split at e
    · rename_i l h2
      cases e
      cases d with
      | dct t l => cases h2; exact ⟨F, σ, w, _, _, h1, fun v H' F' st ⟨a, od, u, e, fa, r⟩ => ⟨a, od, u, e, st.w.le _ _ fa, (dct_isD r).1, q _ H' F' st (walkD_vals fa r)⟩⟩
      | _ => cases h2
    · cases e
  · cases e
theorem si_r1 (hg : Gl X "range") (hm : X.mg "range" = none) (h : SE X ct e m) (hs : starEach [e] X.env = [(false, eval e X.env)] := by rfl) : SI X ct tg (.Call (.Name "range" p) [e] [] pos) (itR1 m) :=
  PIimp (pi_range1 hg hm (pa_cons h pa_nil hs) hs) fun σV H R ⟨F, σ, w, ds, σ', e, q⟩ => by
  unfold itR1 at e
  split at e
  · rename_i j σ1 h1
    split at e
    · rename_i hk
      cases e
      obtain ⟨k1, k2⟩ := okR_ok hk
      exact ⟨F, σ, w, _, _, h1, fun v H' F' st r => ⟨j, by rw [show v = .int j from r], k1, k2, q _ H' F' st walkD_range⟩⟩
    · cases e
  · cases e
theorem si_r2 (hg : Gl X "range") (hm : X.mg "range" = none) (h : SE X ct e m) (h2 : SE X ct e2 n) (hs : starEach [e, e2] X.env = [(false, eval e X.env), (false, eval e2 X.env)] := by rfl) (hs2 : starEach [e2] X.env = [(false, eval e2 X.env)] := by rfl) :
    SI X ct tg (.Call (.Name "range" p) [e, e2] [] pos) (itR2 m n) :=
  PIimp (pi_range2 hg hm (ses_cons h (ses_cons h2 ses_nil hs2) (hs.trans (by rw [hs2]))) hs hs2) fun σV H R ⟨F, σ, w, ds, σ', e, q⟩ => by
  unfold itR2 at e
  split at e
  · rename_i i j σ1 h1
    split at e
    · rename_i hk
      cases e
      rw [Bool.and_eq_true] at hk
      obtain ⟨k1, k2⟩ := okR_ok hk.1
      obtain ⟨k3, k4⟩ := okR_ok hk.2
      refine tL_ok (F := F) (H := H) w h1 fun vs H1 F1 st r => ?_
      obtain ⟨v, t, rfl, r1, u, t2, rfl, r2, rfl⟩ := r
      exact ⟨i, j, by rw [show v = .int i from r1, show u = .int j from r2], ⟨k1, k2, k3, k4⟩, q _ H1 F1 st walkD_range⟩
    · cases e
  · cases e
theorem si_zip (hg : Gl X "zip") (hm : X.mg "zip" = none) (h : SE X ct e m) (h2 : SE X ct e2 n) (hs : starEach [e, e2] X.env = [(false, eval e X.env), (false, eval e2 X.env)] := by rfl) (hs2 : starEach [e2] X.env = [(false, eval e2 X.env)] := by rfl) :
    SI X ct (.Tuple elts kk tpos) (.Call (.Name "zip" p) [e, e2] [] pos) (itZ m n) :=
  PIimp (RZ.pi_zipA hg hm (ses_cons h (ses_cons h2 ses_nil hs2) (hs.trans (by rw [hs2]))) (hs.trans (by rw [hs2])) (by rw [hs2]; rfl)) fun σV H R ⟨F, σ, w, ds, σ', e, q⟩ => by
  unfold itZ at e
  split at e
  · rename_i l k σ1 h1
    cases e
    refine tL_ok (F := F) (H := H) w h1 fun vs H1 F1 st r => ?_
    obtain ⟨v, t, rfl, ⟨a, xs, rfl, fa, r1⟩, u, t2, rfl, ⟨b, ys, rfl, fb, r2⟩, rfl⟩ := r
    exact ⟨a, b, xs, ys, rfl, .inl ⟨SqL.of (st.w.le _ _ fa), SqL.of (st.w.le _ _ fb), q _ H1 F1 st (walkD_zip fa r1 fb r2)⟩⟩
  · rename_i l k σ1 h1
    cases e
    refine tL_ok (F := F) (H := H) w h1 fun vs H1 F1 st r => ?_
    obtain ⟨v, t, rfl, ⟨a, xs, rfl, fa, r1⟩, u, t2, rfl, ⟨b, ys, rfl, fb, r2⟩, rfl⟩ := r
    exact ⟨a, b, xs, ys, rfl, .inr ⟨st.w.le.sqt fa.sqt, st.w.le.sqt fb.sqt, q _ H1 F1 st (walkD_zipT fa r1 fb r2)⟩⟩
  · cases e
end
end Ev
end

section
set_option Elab.async false
set_option linter.all false
/-! EvK: sorted of deep things; calls of built-ins. -/
namespace Ev
open PySem PySem.Spec L2
set_option autoImplicit false
/-! ### the order -/
def dLeS (d e : D) : Bool := !PySem.W.dataLt e.toP d.toP
def dLe (d e : D) : Bool := match d, e with
  | .int i, .int j => decide (i ≤ j)
  | .tup _ l, .tup _ m => (match D.ints l, D.ints m with
    | some ns, some ms => !HT.lexLt ms ns
    | _, _ => dLeS d e)
  | _, _ => dLeS d e
theorem lexLt_iff : ∀ xs ys : List Int, HT.lexLt xs ys = decide (xs < ys)
  | [], [] => by simp [HT.lexLt]
  | [], _ :: _ => by simp [HT.lexLt]
  | _ :: _, [] => by simp [HT.lexLt]
  | x :: xs, y :: ys => by
    rw [HT.lexLt_cons]
    by_cases h : x = y
    · subst h
      rw [if_pos rfl, lexLt_iff xs ys]
      simp
    · rw [if_neg h]
      simp [List.cons_lt_cons_iff, h]
theorem toPs_ints (ns : List Int) : D.toPs (ns.map D.int) = ns.map PyData.int := by
  induction ns with
  | nil => rfl
  | cons n ns ih => simp only [List.map_cons, D.toPs, D.toP, ih]
theorem dLe_eq (d e : D) : dLe d e = PySem.W.dataLe false D.toP d e := by
  show dLe d e = !PySem.W.dataLt e.toP d.toP
  unfold dLe
  split
  · rename_i i j
    show _ = !PySem.W.dataLt (.int j) (.int i)
    rw [PySem.W.dataLt_int]
    by_cases h : i ≤ j
    · rw [decide_eq_true h, decide_eq_false (by omega)]; rfl
    · rw [decide_eq_false h, decide_eq_true (by omega)]; rfl
  · rename_i k l k2 m
    split
    · rename_i ns ms h1 h2
      rw [ints_eq h1, ints_eq h2]
      simp only [D.toP, toPs_ints]
      rw [PySem.W.dataLt_tuple, lexLt_iff]
      exact congrArg not (PySem.W.dataLt_ints ms ns).symm
    · rfl
  · rfl
theorem dLe_total : PySem.W.TotalLe dLe := by
  have e : dLe = PySem.W.dataLe false D.toP := funext fun d => funext fun e => dLe_eq d e
  rw [e]
  exact PySem.W.sortLe_total _ false _
section
variable {α : Type}
def insB (le : α → α → Bool) (d : α) : List α → List α
  | [] => [d]
  | e :: l => if le d e = true then d :: e :: l else e :: insB le d l
def iSort (le : α → α → Bool) : List α → List α
  | [] => []
  | d :: l => insB le d (iSort le l)
variable {le : α → α → Bool} (T : PySem.W.TotalLe le)
theorem insB_mem {d x : α} : ∀ {l : List α}, x ∈ insB le d l ↔ x = d ∨ x ∈ l
  | [] => by simp [insB]
  | e :: l => by
    unfold insB
    split
    · simp
    · rw [List.mem_cons, insB_mem (l := l), List.mem_cons]
      constructor
      · rintro (h | h | h)
        · exact .inr (.inl h)
        · exact .inl h
        · exact .inr (.inr h)
      · rintro (h | h | h)
        · exact .inr (.inl h)
        · exact .inl h
        · exact .inr (.inr h)
include T in
theorem insB_pw {d : α} : ∀ {l : List α}, l.Pairwise (fun a b => le a b = true) → (insB le d l).Pairwise (fun a b => le a b = true)
  | [], _ => by simp [insB]
  | e :: l, h => by
    obtain ⟨h1, h2⟩ := List.pairwise_cons.mp h
    unfold insB
    split
    · rename_i hd
      refine List.pairwise_cons.mpr ⟨fun x hx => ?_, h⟩
      rcases List.mem_cons.mp hx with rfl | hx
      · exact hd
      · exact T.trans d e x hd (h1 x hx)
    · rename_i hd
      refine List.pairwise_cons.mpr ⟨fun x hx => ?_, insB_pw h2⟩
      rcases insB_mem.mp hx with rfl | hx
      · exact (T.total e x).resolve_right hd
      · exact h1 x hx
include T in
theorem insB_filter {d c : α} : ∀ {l : List α}, (insB le d l).filter (PySem.W.sameRank le c) = (d :: l).filter (PySem.W.sameRank le c)
  | [] => rfl
  | e :: l => by
    unfold insB
    split
    · rfl
    · rename_i hd
      rw [List.filter_cons, insB_filter (l := l)]
      by_cases h1 : PySem.W.sameRank le c d = true
      · by_cases h2 : PySem.W.sameRank le c e = true
        · unfold PySem.W.sameRank at h1 h2
          rw [Bool.and_eq_true] at h1 h2
          exact absurd (T.trans d c e h1.2 h2.1) hd
        · simp [List.filter_cons, h1, h2]
      · simp [List.filter_cons, h1]
include T in
theorem iSort_ok (l : List α) : iSort le l = l.mergeSort le := by
  refine PySem.W.sort_unique T ?_ fun c => ?_
  · induction l with
    | nil => exact List.Pairwise.nil
    | cons d l ih => exact insB_pw T ih
  · induction l with
    | nil => rfl
    | cons d l ih =>
      unfold iSort
      rw [insB_filter T, List.filter_cons, ih, List.filter_cons]
theorem iSort_len : ∀ l : List α, (iSort le l).length = l.length := by
  have q : ∀ (d : α) (l : List α), (insB le d l).length = l.length + 1 := fun d l => by
    induction l with
    | nil => rfl
    | cons e l ih =>
      unfold insB
      split
      · rfl
      · rw [List.length_cons, ih, List.length_cons]
  intro l
  induction l with
  | nil => rfl
  | cons d l ih => unfold iSort; rw [q, ih]; rfl
end
/-! ### what can be sorted -/
def D.isI : D → Bool
  | .int _ => true
  | _ => false
def D.isIT : D → Bool
  | .tup _ l => (D.ints l).isSome && !l.isEmpty
  | _ => false
def D.tupNE : D → Bool
  | .tup _ (_ :: _) => true
  | _ => false
def D.oth : D → Bool
  | .bl _ => true
  | .int _ => true
  | .str _ => true
  | .lst _ => true
  | _ => false
def okSort (l : List D) : Bool := decide (l.length ≤ LIM) && (l.all D.isI || l.all D.isIT || ((l.all fun d => d.pl && decide (d.dp ≤ 60)) && (l.all fun d => l.all fun e => PySem.W.alike d.toP e.toP) && (l.all D.tupNE || l.all D.oth)))
theorem isIT_eq {d : D} (h : d.isIT = true) : ∃ k n ns, d = .tup k ((n :: ns).map D.int) := by
  unfold D.isIT at h
  split at h
  · rename_i k l
    rw [Bool.and_eq_true] at h
    cases h1 : D.ints l with
    | none => rw [h1] at h; cases h.1
    | some ns =>
      have e := ints_eq h1
      subst e
      cases ns with
      | nil => simp at h
      | cons n ns => exact ⟨k, n, ns, rfl⟩
  · cases h
theorem pls_ints (ns : List Int) : D.pls (ns.map D.int) = true ∧ D.dps (ns.map D.int) = 0 := by
  induction ns with
  | nil => exact ⟨rfl, rfl⟩
  | cons n ns ih => simp only [List.map_cons, D.pls, D.dps, D.pl, D.dp, ih, Bool.and_self, Nat.max_self, and_self]
theorem okSort_of {l : List D} (h : okSort l = true) : l.length ≤ sizeLine ∧ (∀ d ∈ l, d.pl = true ∧ d.toP.depth ≤ 60) ∧ PySem.W.AllAlike (l.map D.toP) ∧ PySem.W.Sortable (l.map D.toP) := by
  unfold okSort at h
  simp only [Bool.and_eq_true, Bool.or_eq_true, decide_eq_true_eq, List.all_eq_true] at h
  obtain ⟨h0, h⟩ := h
  refine ⟨by rw [← LIM_eq]; exact h0, ?_⟩
  rcases h with (h | h) | ⟨⟨h1, h2⟩, h3⟩
  · have q : ∀ d ∈ l, ∃ i, d = .int i := fun d hd => by
      have := h d hd
      unfold D.isI at this
      split at this
      · exact ⟨_, rfl⟩
      · cases this
    refine ⟨fun d hd => ?_, fun a ha b hb => ?_, .inr fun a ha => ?_⟩
    · obtain ⟨i, rfl⟩ := q d hd; exact ⟨rfl, Nat.zero_le _⟩
    · obtain ⟨d, hd, rfl⟩ := List.mem_map.mp ha
      obtain ⟨e, he, rfl⟩ := List.mem_map.mp hb
      obtain ⟨i, rfl⟩ := q d hd
      obtain ⟨j, rfl⟩ := q e he
      rfl
    · obtain ⟨d, hd, rfl⟩ := List.mem_map.mp ha
      obtain ⟨i, rfl⟩ := q d hd
      exact ⟨by simp [D.toP], fun xs => by simp [D.toP]⟩
  · refine ⟨fun d hd => ?_, fun a ha b hb => ?_, .inl fun a ha => ?_⟩
    · obtain ⟨k, n, ns, rfl⟩ := isIT_eq (h d hd)
      obtain ⟨p1, p2⟩ := pls_ints (n :: ns)
      refine ⟨p1, ?_⟩
      rw [(pl_lay (.tup k ((n :: ns).map D.int)) p1).2]
      show D.dps _ + 1 ≤ 60
      rw [p2]; decide
    · obtain ⟨d, hd, rfl⟩ := List.mem_map.mp ha
      obtain ⟨e, he, rfl⟩ := List.mem_map.mp hb
      obtain ⟨k, n, ns, rfl⟩ := isIT_eq (h d hd)
      obtain ⟨k2, n2, ns2, rfl⟩ := isIT_eq (h e he)
      simp only [D.toP, toPs_ints, PySem.W.alike]
      exact PySem.W.alike_ints _ _
    · obtain ⟨d, hd, rfl⟩ := List.mem_map.mp ha
      obtain ⟨k, n, ns, rfl⟩ := isIT_eq (h d hd)
      exact ⟨.int n, ns.map .int, by simp only [D.toP, D.toPs, toPs_ints, List.map_cons]⟩
  · refine ⟨fun d hd => ?_, fun a ha b hb => ?_, ?_⟩
    · obtain ⟨p1, p2⟩ := h1 d hd
      exact ⟨p1, by rw [(pl_lay d p1).2]; exact p2⟩
    · obtain ⟨d, hd, rfl⟩ := List.mem_map.mp ha
      obtain ⟨e, he, rfl⟩ := List.mem_map.mp hb
      exact h2 d hd e he
    · rcases h3 with h3 | h3
      · refine .inl fun a ha => ?_
        obtain ⟨d, hd, rfl⟩ := List.mem_map.mp ha
        have := h3 d hd
        unfold D.tupNE at this
        split at this
        · rename_i k x r; exact ⟨x.toP, D.toPs r, rfl⟩
        · cases this
      · refine .inr fun a ha => ?_
        obtain ⟨d, hd, rfl⟩ := List.mem_map.mp ha
        have := h3 d hd
        unfold D.oth at this
        split at this <;> first | exact absurd this (by decide) | exact ⟨by simp [D.toP], fun xs => by simp [D.toP]⟩
/-! ### as rules -/
inductive All2 (P : V → D → Prop) : List V → List D → Prop
  | nil : All2 P [] []
  | cons {v : V} {d : D} {vs : List V} {ds : List D} : P v d → All2 P vs ds → All2 P (v :: vs) (d :: ds)
theorem all2_reps {K ct F} : ∀ {vs : List V} {ds : List D}, All2 (fun v d => DRep K ct F d v) vs ds → DReps K ct F ds vs
  | _, _, .nil => rfl
  | _, _, .cons h t => ⟨_, _, rfl, h, all2_reps t⟩
theorem reps_zip {K ct F} : ∀ {vs : List V} {ds : List D}, DReps K ct F ds vs → ∀ p ∈ vs.zip ds, DRep K ct F p.2 p.1
  | _, [], r, p, h => by rw [show _ = [] from r] at h; simp at h
  | _, d :: ds, ⟨v, t, e, r, q⟩, p, h => by
    subst e
    rw [List.zip_cons_cons] at h
    rcases List.mem_cons.mp h with rfl | h
    · exact r
    · exact reps_zip q p h
abbrev SRel (ys : List V) (l : List D) (u : Value) (d : D) : Prop := ∃ x, RelV x u ∧ (x, d) ∈ ys.zip l
theorem srel_of : ∀ {ys : List V} {l : List D} {us : List Value} {all : List (V × D)}, ys.length = l.length → Vals ys us → (∀ p ∈ ys.zip l, p ∈ all) → PySem.W.EachIs (fun u d => ∃ x, RelV x u ∧ (x, d) ∈ all) us l
  | _, [], _, _, hl, r, h => by
    cases r with
    | nil => exact .nil
    | cons => simp at hl
  | _, d :: l, _, all, hl, r, h => by
    cases r with
    | nil => simp at hl
    | cons r rr =>
      exact .cons ⟨_, r, h _ (by rw [List.zip_cons_cons]; exact List.mem_cons_self)⟩ (srel_of (by simpa using hl) rr fun p hp => h p (by rw [List.zip_cons_cons]; exact List.mem_cons_of_mem _ hp))
theorem srel_out {all : List (V × D)} : ∀ {us : List Value} {l : List D}, PySem.W.EachIs (fun u d => ∃ x, RelV x u ∧ (x, d) ∈ all) us l → ∃ ys, Vals ys us ∧ ∀ P : V → D → Prop, (∀ p ∈ all, P p.1 p.2) → All2 P ys l
  | _, _, .nil => ⟨[], .nil, fun _ _ => .nil⟩
  | _, _, .cons ⟨x, r, m⟩ t => by
    obtain ⟨ys, h1, h2⟩ := srel_out t
    exact ⟨x :: ys, .cons r h1, fun P h => .cons (h _ m) (h2 P h)⟩
theorem each_reads {X : Cx} {pins : List (Addr × Obj)} {σ : St} {H : Hp} {s : Shared} (I : Inv X pins σ H s) : ∀ {ys : List V} {us : List Value} {l : List D}, Vals ys us → DpAll X.K H ys (D.toPs l) → PySem.W.EachIs (fun v d => ∃ as, Reads s.heap v (D.toP d) as) us l
  | _, _, [], r, h => by
    cases h
    cases r
    exact .nil
  | _, _, d :: l, r, h => by
    cases h with
    | cons h1 h2 =>
      cases r with
      | cons r rr => exact .cons (Dp.reads I _ _ _ h1 r) (each_reads I rr h2)
/-- sorted of a list that reads as deep things -/
def rSrt (K : PySem.W.Frag) : V → Hp → VK → Prop := fun x H Q => ∃ (p : Addr) (ys : List V) (l : List D), x = .ref p ∧ SqL K H p ys ∧ DpAll K H ys (D.toPs l) ∧ okSort l = true ∧ ys.length = l.length ∧
  ∀ q ys', H q = none → (∀ P : V → D → Prop, (∀ z ∈ ys.zip l, P z.1 z.2) → All2 P ys' (iSort dLe l)) → Q (.ref q) (upd H q (.lst ys'))
theorem cr_srt {X : Cx} (hu : X.A.units + 64 < cLine) : CallR X (.builtin "sorted") (fun xs H Q => ∃ x, xs = [x] ∧ rSrt X.K x H Q) := by
  intro pins s σ H xs us Q I r h
  obtain ⟨x, rfl, p, ys, l, rfl, hs, hd, ho, hl, q⟩ := h
  obtain ⟨its, rv, pl, hz⟩ := I.list hs
  rw [Vals.ref1 r]
  obtain ⟨k1, k2, k3, k4⟩ := okSort_of ho
  have e1 := srel_of (all := ys.zip l) hl rv fun p hp => hp
  refine PySem.W.sorted_data (enc := D.toP) pl.isList e1 (each_reads I rv hd) k3 k4 k1 (fun d hd => by have := (k2 d hd).2; omega) fun out ho2 e2 => ?_
  have em : l.mergeSort (PySem.W.dataLe false D.toP) = iSort dLe l := by
    rw [iSort_ok dLe_total, show dLe = PySem.W.dataLe false D.toP from funext fun d => funext fun e => dLe_eq d e]
  rw [em] at e2
  obtain ⟨ys', v2, a2⟩ := srel_out e2
  obtain ⟨ep, he'⟩ := PyProof.Rows.sortedAll_at s.heap its out.toArray
  have hlen : ys'.length ≤ sizeLine := by rw [v2.length, ho2]; exact k1
  exact ⟨.ref _, upd H (s.heap.objs.size + 1) (.lst ys'), I.laid (t' := s.toks) (fun _ _ => PyProof.Rows.sortedAll_old) (Nat.le_succ _) ⟨hlen, out, ep, v2, he'⟩, rfl, q _ _ (I.hok.fresh (Nat.le_succ _)) a2⟩
end Ev
end

section
set_option Elab.async false
set_option linter.all false
/-! EvL: sorted of dicts, len, tuple, dict of pairs, other built-ins. -/
namespace Ev
open PySem PySem.Spec L2
set_option autoImplicit false
/-! ### what a reading's addresses are -/
mutual
theorem reads_lt {h : Heap} : ∀ (d : PyData) (v : Value) (as : List Addr), Reads h v d as → (∀ kvs, d ≠ .dict kvs) → PyData.canLay0 d = true → ∀ b ∈ as, b < h.objs.size
  | .none, _, _, r, _, _, b, hb => by cases r; cases hb
  | .bool _, _, _, r, _, _, b, hb => by cases r; cases hb
  | .int _, _, _, r, _, _, b, hb => by cases r; cases hb
  | .str _, _, _, r, _, _, b, hb => by cases r; cases hb
  | .list xs, _, _, r, _, c, b, hb => by
    cases r with
    | list ho _ _ rs =>
      rcases List.mem_cons.mp hb with rfl | hb
      · exact Heap.lt_size ho
      · exact readsAll_lt xs _ _ rs c b hb
  | .tuple xs, _, _, r, _, c, b, hb => by
    cases r with
    | tuple ho _ _ rs => exact readsAll_lt xs _ _ rs c b hb
  | .dict kvs, _, _, r, n, _, b, hb => absurd rfl (n kvs)
theorem readsAll_lt {h : Heap} : ∀ (ds : List PyData) (vs : List Value) (as : List Addr), ReadsAll h vs ds as → PyData.canLayAll0 ds = true → ∀ b ∈ as, b < h.objs.size
  | [], _, _, r, _, b, hb => by cases r; cases hb
  | d :: ds, _, _, r, c, b, hb => by
    have c' : (PyData.canLay0 d && PyData.canLayAll0 ds) = true := by simpa [PyData.canLayAll0] using c
    rw [Bool.and_eq_true] at c'
    cases r with
    | cons r rs =>
      rcases List.mem_append.mp hb with hb | hb
      · exact reads_lt d _ _ r (fun kvs e => by subst e; simp [PyData.canLay0] at c') c'.1 b hb
      · exact readsAll_lt ds _ _ rs c'.2 b hb
end
/-! ### dicts looked at whole -/
theorem rawRd {X : Cx} {pins : List (Addr × Obj)} {σ : St} {H : Hp} {s : Shared} {d : Addr} {u : HO} (I : Inv X pins σ H s) (h : Rd H d u) (hu : IsD u) :
    ∃ o es ep, s.heap.get? d = some o ∧ o.ExactDict ∧ o.data = .dict es ep ∧ (d == sysModules) = false ∧ es.size = uLen u ∧ uLen u ≤ sizeLine ∧ ∀ i (hi : i < es.size), ∃ x y, KeyAt H u i x y ∧ RelV x es[i].key ∧ RelV y es[i].val := by
  cases u with
  | dK kvs =>
    obtain ⟨z, hs, vs, kv, dd⟩ := dk_rd I.hok h
    obtain ⟨es, ep, ⟨o, e1, e2, e3⟩, hz, hk⟩ := Heap.DictOf.raw dd
    have hl : kvs.length = vs.length := Paired.length kv
    refine ⟨o, es, ep, e1, e2, e3, hs, by rw [hz]; exact hl.symm, z, fun i hi => ?_⟩
    have hi2 : i < kvs.length := by omega
    obtain ⟨v, hv, rv⟩ := kv_get kv (show kvs[i]? = some ((kvs[i]).1, (kvs[i]).2) from List.getElem?_eq_getElem hi2)
    obtain ⟨e1, e2⟩ := hk i hi _ _ hv
    exact ⟨kV (kvs[i]).1, (kvs[i]).2, ⟨(kvs[i]).1, List.getElem?_eq_getElem hi2, rfl⟩, relV_key e1, by rw [e2]; exact rv⟩
  | dT kvs =>
    obtain ⟨z, hs, xs, kt, dd⟩ := dt_rd I.hok h
    obtain ⟨es, ep, ⟨o, e1, e2, e3⟩, hz, hk⟩ := Heap.DictOfH.raw dd
    have hl : kvs.length = xs.length := Paired.length kt
    refine ⟨o, es, ep, e1, e2, e3, hs, by rw [hz]; exact hl.symm, z, fun i hi => ?_⟩
    have hi2 : i < kvs.length := by omega
    obtain ⟨b, hb, _, e2, e3⟩ := L2.paired_get kt (show kvs[i]? = some ((kvs[i]).1, (kvs[i]).2) from List.getElem?_eq_getElem hi2)
    obtain ⟨y, hy, k1, k2, _⟩ := hk i hi
    rw [hb] at hy; cases hy
    exact ⟨.ref b.2.1, (kvs[i]).2, ⟨(kvs[i]).1, b.2.1, List.getElem?_eq_getElem hi2, rfl, e2⟩, by rw [k1] <;> rfl, by rw [k2]; exact e3⟩
  | _ => exact hu.elim
/-- the keys of a dict -/
def KeysAre (H : Hp) (u : HO) (ks : List V) : Prop := ks.length = uLen u ∧ ∀ i x, ks[i]? = some x → ∃ y, KeyAt H u i x y
theorem vals_build {n : Nat} {us : List Value} {G : Nat → V → Prop} (hl : us.length = n) (h : ∀ i u, us[i]? = some u → ∃ x, RelV x u ∧ G i x) : ∃ ks : List V, Vals ks us ∧ ∀ i x, ks[i]? = some x → G i x := by
  induction us generalizing n G with
  | nil => exact ⟨[], .nil, fun i x e => by simp at e⟩
  | cons u us ih =>
    obtain ⟨x, r, g⟩ := h 0 u rfl
    obtain ⟨ks, r2, g2⟩ := ih (n := us.length) (G := fun i => G (i + 1)) rfl fun i u' e => h (i + 1) u' (by simpa using e)
    refine ⟨x :: ks, .cons r r2, fun i y e => ?_⟩
    cases i with
    | zero => cases e; exact g
    | succ i => exact g2 i y (by simpa using e)
def rSrtD (K : PySem.W.Frag) : V → Hp → VK → Prop := fun x H Q => ∃ (p : Addr) (u : HO), x = .ref p ∧ Rd H p u ∧ IsD u ∧ ∀ ks, KeysAre H u ks → ∃ l : List D, DpAll K H ks (D.toPs l) ∧ D.pls l = true ∧ okSort l = true ∧ ks.length = l.length ∧
  ∀ q ys', H q = none → (∀ P : V → D → Prop, (∀ z ∈ ks.zip l, P z.1 z.2) → All2 P ys' (iSort dLe l)) → Q (.ref q) (upd H q (.lst ys'))
theorem each_and {us : List Value} {l : List D} {P Q : Value → D → Prop} (h : PySem.W.EachIs P us l) (k : ∀ u d, d ∈ l → P u d → Q u d) : PySem.W.EachIs Q us l := by
  induction h with
  | nil => exact .nil
  | cons h t ih => exact .cons (k _ _ List.mem_cons_self h) (ih fun u d m => k u d (List.mem_cons_of_mem _ m))
/-- sorted of a tuple that reads as deep things -/
def rSrtT (K : PySem.W.Frag) : V → Hp → VK → Prop := fun x H Q => ∃ (p : Addr) (ys : List V) (l : List D), x = .ref p ∧ SqT K H p ys ∧ DpAll K H ys (D.toPs l) ∧ D.pls l = true ∧ okSort l = true ∧ ys.length = l.length ∧
  ∀ q ys', H q = none → (∀ P : V → D → Prop, (∀ z ∈ ys.zip l, P z.1 z.2) → All2 P ys' (iSort dLe l)) → Q (.ref q) (upd H q (.lst ys'))
theorem cr_srtT {X : Cx} (hu : X.A.units + 64 < cLine) : CallR X (.builtin "sorted") (fun xs H Q => ∃ x, xs = [x] ∧ rSrtT X.K x H Q) := by
  intro pins s σ H xs us Q I r h
  obtain ⟨x, rfl, p, ks, l, rfl, hp, hdp, hpl, hso, hkl, q⟩ := h
  rw [Vals.ref1 r]
  obtain ⟨its, rv, ⟨o, ho, hc, n, hdat⟩, hz⟩ := I.tuple hp
  have hz' : its.toArray.size ≤ sizeLine := by rw [List.size_toArray, ← rv.length]; exact hz
  refine Calls.call_function_entry PyProof.Rows.kind_sorted PyProof.Rows.plain_sorted PyProof.Rows.entry_sorted (PyProof.Rows.args_sorted1 _) ?_
  unfold Builtin.«sorted»; refine wpAny_bind (m := checkCount "sorted" 1 1 _) (wpAny_pure ?_)
  refine wpAny_bind (wpAny_collect_seq p (T := "tuple") (.inr rfl) ho hc hdat (fun h' hkp => ?_) hz')
  have I1 : Inv X pins σ H { s with heap := h' } := I.kept (t' := s.toks) hkp
  obtain ⟨k1, k2, k3, k4⟩ := okSort_of hso
  refine wpAny_bind (wpAny_newList ?_ hz')
  have hoL : (h'.push (PyProof.Rows.seqObj "list" its.toArray.toList.toArray 0)).get? h'.objs.size = some (PyProof.Rows.seqObj "list" its.toArray.toList.toArray 0) := Heap.get?_push_size _ rfl
  have I2 : Inv X pins σ H { s with heap := h'.push (PyProof.Rows.seqObj "list" its.toArray.toList.toArray 0) } := I1.kept (t' := s.toks) fun b ob e => Heap.get?_push_of_some _ e
  have er1 := each_reads I1 rv hdp
  have er : PySem.W.EachIs (fun v d => ∃ as, Reads (h'.push (PyProof.Rows.seqObj "list" its.toArray.toList.toArray 0)) v (D.toP d) as ∧ h'.objs.size ∉ as) its l := each_and er1 fun v d m ⟨as, ra⟩ => by
    have cl := (pl_lay d (k2 d m).1).1
    have rk : Reads (h'.push (PyProof.Rows.seqObj "list" its.toArray.toList.toArray 0)) v (D.toP d) as := PyProof.Rows.Reads.keeps (fun b ob e => Heap.get?_push_of_some _ e) ra
    exact ⟨as, rk, fun mm => Nat.lt_irrefl _ (reads_lt _ _ _ ra (fun kvs e => by rw [e] at cl; simp [PyData.canLay0] at cl) cl _ mm)⟩
  have e1 := srel_of (all := ks.zip l) hkl rv fun p hp => hp
  refine wpAny_bind (wpAny_holding (PySem.W.list_sort_data (s := { s with heap := h'.push (PyProof.Rows.seqObj "list" its.toArray.toList.toArray 0) }) (A := X.A.in1) (enc := D.toP) hoL (by simpa using e1) (by simpa using er) k3 k4 k1 (fun d hd => ?_) fun out ho2 e2 => ?_))
  · have := (k2 d hd).2
    have h2 : X.A.in1.units ≤ X.A.units + 1 := by first | exact Nat.le_refl _ | simp [Around.in1]
    omega
  · have em : l.mergeSort (PySem.W.dataLe false D.toP) = iSort dLe l := by
      rw [iSort_ok dLe_total, show dLe = PySem.W.dataLe false D.toP from funext fun d => funext fun e => dLe_eq d e]
    rw [em] at e2
    obtain ⟨ys', v2, a2⟩ := srel_out e2
    obtain ⟨e', he'⟩ := PyProof.Rows.sortedHeap_at (vs := its.toArray.toList) (out := out.toArray) hoL
    have hlen : ys'.length ≤ sizeLine := by rw [v2.length, ho2]; exact k1
    refine wpAny_pure ⟨_, rfl, .ref h'.objs.size, upd H h'.objs.size (.lst ys'), I1.laid (t' := s.toks) (fun b ob e => ?_) (Nat.le_refl _) ⟨hlen, out, e', v2, he'⟩, rfl, q _ _ (I1.hok.fresh (Nat.le_refl _)) a2⟩
    exact (PyProof.Rows.sortedHeap_old (Nat.ne_of_lt (Heap.lt_size e)) (by rw [Heap.size_push]; exact Nat.lt_succ_of_lt (Heap.lt_size e))).trans (Heap.get?_push_of_some _ e)
theorem cr_srtD {X : Cx} (hc : X.calm = true) (hu : X.A.units + 64 < cLine) : CallR X (.builtin "sorted") (fun xs H Q => ∃ x, xs = [x] ∧ rSrtD X.K x H Q) := by
  intro pins s σ H xs us Q I r h
  obtain ⟨x, rfl, p, u, rfl, hp, hd, h⟩ := h
  rw [Vals.ref1 r]
  obtain ⟨o, es, ep, ho, hx, hes, lo, hz, hz2, hk⟩ := rawRd I hp hd
  refine Calls.call_function_entry PyProof.Rows.kind_sorted PyProof.Rows.plain_sorted PyProof.Rows.entry_sorted (PyProof.Rows.args_sorted1 _) ?_
  unfold Builtin.«sorted»; refine wpAny_bind (m := checkCount "sorted" 1 1 _) (wpAny_pure ?_)
  refine wpAny_bind (PySem.W.kdu_collect (A := X.A.in1) (kdl_raw lo hx hes) (I.ok.hd hc) ho (by omega) fun h' tk acc hkp hacc => ?_)
  have I1 : Inv X pins σ H { s with heap := h', toks := tk } := I.kept hkp
  have hl : acc.toList.length = es.size := by rw [Array.length_toList, hacc.1]
  obtain ⟨ks, rv, g⟩ := vals_build (G := fun i x => ∃ y, KeyAt H u i x y) hl fun i v e => by
    obtain ⟨en, e1, e2⟩ := hacc.2 i v (by rw [← Array.getElem?_toList]; exact e)
    obtain ⟨hi, e3⟩ := Array.getElem?_eq_some_iff.mp e1
    obtain ⟨x, y, ka, r1, _⟩ := hk i hi
    exact ⟨x, by rw [e2, ← e3]; exact r1, y, ka⟩
  obtain ⟨l, hdp, hpl, hso, hkl, q⟩ := h ks ⟨by rw [rv.length, hl, hz], g⟩
  obtain ⟨k1, k2, k3, k4⟩ := okSort_of hso
  refine wpAny_bind (wpAny_newList ?_ (by rw [hl, hz]; exact hz2))
  have hoL : (h'.push (PyProof.Rows.seqObj "list" acc.toList.toArray 0)).get? h'.objs.size = some (PyProof.Rows.seqObj "list" acc.toList.toArray 0) := Heap.get?_push_size _ rfl
  have I2 : Inv X pins σ H { s with heap := h'.push (PyProof.Rows.seqObj "list" acc.toList.toArray 0), toks := tk } := I1.kept (t' := tk) fun b ob e => Heap.get?_push_of_some _ e
  have er1 := each_reads I1 rv hdp
  have er : PySem.W.EachIs (fun v d => ∃ as, Reads (h'.push (PyProof.Rows.seqObj "list" acc.toList.toArray 0)) v (D.toP d) as ∧ h'.objs.size ∉ as) acc.toList l := each_and er1 fun v d m ⟨as, ra⟩ => by
    have cl := (pl_lay d (k2 d m).1).1
    have rk : Reads (h'.push (PyProof.Rows.seqObj "list" acc.toList.toArray 0)) v (D.toP d) as := PyProof.Rows.Reads.keeps (fun b ob e => Heap.get?_push_of_some _ e) ra
    exact ⟨as, rk, fun mm => Nat.lt_irrefl _ (reads_lt _ _ _ ra (fun kvs e => by rw [e] at cl; simp [PyData.canLay0] at cl) cl _ mm)⟩
  have e1 := srel_of (all := ks.zip l) hkl rv fun p hp => hp
  refine wpAny_bind (wpAny_holding (PySem.W.list_sort_data (s := { s with heap := h'.push (PyProof.Rows.seqObj "list" acc.toList.toArray 0), toks := tk }) (A := X.A.in1) (enc := D.toP) hoL e1 er k3 k4 k1 (fun d hd => ?_) fun out ho2 e2 => ?_))
  · have := (k2 d hd).2
    have h2 : X.A.in1.units ≤ X.A.units + 1 := by first | exact Nat.le_refl _ | simp [Around.in1]
    omega
  · have em : l.mergeSort (PySem.W.dataLe false D.toP) = iSort dLe l := by
      rw [iSort_ok dLe_total, show dLe = PySem.W.dataLe false D.toP from funext fun d => funext fun e => dLe_eq d e]
    rw [em] at e2
    obtain ⟨ys', v2, a2⟩ := srel_out e2
    obtain ⟨e', he'⟩ := PyProof.Rows.sortedHeap_at (vs := acc.toList) (out := out.toArray) hoL
    have hlen : ys'.length ≤ sizeLine := by rw [v2.length, ho2]; exact k1
    refine wpAny_pure ⟨_, rfl, .ref h'.objs.size, upd H h'.objs.size (.lst ys'), I1.laid (t' := tk) (fun b ob e => ?_) (Nat.le_refl _) ⟨hlen, out, e', v2, he'⟩, rfl, q _ _ (I1.hok.fresh (Nat.le_refl _)) a2⟩
    exact (PyProof.Rows.sortedHeap_old (Nat.ne_of_lt (Heap.lt_size e)) (by rw [Heap.size_push]; exact Nat.lt_succ_of_lt (Heap.lt_size e))).trans (Heap.get?_push_of_some _ e)
end Ev
end

section
set_option Elab.async false
set_option linter.all false
/-! EvM: calls of built-ins by one rule, and what they tell. -/
namespace Ev
open PySem PySem.Spec L2
set_option autoImplicit false
section
variable {X : Cx} {ct : Ct} {e e2 : Expr} {p pos : Pos} {x : Str} {a b : A} {f : D → Option S} {g : D → D → Option S} {id T : String} {r : List V → Hp → VK → Prop}
theorem sf_b1 (hc : CallR X (.builtin id) r) (k : UnOk X ct (fun x H Q => r [x] H Q) f) (hg : Gl X x) (hm : X.mg x = none) (hv : bootBuiltins x = some (.builtin id)) (ha : AE X ct e a) (hn : x ≠ "__name__" := by decide) (hdb : (x == ("__debug__" : Str)) = false := by decide)
    (he : starEach [e] X.env = (false, eval e X.env) :: starEach [] X.env := by rfl) (hpl : (backTo pos (starEach [] X.env)).any (·.1) = false := by rfl) : SF X ct (.Call (.Name x p) [e] [] pos) (m1 f a) :=
  PEimp (pe_callB hc hg hm hv (pa_cons ha pa_nil he) hn hdb he hpl) fun σV H Q ⟨F, σ, w, s, σ', e, q⟩ => m1_ok k w e q
theorem sf_t1 (hc : CallR X (.type T) r) (k : UnOk X ct (fun x H Q => r [x] H Q) f) (hg : Gl X x) (hm : X.mg x = none) (hv : bootBuiltins x = some (.type T)) (ha : AE X ct e a) (hn : x ≠ "__name__" := by decide) (hdb : (x == ("__debug__" : Str)) = false := by decide)
    (he : starEach [e] X.env = (false, eval e X.env) :: starEach [] X.env := by rfl) (hpl : (backTo pos (starEach [] X.env)).any (·.1) = false := by rfl) : SF X ct (.Call (.Name x p) [e] [] pos) (m1 f a) :=
  PEimp (pe_callTy hc hg hm hv (pa_cons ha pa_nil he) hn hdb he hpl) fun σV H Q ⟨F, σ, w, s, σ', e, q⟩ => m1_ok k w e q
theorem sf_b2 (hc : CallR X (.builtin id) r) (k : OpOk X ct (fun x y H Q => r [x, y] H Q) g) (hg : Gl X x) (hm : X.mg x = none) (hv : bootBuiltins x = some (.builtin id)) (ha : AE X ct e a) (hb : AE X ct e2 b) (hn : x ≠ "__name__" := by decide) (hdb : (x == ("__debug__" : Str)) = false := by decide)
    (he : starEach [e, e2] X.env = (false, eval e X.env) :: starEach [e2] X.env := by rfl) (he2 : starEach [e2] X.env = (false, eval e2 X.env) :: starEach [] X.env := by rfl) (hpl : (backTo pos (starEach [e2] X.env)).any (·.1) = false := by rfl) : SF X ct (.Call (.Name x p) [e, e2] [] pos) (m2 g a b) :=
  PEimp (pe_callB hc hg hm hv (pa_cons ha (pa_cons hb pa_nil he2) he) hn hdb he hpl) fun σV H Q ⟨F, σ, w, s, σ', e, q⟩ => m2_ok k w e q
end
/-! ### sorted -/
def fSort : D → Option S
  | .lst l => if okSort l = true then some (.ls false (iSort dLe l)) else none
  | .dct _ l => if (okSort (l.map (·.1)) && D.pls (l.map (·.1))) = true then some (.ls false (iSort dLe (l.map (·.1)))) else none
  | .tup _ l => if okSort l = true then some (.ls false (iSort dLe l)) else none
  | _ => none
abbrev rSorted (K : PySem.W.Frag) : List V → Hp → VK → Prop := fun xs H Q => (∃ x, xs = [x] ∧ rSrt K x H Q) ∨ (∃ x, xs = [x] ∧ rSrtD K x H Q) ∨ (∃ x, xs = [x] ∧ rSrtT K x H Q)
section
variable {X : Cx} {ct : Ct}
theorem cr_sort (hc : X.calm = true) (hu : X.A.units + 64 < cLine) : CallR X (.builtin "sorted") (rSorted X.K) := CallR.or (cr_srt hu) (CallR.or (cr_srtD hc hu) (cr_srtT hu))
theorem pls_all : ∀ {l : List D}, (∀ d ∈ l, d.pl = true) → D.pls l = true
  | [], _ => rfl
  | d :: l, h => by
    show (d.pl && D.pls l) = true
    rw [h d List.mem_cons_self, pls_all fun e m => h e (List.mem_cons_of_mem _ m)]; rfl
theorem keys_grow {F H : Hp} (le : Le F H) {t : Bool} {l : List (D × D)} {u : HO} (r : DctO X.K ct F t l u) {ks : List V} (hk : KeysAre H u ks) : ∀ n, n ≤ l.length → ∃ F3, Grw F H F3 H ∧ DReps X.K ct F3 ((l.map (·.1)).take n) (ks.take n)
  | 0, _ => ⟨F, Grw.refl le, by simp only [List.take_zero]; exact rfl⟩
  | n + 1, hn => by
    obtain ⟨F2, g, q⟩ := keys_grow le r hk n (by omega)
    have hl : l.length = ks.length := by rw [hk.1, (dct_isD r).2]
    obtain ⟨x, hx⟩ : ∃ x, ks[n]? = some x := ⟨ks[n]'(by omega), List.getElem?_eq_getElem (by omega)⟩
    obtain ⟨y, ka⟩ := hk.2 n x hx
    obtain ⟨F3, k, d, g2, h1, r1, _⟩ := keyAt_rep r g.le g.le' ka
    have hd : (l.map (·.1))[n]? = some k := by rw [List.getElem?_map, h1]; rfl
    refine ⟨F3, g.trans g2, ?_⟩
    rw [List.take_succ, List.take_succ, hx, hd]
    exact DReps.append (DReps.mono g2.le _ _ q) (DReps.one r1)
theorem k_sort : UnOk X ct (fun x H Q => rSorted X.K [x] H Q) fSort := fun F H d c x Q le hf rx q => by
  unfold fSort at hf
  split at hf
  · rename_i l
    split at hf
    · rename_i h
      cases hf
      obtain ⟨a, vs, rfl, ha, r⟩ := rx
      have hp := pls_all fun d m => ((okSort_of h).2.1 d m).1
      exact .inl ⟨_, rfl, a, vs, l, rfl, SqL.of ha, dps_le le _ _ (dps_of l vs hp r), h, r.length.symm, fun p ys' hq al => q _ F _ (Grw.lay le hq) ⟨rfl, p, ys', rfl, hq, le.none hq, upd_same, all2_reps (al _ (reps_zip r))⟩⟩
    · cases hf
  · rename_i t l
    split at hf
    · rename_i h
      rw [Bool.and_eq_true] at h
      cases hf
      obtain ⟨a, u, rfl, hu, r⟩ := rx
      refine .inr (.inl ⟨_, rfl, a, u, rfl, hu, (dct_isD r).1, fun ks hk => ?_⟩)
      obtain ⟨F3, g, rs⟩ := keys_grow le r hk l.length (Nat.le_refl _)
      have hl : l.length = ks.length := by rw [hk.1, (dct_isD r).2]
      rw [List.take_of_length_le (by simp), List.take_of_length_le (by omega)] at rs
      exact ⟨l.map (·.1), dps_le g.le' _ _ (dps_of _ _ h.2 rs), h.2, h.1, by simp [hl], fun p ys' hq al => q _ F3 _ (g.trans (Grw.lay g.le' hq)) ⟨rfl, p, ys', rfl, hq, g.le'.none hq, upd_same, all2_reps (al _ (reps_zip rs))⟩⟩
    · cases hf
  · rename_i kt l
    split at hf
    · rename_i h
      cases hf
      obtain ⟨a, vs, rfl, ha, r⟩ := rx
      have hp := pls_all fun d m => ((okSort_of h).2.1 d m).1
      exact .inr (.inr ⟨_, rfl, a, vs, l, rfl, le.sqt ha.sqt, dps_le le _ _ (dps_of l vs hp r), hp, h, r.length.symm, fun p ys' hq al => q _ F _ (Grw.lay le hq) ⟨rfl, p, ys', rfl, hq, le.none hq, upd_same, all2_reps (al _ (reps_zip r))⟩⟩)
    · cases hf
  · cases hf
/-! ### len -/
def rLn (K : PySem.W.Frag) : List V → Hp → VK → Prop := fun xs H Q => (∃ x n, xs = [x] ∧ LenV K x H n ∧ Q (.int n) H) ∨ ∃ a u, xs = [.ref a] ∧ Rd H a u ∧ IsD u ∧ Q (.int (uLen u : Nat)) H
theorem cr_len : CallR X (.builtin "len") (rLn X.K) := fun pins s σ H xs us Q I r h => by
  rcases h with h | ⟨a, u, rfl, hu, hd, q⟩
  · exact call_len pins s σ H xs us Q I r h
  · obtain ⟨v, rfl, ru⟩ := vals1 r
    obtain rfl : v = .ref a := ru
    cases u with
    | dK kvs => exact d_len I hu fun t s' I' => ⟨.int kvs.length, H, I', ⟨t, rfl⟩, q⟩
    | dT kvs =>
      obtain ⟨z, hs, ys, rel, dd⟩ := dt_rd I.hok hu
      have hl : kvs.length = ys.length := Paired.length rel
      refine call_len_dictH hs dd (by rw [← hl]; rw [sizeLine_eq] at z; omega) ?_
      rw [← hl]
      exact ⟨.int ((kvs.length : Nat) : Int), H, I.tok _, ⟨_, rfl⟩, q⟩
    | _ => exact hd.elim
def fLen : D → Option S
  | .lst l => some (.imm (.int l.length))
  | .tup _ l => some (.imm (.int l.length))
  | .scr l => some (.imm (.int l.length))
  | .dct _ l => some (.imm (.int l.length))
  | .str x => if x.length ≤ LIM then some (.imm (.int x.length)) else none
  | _ => none
theorem k_len : UnOk X ct (fun x H Q => rLn X.K [x] H Q) fLen := fun F H d c x Q le hf rx q => by
  cases d with
  | lst l =>
    cases hf
    obtain ⟨a, vs, rfl, ha, r⟩ := rx
    exact .inl ⟨_, vs.length, rfl, .inl ⟨vs, SqL.of ha, rfl⟩, q _ F H (Grw.refl le) (by rw [r.length]; exact rfl)⟩
  | tup k l =>
    cases hf
    obtain ⟨a, vs, rfl, ha, r⟩ := rx
    exact .inl ⟨_, vs.length, rfl, .inr ⟨vs, le.sqt ha.sqt, rfl⟩, q _ F H (Grw.refl le) (by rw [r.length]; exact rfl)⟩
  | scr l =>
    cases hf
    obtain ⟨a, rfl, ha⟩ := rx
    exact .inl ⟨_, (l.map V.int).length, rfl, .inl ⟨_, le.sql ha, rfl⟩, q _ F H (Grw.refl le) (by rw [List.length_map]; exact rfl)⟩
  | dct t l =>
    cases hf
    obtain ⟨a, u, rfl, hu, r⟩ := rx
    obtain ⟨h1, h2⟩ := dct_isD r
    exact .inr ⟨a, u, rfl, hu, h1, q _ F H (Grw.refl le) (by rw [h2]; exact rfl)⟩
  | str y =>
    have hf : (if y.length ≤ LIM then some (S.imm (.int y.length)) else none) = some c := hf
    split at hf
    · rename_i h
      cases hf
      cases (show x = .str y from rx)
      exact .inl ⟨_, y.length, rfl, ⟨by rw [← LIM_eq]; exact h, rfl⟩, q _ F H (Grw.refl le) rfl⟩
    · cases hf
  | _ => cases hf
/-! ### tuple, list, int, abs, sum, all, any, min, max -/
theorem call_tupK : CallR X (.type "tuple") (fun xs H Q => ∃ p ys, xs = [.ref p] ∧ SqL X.K H p ys ∧ ∀ l (od : Obj), H l = none → od.dict = none → Q (.ref l) (upd H l (.frz od (.tup ys)))) := by
  intro pins s σ H xs us Q I r h
  obtain ⟨p, ys, rfl, hq, q⟩ := h
  obtain ⟨u, rfl, rx⟩ := vals1 r
  cases rx
  obtain ⟨its, r', pl, hz⟩ := I.list hq
  have hlen := r'.length
  refine call_tuple_list pl.isList (fun h' kp => ?_) (by simp only [List.size_toArray] <;> omega)
  have I1 : Inv X pins σ H { s with heap := h' } := I.kept (t' := s.toks) kp
  have I2 : Inv X pins σ (upd H h'.objs.size (.frz { cls := .type "tuple", data := .seq its.toArray } (.tup ys))) { s with heap := h'.push { cls := .type "tuple", data := .seq its.toArray } } :=
    I1.laid (t' := s.toks) (fun b o e => Heap.get?_push_of_some _ e) (Nat.le_refl _) ⟨Heap.get?_push_size _ rfl, hz, its, r', PyProof.Rows.IsTup.new _ _⟩
  exact ⟨.ref h'.objs.size, _, I2, rfl, q _ _ (I1.hok.fresh (Nat.le_refl _)) rfl⟩
def fTup : D → Option S
  | .lst l => some (.imm (.tup (dictable l) l))
  | .tup k l => some (.imm (.tup k l))
  | _ => none
abbrev rTup (K : PySem.W.Frag) : List V → Hp → VK → Prop := fun xs H Q => (∃ p ys, xs = [.ref p] ∧ SqL K H p ys ∧ ∀ l (od : Obj), H l = none → od.dict = none → Q (.ref l) (upd H l (.frz od (.tup ys)))) ∨
  (∃ p ys, xs = [.ref p] ∧ ((SqL K H p ys ∧ ∀ l, H l = none → Q (.ref l) (upd H l (.tup ys))) ∨ (SqT K H p ys ∧ Q (.ref p) H)))
theorem cr_tup : CallR X (.type "tuple") (rTup X.K) := CallR.or call_tupK call_tuple_of
theorem k_tup : UnOk X ct (fun x H Q => rTup X.K [x] H Q) fTup := fun F H d c x Q le hf rx q => by
  cases d with
  | lst l =>
    cases hf
    obtain ⟨a, vs, rfl, ha, r⟩ := rx
    cases hd : dictable l with
    | true =>
      refine .inl ⟨a, vs, rfl, SqL.of ha, fun p od hp ho => ?_⟩
      have g := Grw.new (o := .frz od (.tup vs)) le hp
      exact q _ _ _ g (by rw [hd]; exact ⟨p, vs, rfl, ⟨od, upd_same, ho⟩, DReps.mono g.le _ _ r⟩)
    | false =>
      refine .inr ⟨a, vs, rfl, .inl ⟨SqL.of ha, fun p hp => ?_⟩⟩
      have g := Grw.new (o := .tup vs) le hp
      exact q _ _ _ g (by rw [hd]; exact ⟨p, vs, rfl, upd_same, DReps.mono g.le _ _ r⟩)
  | tup k l =>
    cases hf
    obtain ⟨a, vs, rfl, ha, r⟩ := rx
    exact .inr ⟨a, vs, rfl, .inr ⟨le.sqt ha.sqt, q _ F H (Grw.refl le) ⟨a, vs, rfl, ha, r⟩⟩⟩
  | _ => cases hf
def fList : D → Option S
  | .lst l => some (.ls false l)
  | .tup _ l => some (.ls false l)
  | .scr l => some (.ls false (l.map .int))
  | _ => none
theorem k_list : UnOk X ct (fun x H Q => ∃ p ys, [x] = [V.ref p] ∧ (SqL X.K H p ys ∨ SqT X.K H p ys) ∧ ∀ l, H l = none → Q (.ref l) (upd H l (.lst ys))) fList := fun F H d c x Q le hf rx q => by
  have fin : ∀ {a : Addr} {vs : List V} {l : List D}, DReps X.K ct F l vs → (SqL X.K H a vs ∨ SqT X.K H a vs) → (∀ v F' H', Grw F H F' H' → GRep X.K ct H F' H' (.ls false l) v → Q v H') → ∃ p ys, [V.ref a] = [V.ref p] ∧ (SqL X.K H p ys ∨ SqT X.K H p ys) ∧ ∀ l, H l = none → Q (.ref l) (upd H l (.lst ys)) :=
    fun {a vs l} r h q => ⟨a, vs, rfl, h, fun p hp => q _ F _ (Grw.lay le hp) ⟨rfl, p, vs, rfl, hp, le.none hp, upd_same, r⟩⟩
  cases d with
  | lst l => cases hf; obtain ⟨a, vs, rfl, ha, r⟩ := rx; exact fin r (.inl (SqL.of ha)) q
  | tup k l => cases hf; obtain ⟨a, vs, rfl, ha, r⟩ := rx; exact fin r (.inr (le.sqt ha.sqt)) q
  | scr l => cases hf; obtain ⟨a, rfl, ha⟩ := rx; exact fin (ints_map l) (.inl (le.sql ha)) q
  | _ => cases hf
def fInt : D → Option S
  | .int i => some (.imm (.int i))
  | .bl b => some (.imm (.int (if b then 1 else 0)))
  | _ => none
theorem k_int1 : UnOk X ct (fun x H Q => (∃ i, [x] = [V.int i] ∧ Q (.int i) H) ∨ ∃ k, [x] = [V.bl k] ∧ Q (.int (if k then 1 else 0)) H) fInt := fun F H d c x Q le hf rx q => by
  cases d with
  | int i => cases hf; cases (show x = .int i from rx); exact .inl ⟨i, rfl, q _ F H (Grw.refl le) rfl⟩
  | bl b => cases hf; cases (show x = .bl b from rx); exact .inr ⟨b, rfl, q _ F H (Grw.refl le) rfl⟩
  | _ => cases hf
def fAbs : D → Option S
  | .int i => some (.imm (.int (if i < 0 then -i else i)))
  | _ => none
theorem k_abs : UnOk X ct (fun x H Q => ∃ i, [x] = [V.int i] ∧ Q (.int (if i < 0 then -i else i)) H) fAbs := fun F H d c x Q le hf rx q => by
  cases d with
  | int i => cases hf; cases (show x = .int i from rx); exact ⟨i, rfl, q _ F H (Grw.refl le) rfl⟩
  | _ => cases hf
def fMax2 (d e : D) : Option S := match d, e with
  | .int i, .int j => some (.imm (.int (if j > i then j else i)))
  | _, _ => none
def fMin2 (d e : D) : Option S := match d, e with
  | .int i, .int j => some (.imm (.int (if j < i then j else i)))
  | _, _ => none
theorem k_max2 : OpOk X ct (fun x y H Q => ∃ i j, [x, y] = [V.int i, V.int j] ∧ Q (.int (if j > i then j else i)) H) fMax2 := fun F H d e c x y Q le hf rx ry q => by
  unfold fMax2 at hf
  split at hf
  · rename_i i j; cases hf; cases (show x = .int i from rx); cases (show y = .int j from ry); exact ⟨i, j, rfl, q _ F H (Grw.refl le) rfl⟩
  · cases hf
theorem k_min2 : OpOk X ct (fun x y H Q => ∃ i j, [x, y] = [V.int i, V.int j] ∧ Q (.int (if j < i then j else i)) H) fMin2 := fun F H d e c x y Q le hf rx ry q => by
  unfold fMin2 at hf
  split at hf
  · rename_i i j; cases hf; cases (show x = .int i from rx); cases (show y = .int j from ry); exact ⟨i, j, rfl, q _ F H (Grw.refl le) rfl⟩
  · cases hf
def D.bls : List D → Option (List Bool)
  | [] => some []
  | .bl b :: l => (match D.bls l with
    | some bs => some (b :: bs)
    | none => none)
  | _ :: _ => none
theorem bls_rep {K F} : ∀ {l : List D} {bs : List Bool} {vs : List V}, D.bls l = some bs → DReps K ct F l vs → vs = bs.map V.bl
  | [], _, _, h, r => by cases h; exact r
  | d :: l, bs, _, h, ⟨v, t, e, r, q⟩ => by
    cases d with
    | bl b =>
      simp only [D.bls] at h
      split at h
      · rename_i cs h1
        cases h
        rw [e, show v = .bl b from r, bls_rep h1 q] <;> rfl
      · cases h
    | _ => simp [D.bls] at h
def fAll : D → Option S
  | .lst l => (match D.bls l with
    | some bs => some (.imm (.bl (bs.all id)))
    | none => none)
  | _ => none
def fAny : D → Option S
  | .lst l => (match D.bls l with
    | some bs => some (.imm (.bl (bs.any id)))
    | none => none)
  | _ => none
def fSum : D → Option S
  | .lst l => (match D.ints l with
    | some ns => some (.imm (.int ns.sum))
    | none => none)
  | _ => none
theorem k_all : UnOk X ct (fun x H Q => rAll X.K [x] H Q) fAll := fun F H d c x Q le hf rx q => by
  unfold fAll at hf
  split at hf
  · split at hf
    · rename_i l _ bs h1
      cases hf
      obtain ⟨a, vs, rfl, ha, r⟩ := rx
      rw [bls_rep h1 r] at ha
      exact ⟨a, bs, rfl, SqL.of ha, q _ F H (Grw.refl le) rfl⟩
    · cases hf
  · cases hf
theorem k_any : UnOk X ct (fun x H Q => rAny X.K [x] H Q) fAny := fun F H d c x Q le hf rx q => by
  unfold fAny at hf
  split at hf
  · split at hf
    · rename_i l _ bs h1
      cases hf
      obtain ⟨a, vs, rfl, ha, r⟩ := rx
      rw [bls_rep h1 r] at ha
      exact ⟨a, bs, rfl, SqL.of ha, q _ F H (Grw.refl le) rfl⟩
    · cases hf
  · cases hf
theorem k_sum : UnOk X ct (fun x H Q => rSum X.K [x] H Q) fSum := fun F H d c x Q le hf rx q => by
  unfold fSum at hf
  split at hf
  · split at hf
    · rename_i l _ ns h1
      cases hf
      obtain ⟨a, vs, rfl, ha, r⟩ := rx
      rw [ints_rep h1 r] at ha
      exact ⟨a, ns, rfl, SqL.of ha, q _ F H (Grw.refl le) rfl⟩
    · cases hf
  · cases hf
end
/-! ### isinstance of built-in types -/
inductive Ty where
  | non | bl | int | str | tup | lst | dct
deriving DecidableEq
def Ty.name : Ty → String
  | .non => "NoneType"
  | .bl => "bool"
  | .int => "int"
  | .str => "str"
  | .tup => "tuple"
  | .lst => "list"
  | .dct => "dict"
def D.ty : D → Option Ty
  | .non => some .non
  | .bl _ => some .bl
  | .int _ => some .int
  | .str _ => some .str
  | .tup _ _ => some .tup
  | .lst _ => some .lst
  | .dct false _ => some .dct
  | _ => none
def isSub (a b : Ty) : Bool := decide (a = b) || (decide (a = .bl) && decide (b = .int))
theorem isSub_ok (a b : Ty) : kitB a.name b.name = some (isSub a b) := by
  cases a <;> cases b <;> decide +kernel
def fIsi (T : Ty) (d _ : D) : Option S := match d.ty with
  | some t => some (.imm (.bl (isSub t T)))
  | none => none
section
variable {X : Cx} {ct : Ct}
theorem tyX_of {K : PySem.W.Frag} {F H : Hp} (le : Le F H) {d : D} {x : V} {t : Ty} (r : VRep K ct F H d x) (h : d.ty = some t) : TyX K H x (.type t.name) := by
  cases d with
  | non => cases h; rw [show x = .non from r]; exact .base .non
  | bl b => cases h; rw [show x = .bl b from r]; exact .base (.bl b)
  | int i => cases h; rw [show x = .int i from r]; exact .base (.int i)
  | str y => cases h; rw [show x = .str y from r]; exact .base (.str y)
  | tup k l =>
    cases h
    obtain ⟨a, vs, rfl, ha, _⟩ := r
    cases k with
    | false => exact .base (.tup (le _ _ ha))
    | true => obtain ⟨od, ha, _⟩ := ha; exact .fTuple (le _ _ ha)
  | lst l => cases h; obtain ⟨a, vs, rfl, ha, _⟩ := r; exact .base (.lst ha)
  | dct k l =>
    cases k with
    | true => cases h
    | false =>
      cases h
      obtain ⟨a, u, rfl, ha, hu⟩ := r
      rcases hu with ⟨_, es, rfl, _⟩ | ⟨z, _⟩
      · rcases ha with ha | ⟨od, ha⟩
        · exact .base (.dK ha)
        · exact .fDict ha
      · cases z
  | _ => cases h
/-- isinstance(x, T): T a built-in type's name -/
theorem sf_isi {e : Expr} {p pos p2 : Pos} {y : Str} {a : A} {T : Ty} (hg : Gl X "isinstance") (hm : X.mg "isinstance" = none) (hgy : Gl X y) (hmy : X.mg y = none) (hvy : bootBuiltins y = some (.type T.name)) (ha : AE X ct e a)
    (hny : y ≠ "__name__" := by decide) (hdy : (y == ("__debug__" : Str)) = false := by decide) (hv : bootBuiltins "isinstance" = some (.builtin "isinstance") := by decide +kernel)
    (he : starEach [e, .Name y p2] X.env = (false, eval e X.env) :: starEach [.Name y p2] X.env := by rfl) (he2 : starEach [.Name y p2] X.env = (false, eval (.Name y p2) X.env) :: starEach [] X.env := by rfl) (hpl : (backTo pos (starEach [.Name y p2] X.env)).any (·.1) = false := by rfl) :
    SF X ct (.Call (.Name "isinstance" p) [e, .Name y p2] [] pos) (m1 (fun d => fIsi T d d) a) :=
  PEimp (pe_callB call_isi hg hm hv (pa_cons ha (pa_cons (pe_bltn (v := .ty T.name) hgy hmy hvy rfl hny hdy) pa_nil he2) he) (by decide) (by decide) he hpl) fun σV H Q ⟨F, σ, w, s, σ', e, q⟩ =>
    m1_ok (r := fun x H Q => rIsi X.K [x, .ty T.name] H Q) (fun F H d c x Q le hf rx q => by
      unfold fIsi at hf
      split at hf
      · rename_i t h1
        cases hf
        exact ⟨x, _, _, _, _, rfl, .ty _, tyX_of le rx h1, kit_ty (isSub_ok t T), q _ F H (Grw.refl le) rfl⟩
      · cases hf) w e q
end
end Ev
end

section
set_option Elab.async false
set_option linter.all false
/-! EvN: own things written; dicts; fields; chains; truth; is. -/
namespace Ev
open PySem PySem.Spec L2
set_option autoImplicit false
section
variable {K : PySem.W.Frag} {ct : Ct} {F H : Hp} {σV : St} {σ : Fr}
/-- an own thing is written -/
theorem Stp.wr (w : Wd K ct F H σV σ) {i : Nat} {s s' : S} {a : Addr} {o : HO} (e : σ[i]? = some (some s)) (so : s.own = true) (ev : σV[i]? = some (some (.ref a))) (r : SRep K ct F (upd H a o) s' (.ref a)) (io : s'.io = s.io) : Stp K ct F H σV σ F (upd H a o) σV (σ.set i (some s')) := by
  have ow : Own σV σ a := ⟨i, s, e, so, ev⟩
  have fa := (w.own ow).1
  refine ⟨⟨fun b q z => ?_, fun j t ej => ?_, fun j k t t' b ej ek to to' bj bk => ?_, by simp; exact w.ln, fun p hp => let ⟨_, _, hu, nu⟩ := w.own ow; tab_upd hu nu (w.tb p hp), w.nt⟩, Le.refl F, fun b q h n => ?_, fun _ h => upd_none h, fun b z => .inl z, fun b z => ?_, fun j t ej tio => ?_, by simp⟩
  · rw [upd_ne fun y => by subst y; rw [fa] at z; cases z]; exact w.le b q z
  · rcases set_get ej with ⟨rfl, rfl⟩ | ⟨hj, fj⟩
    · exact ⟨_, ev, r⟩
    · obtain ⟨v', e1, r1⟩ := w.slot j t fj
      refine ⟨v', e1, r1.keep (Le.refl F) fun to b eb => ?_⟩
      subst eb
      have nb : b ≠ a := fun z => by subst z; exact hj (w.dis j i t s b fj e to so e1 ev)
      exact ⟨(w.own ⟨j, t, fj, to, e1⟩).1, by rw [upd_ne nb]⟩
  · have old : ∀ {j : Nat} {t : S}, (σ.set i (some s'))[j]? = some (some t) → t.own = true → ∃ u, σ[j]? = some (some u) ∧ u.own = true := fun {j t} ej to => by
      rcases set_get ej with ⟨rfl, rfl⟩ | ⟨_, fj⟩
      · exact ⟨s, e, so⟩
      · exact ⟨t, fj, to⟩
    obtain ⟨u, fj, uo⟩ := old ej to
    obtain ⟨u', fk, uo'⟩ := old ek to'
    exact w.dis j k u u' b fj fk uo uo' bj bk
  · refine .inl ?_; rw [upd_ne fun z => n (by subst z; exact ow)]; exact h
  · obtain ⟨j, t, ej, to, bj⟩ := z
    rcases set_get ej with ⟨rfl, rfl⟩ | ⟨_, fj⟩
    · exact .inl ⟨j, s, e, so, bj⟩
    · exact .inl ⟨j, t, fj, to, bj⟩
  · by_cases hj : j = i
    · subst hj
      rw [e] at ej; cases ej
      exact ⟨⟨s', by rw [List.getElem?_set_self (List.getElem?_eq_some_iff.mp e).1], by rw [io]; exact tio⟩, rfl⟩
    · exact ⟨⟨t, by rw [List.getElem?_set_ne (Ne.symm hj)]; exact ej, tio⟩, rfl⟩
end
/-! ### x[k] = v -/
def mPut (i : Nat) (mk mv : M D) : M Fl := fun σ => match mv σ with
  | some (v, σ1) => (match vw σ1 i, mk σ1 with
    | some _, some (k, σ2) => (match σ2[i]? with
      | some (some (.ls io l)) => (match k with
        | .int n => (match ixN l.length n with
          | some j => some (.nx, σ2.set i (some (.ls io (l.set j v))))
          | none => none)
        | _ => none)
      | some (some (.ds io t l)) => if (keyOk t k && decide (l.length < LIM)) = true then some (.nx, σ2.set i (some (.ds io t (dPut l k v)))) else none
      | _ => none)
    | _, _ => none)
  | none => none
theorem vw_some {K ct} {F H : Hp} {σV : St} {σ : Fr} (w : Wd K ct F H σV σ) {i : Nat} {d : D} (h : vw σ i = some d) : ∃ v, σV[i]? = some (some v) := by
  unfold vw at h
  split at h
  · rename_i s e
    obtain ⟨v, e1, _⟩ := w.slot i s e
    exact ⟨v, e1⟩
  · cases h
section
variable {X : Cx} {ct : Ct} {pos apos : Pos} {o k e : Expr} {i : Nat} {mk mv : M D}
theorem PSet.or {r r' : TSet} (h : PSet X r) (h' : PSet X r') : PSet X fun o i v H Q => r o i v H Q ∨ r' o i v H Q := fun pins s σ H o i v ov iv u Q I ro ri rv q => q.elim (h pins s σ H o i v ov iv u Q I ro ri rv) (h' pins s σ H o i v ov iv u Q I ro ri rv)
theorem ss_put (hu : X.A.units + 1 < cLine) (ho : PE X o (tVar i)) (hk : SE X ct k mk) (hv : SE X ct e mv) (ha : ∀ v, assign (.Subscript o k apos) X.env v = (do
      let ov ← holding [v] (eval o X.env)
      let iv ← holding [v, ov] (eval k X.env)
      standAt apos
      holding [v, ov, iv] (setItem ov iv v)
      release [v, ov, iv] []) := by intro _; rfl) (hs : swapsWithSole [.Subscript o k apos] e pos.line X.env = pure false := by rfl) (hw : swappedStores [.Subscript o k apos] e X.env = pure none := by rfl)
    (h1 : (assignEach [.Subscript o k apos] X.env).map (·.2) = [assign (.Subscript o k apos) X.env] := by rfl) : SS X ct (.Assign [.Subscript o k apos] e pos) (mPut i mk mv) :=
  PSimp (ps_asg hv (pg_sub ho hk (PSet.or set_list (set_dict hu)) ha) hs hw h1) fun D σV H ⟨F, σ, w, f, σ', e, q⟩ => by
  unfold mPut at e
  split at e
  · rename_i v σ1 h1
    split at e
    · rename_i d0 kd σ2 h0 h2
      refine ⟨F, σ, w, v, σ1, h1, fun vv H1 F1 st1 rv => ?_⟩
      obtain ⟨ov, eo⟩ := vw_some st1.w h0
      refine ⟨ov, eo, F1, σ1, st1.w, kd, σ2, h2, fun kv H2 F2 st2 rk => ?_⟩
      have st := st1.trans st2
      have rv2 := DRep.mono st2.le v vv rv
      split at e
      · rename_i io l h3
        split at e
        · rename_i n
          split at e
          · rename_i j hj
            cases e
            obtain ⟨ov', eo', a, vs, rfl, fa, ha, r⟩ := st2.w.slot i _ h3
            rw [eo] at eo'; cases eo'
            rw [r.length] at hj
            refine .inl ⟨a, vs, n, j, rfl, rk, ha, hj, ?_⟩
            exact q .non σV _ F2 (st.trans (Stp.wr st2.w h3 rfl eo ⟨a, _, rfl, fa, upd_same, DReps.set j r rv2⟩ rfl)) rfl
          · cases e
        · cases e
      · rename_i io t l h3
        split at e
        · rename_i hk'
          cases e
          rw [Bool.and_eq_true, decide_eq_true_eq, LIM_eq] at hk'
          obtain ⟨ov', eo', a, u, rfl, fa, ha, r⟩ := st2.w.slot i _ h3
          rw [eo] at eo'; cases eo'
          rcases r with ⟨rfl, es, rfl, r⟩ | ⟨rfl, es, rfl, r⟩
          · obtain ⟨x, rfl⟩ := isK_of (show kd.isK = true from hk'.1)
            have r' := gkv_K.mp r
            refine .inr ⟨a, _, rfl, .inl ⟨es, x, ha, kD_rep x rk, by rw [← len_G r']; exact hk'.2, rfl⟩, ?_⟩
            exact q .non σV _ F2 (st.trans (Stp.wr st2.w h3 rfl eo ⟨a, _, rfl, fa, upd_same, .inl ⟨rfl, _, rfl, gkv_K.mpr (put_G eqv_key rv2 r')⟩⟩ rfl)) rfl
          · cases kd with
            | tup kb m =>
              cases kb with
              | true => cases hk'.1
              | false =>
              obtain ⟨x, rfl⟩ := isKs_of (show m.all Ev.D.isK = true from hk'.1)
              obtain ⟨b, ws, rfl, hb, rw'⟩ := rk
              have hb : F2 b = some (.tup ws) := hb
              rw [kDs_rep rw'] at hb
              have r' := gkv_T.mp r
              refine .inr ⟨a, _, rfl, .inr ⟨es, x, b, ha, rfl, st2.w.le _ _ hb, by rw [← len_G r']; exact hk'.2, rfl⟩, ?_⟩
              exact q .non σV _ F2 (st.trans (Stp.wr st2.w h3 rfl eo ⟨a, _, rfl, fa, upd_same, .inr ⟨rfl, _, rfl, gkv_T.mpr (put_G eqv_keys rv2 r')⟩⟩ rfl)) rfl
            | _ => cases hk'.1
        · cases e
      · cases e
    · cases e
  · cases e
/-! ### append -/
def mApp (i : Nat) (m : M D) : M S := fun σ => match σ[i]? with
  | some (some (.ls _ _)) => (match m σ with
    | some (d, σ1) => (match σ1[i]? with
      | some (some (.ls io l)) => if l.length < LIM then some (.imm .non, σ1.set i (some (.ls io (l ++ [d])))) else none
      | _ => none)
    | none => none)
  | _ => none
theorem sf_app {m : M D} (ho : PE X o (tVar i)) (h : SE X ct e m)
    (hbase : attributeBase o "append" X.env (eval o X.env) = eval o X.env := by rfl)
    (hfew : ((backTo pos (starEach [e] X.env)).all (fun x => !x.1) && (backToKw pos (keywordEach [] X.env)).all (fun x => x.1.isSome) && decide ([e].length + ([] : List Keyword).length + (if ([] : List Keyword).isEmpty then 0 else 1) < 30)) = true := by rfl)
    (hline : (apos.endLine == pos.line) = true := by rfl) (hs : starEach [e] X.env = (false, eval e X.env) :: starEach [] X.env := by rfl) (hplain : (backTo pos (starEach [] X.env)).any (·.1) = false := by rfl) :
    SF X ct (.Call (.Attribute o "append" apos) [e] [] pos) (mApp i m) :=
  PEimp (pe_bm F.plainAttrs_list F.slot_list_append F.type_list_append mt_append ho (pa_cons h pa_nil hs) hbase hfew hline hs hplain) fun σV H Q ⟨F, σ, w, s, σ', e, q⟩ => by
  unfold mApp at e
  split at e
  · rename_i io0 l0 h0
    split at e
    · rename_i d σ1 h1
      split at e
      · rename_i io l h2
        split at e
        · rename_i hl
          cases e
          obtain ⟨ov, eo, a, vs, rfl, fa, ha, r⟩ := w.slot i _ h0
          refine ⟨_, eo, .inl ⟨rfl, vs, SqL.of ha⟩, F, σ, w, d, σ1, h1, fun v H1 F1 st1 rv => ?_⟩
          obtain ⟨ov', eo', a', vs', e', fa', ha', r'⟩ := st1.w.slot i _ h2
          rw [eo] at eo'; cases eo'; cases e'
          refine ⟨a, vs', v, rfl, rfl, ha', by rw [← r'.length, ← LIM_eq]; exact hl, ?_⟩
          exact q _ _ F1 (st1.trans (Stp.wr st1.w h2 rfl eo ⟨a, _, rfl, fa', upd_same, DReps.append r' (DReps.one rv)⟩ rfl)) rfl
        · cases e
      · cases e
    · cases e
  · cases e
/-! ### new dicts -/
def mNew (t : Bool) : M S := fun σ => some (.ds false t [], σ)
theorem sf_new {t : Bool} : SF X ct (.Dict [] [] pos) (mNew t) := match t with
  | false => PEimp pe_dnewK fun σV H Q ⟨F, σ, w, s, σ', e, q⟩ p hp => (by
      cases e
      have g := Grw.lay (o := .dK []) w.le hp
      exact q _ _ F (g.stp w) (GRep.fresh (Stp.refl w) g (s := .ds false false []) ⟨rfl, p, _, rfl, hp, w.le.none hp, upd_same, .inl ⟨rfl, [], rfl, rfl⟩⟩))
  | true => PEimp pe_dnewT fun σV H Q ⟨F, σ, w, s, σ', e, q⟩ p hp => (by
      cases e
      have g := Grw.lay (o := .dT []) w.le hp
      exact q _ _ F (g.stp w) (GRep.fresh (Stp.refl w) g (s := .ds false true []) ⟨rfl, p, _, rfl, hp, w.le.none hp, upd_same, .inr ⟨rfl, [], rfl, rfl⟩⟩))
/-- {k: v} -/
def mDs1 (mk mv : M D) : M S := fun σ => match mk σ with
  | some (k, σ1) => (match mv σ1 with
    | some (v, σ2) => if k.isK = true then some (.ds false false [(k, v)], σ2) else none
    | none => none)
  | none => none
theorem sf_ds1 (hk : SE X ct k mk) (hv : SE X ct e mv) : SF X ct (.Dict [some k] [e] pos) (mDs1 mk mv) :=
  PEimp (pe_disp (pps_cons hk hv pps_nil) rfl rfl (by simp) (by simp)) fun σV H Q ⟨F, σ, w, s, σ', e, q⟩ p hp => by
  unfold mDs1 at e
  split at e
  · rename_i kd σ1 h1
    split at e
    · rename_i vd σ2 h2
      split at e
      · rename_i hk'
        cases e
        have st0 := Stp.lay (o := .dK []) w hp
        refine ⟨F, σ, st0.w, kd, σ1, h1, fun kv H1 F1 st1 r1 => ⟨F1, σ1, st1.w, vd, _, h2, fun vv H2 F2 st2 r2 => ?_⟩⟩
        have st := st0.trans (st1.trans st2)
        have np : ¬ Own σV σ p := fun o => by obtain ⟨_, u, z, _⟩ := w.own o; rw [hp] at z; cases z
        obtain ⟨a1, a2, a3⟩ := (st1.trans st2).apart upd_same (w.le.none hp) np
        obtain ⟨x, rfl⟩ := isK_of hk'
        refine ⟨a1, [(x, vv)], by rw [kD_rep x r1]; rfl, by simp, ?_⟩
        refine q _ _ F2 (st.poke hp a2 a3 a1 Nt.dK) ⟨rfl, ⟨p, _, rfl, a2, upd_same, .inl ⟨rfl, _, rfl, ⟨x, vv, [], rfl, rfl, r2, rfl⟩⟩⟩, fun a ea => ?_⟩
        cases ea
        exact ⟨a3, .inl hp⟩
      · cases e
    · cases e
  · cases e
/-! ### d.get(k, x) -/
def mGet (a : A) (mk mx : M D) : M D := fun σ => match a.go σ with
  | some (x, σ1) => (match a.fin x σ1 with
    | some (.dct _ _) => (match mk σ1 with
      | some (k, σ2) => (match mx σ2 with
        | some (z, σ3) => (match a.fin x σ3 with
          | some (.dct t l) => if keyOk t k = true then some ((dLook l k).getD z, σ3) else none
          | _ => none)
        | none => none)
      | none => none)
    | _ => none)
  | none => none
theorem se_get {a : A} {f : Expr} {mx : M D} (hu : X.A.units + 1 < cLine) (ho : AE X ct o a) (hk : SE X ct k mk) (hf : SE X ct f mx) (m : M2 X o "get" apos k f pos := by exact ⟨rfl, rfl, rfl, rfl⟩) :
    SE X ct (.Call (.Attribute o "get" apos) [k, f] [] pos) (mGet a mk mx) := PEimp (pe_dget2 hu ho hk hf m) fun σV H Q ⟨F, σ, w, d, σ', e, q⟩ => by
  unfold mGet at e
  split at e
  · rename_i x σ1 h1
    split at e
    · rename_i t0 l0 h0
      split at e
      · rename_i kd σ2 h2
        split at e
        · rename_i z σ3 h3
          split at e
          · rename_i t l h4
            split at e
            · rename_i hk'
              cases e
              refine A.ok w h1 fun v H1 F1 st1 r1 => ?_
              obtain ⟨b, u0, rfl, hu0, q0⟩ := A.view st1.w r1 h0
              refine ⟨b, rfl, ?_, F1, σ1, st1.w, kd, σ2, h2, fun kv H2 F2 st2 r2 => ⟨F2, σ2, st2.w, z, _, h3, fun zv H3 F3 st3 r3 => ?_⟩⟩
              · rcases q0 with ⟨_, es, rfl, _⟩ | ⟨_, es, rfl, _⟩
                · exact .inl ⟨es, hu0⟩
                · exact .inr ⟨es, hu0⟩
              · obtain ⟨b', u, eb, hu', q'⟩ : VRep X.K ct F3 H3 (.dct t l) (V.ref b) := A.view st3.w (A.res_mono (st2.trans st3).le r1) h4
                cases eb
                obtain ⟨ov, g, g1, g2⟩ := look_of st3.w.le hk' hu' q' (DRep.mono st3.le _ _ r2)
                refine ⟨ov, g, ?_⟩
                have st := (st1.trans st2).trans st3
                cases ov with
                | none => rw [g2 rfl] at q; exact q _ H3 F3 st r3
                | some y => obtain ⟨d', e', ry⟩ := g1 y rfl; rw [e'] at q; exact q _ H3 F3 st ry
            · cases e
          · cases e
        · cases e
      · cases e
    · cases e
  · cases e
end
end Ev
end

section
set_option Elab.async false
set_option linter.all false
/-! EvO: fields, chains, truth, is, index, reversed, repetition. -/
namespace Ev
open PySem PySem.Spec L2
set_option autoImplicit false
section
variable {X : Cx} {ct : Ct} {pos apos : Pos} {o k e a b c : Expr}
/-! ### fields -/
def mFld (c j : Nat) (m : M D) : M D := fun σ => match m σ with
  | some (.ins c' l, σ') => if c' = c then (match l[j]? with
    | some d => some (d, σ')
    | none => none) else none
  | _ => none
theorem look_at {f : Str} : ∀ {fs : List (Str × V)} {j : Nat} {v : V}, (fs.map (·.2))[j]? = some v → (fs.map (·.1))[j]? = some f → (∀ i, i < j → (fs.map (·.1))[i]? ≠ some f) → fs.lookup f = some v
  | [], _, _, h, _, _ => by simp at h
  | (g, w) :: fs, 0, v, h1, h2, _ => by
    simp at h1 h2
    subst h1 h2
    simp [List.lookup]
  | (g, w) :: fs, j + 1, v, h1, h2, h3 => by
    have hg : (f == g) = false := by
      have := h3 0 (Nat.succ_pos j)
      simp at this
      exact beq_eq_false_iff_ne.mpr fun z => this z.symm
    simp only [List.lookup, hg]
    exact look_at (by simpa using h1) (by simpa using h2) fun i hi => by have := h3 (i + 1) (by omega); simpa using this
theorem se_fld {i j : Nat} {f : Str} {m : M D} (hc : Cls X.K (ct.f i).1) (hn : NoAttr X.K (ct.f i).1 f) (hj : (ct.f i).2[j]? = some f) (hf : ∀ n, n < j → (ct.f i).2[n]? ≠ some f) (h : SE X ct e m)
    (hb : attributeBase e f X.env (eval e X.env) = eval e X.env := by rfl) : SE X ct (.Attribute e f pos) (mFld i j m) := PEimp (pe_fld h hb) fun σV H Q ⟨F, σ, w, d, σ', e, q⟩ => by
  unfold mFld at e
  split at e
  · rename_i c' l σ1 h1
    split at e
    · rename_i hcc
      subst hcc
      split at e
      · rename_i d' h2
        cases e
        refine ⟨F, σ, w, _, _, h1, fun v H1 F1 st r => ?_⟩
        obtain ⟨a, dx, fs, rfl, fa, _, hnm, rs⟩ := r
        obtain ⟨v, hv, rv⟩ := rs.get h2
        exact ⟨a, _, dx, fs, v, rfl, st.w.le _ _ fa, hc, hn, look_at hv (by rw [hnm]; exact hj) (fun n hn' => by rw [hnm]; exact hf n hn'), q v H1 F1 st rv⟩
      · cases e
    · cases e
  · cases e
/-! ### chains -/
def mChn (f g : D → D → Option S) (ma mb mc : M D) : M S := fun σ => match ma σ with
  | some (d, σ1) => (match mb σ1 with
    | some (e, σ2) => (match f d e with
      | some (.imm (.bl true)) => (match mc σ2 with
        | some (u, σ3) => (match g e u with
          | some s => some (s, σ3)
          | none => none)
        | none => none)
      | some (.imm (.bl false)) => some (.imm (.bl false), σ2)
      | _ => none)
    | none => none)
  | none => none
theorem chn_ok {r r' : R2} {f g : D → D → Option S} {ma mb mc : M D} (kf : OpOk X ct r f) (kg : OpOk X ct r' g) {σV : St} {H : Hp} {Q : VK} (h : rdF X ct (mChn f g ma mb mc) σV H Q) : tChain r r' (rdE X ct ma) (rdE X ct mb) (rdE X ct mc) σV H Q := by
  obtain ⟨F, σ, w, s, σ', e, q⟩ := h
  unfold mChn at e
  split at e
  · rename_i d σ1 h1
    split at e
    · rename_i d2 σ2 h2
      refine ⟨F, σ, w, d, σ1, h1, fun v H1 F1 st1 r1 => ⟨F1, σ1, st1.w, d2, σ2, h2, fun u H2 F2 st2 r2 => ?_⟩⟩
      have st := st1.trans st2
      have rx := VRep.of st2.w.le (DRep.mono st2.le _ _ r1)
      have ry := VRep.of st2.w.le r2
      split at e
      · rename_i hf
        refine kf F2 H2 d d2 _ v u _ st2.w.le hf rx ry fun z F3 H3 g3 rz => ⟨true, rz, ?_⟩
        have st3 := g3.stp st2.w
        refine iteT ?_
        split at e
        · rename_i d3 σ3 h3
          split at e
          · rename_i s' hg
            cases e
            refine ⟨F3, σ2, st3.w, d3, _, h3, fun t H4 F4 st4 r4 => ?_⟩
            refine kg F4 H4 d2 d3 s u t Q st4.w.le hg (VRep.of st4.w.le (DRep.mono (st3.trans st4).le _ _ r2)) (VRep.of st4.w.le r4) fun y F5 H5 g5 ry5 => ?_
            have tot := (st.trans st3).trans st4
            exact q y H5 F5 (tot.trans (g5.stp st4.w)) (GRep.fresh tot g5 ry5)
          · cases e
        · cases e
      · rename_i hf
        cases e
        refine kf F2 H2 d d2 _ v u _ st2.w.le hf rx ry fun z F3 H3 g3 rz => ⟨false, rz, ?_⟩
        exact iteF (q _ H3 F3 (st.trans (g3.stp st2.w)) rfl)
      · cases e
    · cases e
  · cases e
theorem sf_chn {op op' : CmpOp} {r r' : R2} {f g : D → D → Option S} {ma mb mc : M D} (ho : OpR X (compareOp op) r) (ho' : OpR X (compareOp op') r') (kf : OpOk X ct r f) (kg : OpOk X ct r' g) (ha : SE X ct a ma) (hb : SE X ct b mb) (hc : SE X ct c mc)
    (hm : lastMarks [op, op'] [b, c] = false := by with_unfolding_all rfl) : SF X ct (.Compare a [op, op'] [b, c] pos) (mChn f g ma mb mc) := PEimp (pe_chain ho ho' ha hb hc hm) fun σV H Q h => chn_ok kf kg h
theorem st_chn {op op' : CmpOp} {r r' : R2} {f g : D → D → Option S} {ma mb mc : M D} (ho : OpR X (compareOp op) r) (ho' : OpR X (compareOp op') r') (kf : OpOk X ct r f) (kg : OpOk X ct r' g) (ha : SE X ct a ma) (hb : SE X ct b mb) (hc : SE X ct c mc)
    (hm : lastMarks [op, op'] [b, c] = false := by with_unfolding_all rfl) : ST X ct (.Compare a [op, op'] [b, c] pos) (mT (mChn f g ma mb mc)) := st_of (pt_chain ho ho' ha hb hc hm) fun σV H Q h => chn_ok kf kg h
/-! ### truth -/
def fTru : D → Option Bool
  | .non => some false
  | .bl b => some b
  | .int i => some (i != 0)
  | .str x => if x.length ≤ LIM then some ((x.length : Int) != 0) else none
  | .lst l => some (!l.isEmpty)
  | .tup _ l => some (!l.isEmpty)
  | .scr l => some (!l.isEmpty)
  | _ => none
def mTru (a : A) : M Bool := fun σ => match a.one σ with
  | some (d, σ') => (match fTru d with
    | some b => some (b, σ')
    | none => none)
  | none => none
theorem reps_empty {K F} {l : List D} {vs : List V} (r : DReps K ct F l vs) : l.isEmpty = vs.isEmpty := by
  cases l with
  | nil => rw [show vs = [] from r] <;> rfl
  | cons d l => obtain ⟨v, t, rfl, _⟩ := r; rfl
theorem st_tru {a' : A} (ha : AE X ct a a') (he : ∀ whole, isTrue a X.env whole = (do let v ← whole; standAt a.pos; holding [v] (truthy v)) := by intro _; rfl) : ST X ct a (mTru a') := PTimp (pt_truth ha he) fun σV H Q ⟨F, σ, w, b, σ', e, q⟩ => by
  unfold mTru at e
  split at e
  · rename_i d σ1 h1
    split at e
    · rename_i t h2
      cases e
      refine A.one_ok w h1 fun v H1 F1 st r => ⟨b, ?_, q H1 F1 st⟩
      cases d with
      | non => cases h2; rw [show v = .non from r]; exact rfl
      | bl t => cases h2; rw [show v = .bl b from r]; exact rfl
      | int i => cases h2; rw [show v = .int i from r]; exact rfl
      | str x =>
        have h2 : (if x.length ≤ LIM then some ((x.length : Int) != 0) else none) = some b := h2
        split at h2
        · rename_i hx
          cases h2
          rw [show v = .str x from r]
          exact ⟨by rw [← LIM_eq]; exact hx, rfl⟩
        · cases h2
      | lst l => cases h2; obtain ⟨p, vs, rfl, hp, rs⟩ := r; exact .inl ⟨vs, SqL.of hp, by rw [reps_empty rs]⟩
      | tup kb l => cases h2; obtain ⟨p, vs, rfl, hp, rs⟩ := r; exact .inr (.inl ⟨vs, st.w.le.sqt hp.sqt, by rw [reps_empty rs]⟩)
      | scr l =>
        cases h2
        obtain ⟨p, rfl, hp⟩ := r
        exact .inl ⟨_, st.w.le.sql hp, by cases l <;> rfl⟩
      | _ => cases h2
    · cases e
  · cases e
/-! ### x is True, x is not True -/
def fIsB (neg : Bool) (d e : D) : Option S := match d, e with
  | .bl x, .bl y => some (.imm (.bl (neg ^^ decide (x = y))))
  | _, _ => none
theorem k_isB : OpOk X ct (fun x y H Q => ∃ a b, x = .bl a ∧ y = .bl b ∧ Q (.bl (decide (a = b))) H) (fIsB false) := fun F H d e c x y Q le hf rx ry q => by
  unfold fIsB at hf
  split at hf
  · rename_i i j
    cases hf
    refine ⟨i, j, rx, ry, q _ F H (Grw.refl le) ?_⟩
    show V.bl _ = V.bl _
    simp
  · cases hf
theorem k_notB : OpOk X ct (fun x y H Q => ∃ a b, x = .bl a ∧ y = .bl b ∧ Q (.bl (!decide (a = b))) H) (fIsB true) := fun F H d e c x y Q le hf rx ry q => by
  unfold fIsB at hf
  split at hf
  · rename_i i j
    cases hf
    refine ⟨i, j, rx, ry, q _ F H (Grw.refl le) ?_⟩
    show V.bl _ = V.bl _
    simp
  · cases hf
/-! ### xs.index(x) -/
def dIndex (d : D) : List D → Option Nat
  | [] => none
  | e :: l => if D.eqv e d = true then some 0 else (match dIndex d l with
    | some n => some (n + 1)
    | none => none)
def mIdx (mo mk : M D) : M D := fun σ => match mo σ with
  | some (.lst l, σ1) => (match mk σ1 with
    | some (d, σ2) => if ((D.lst l).sh && d.sh) = true then (match dIndex d l with
      | some n => some (.int (n : Nat), σ2)
      | none => none) else none
    | none => none)
  | _ => none
theorem dIndex_ok {d : D} : ∀ {l : List D} {n : Nat}, dIndex d l = some n → ∃ z, (D.toPs l)[n]? = some z ∧ PyData.eqv z d.toP = true ∧ ∀ m z', m < n → (D.toPs l)[m]? = some z' → PyData.eqv z' d.toP = false
  | [], _, h => by cases h
  | e :: l, n, h => by
    simp only [dIndex] at h
    split at h
    · rename_i he
      cases h
      exact ⟨e.toP, rfl, by rw [eqv_toP]; exact he, fun m z' hm => absurd hm (Nat.not_lt_zero m)⟩
    · rename_i he
      split at h
      · rename_i k hk
        cases h
        obtain ⟨z, h1, h2, h3⟩ := dIndex_ok hk
        refine ⟨z, h1, h2, fun m z' hm hz => ?_⟩
        cases m with
        | zero =>
          cases hz
          rw [eqv_toP]
          exact Bool.eq_false_iff.mpr he
        | succ m => exact h3 m z' (by omega) hz
      · cases h
theorem se_idx {mo mk : M D} (hu : X.A.units + 65 < cLine) (ho : SE X ct o mo) (h : SE X ct e mk)
    (hbase : attributeBase o "index" X.env (eval o X.env) = eval o X.env := by rfl)
    (hfew : ((backTo pos (starEach [e] X.env)).all (fun x => !x.1) && (backToKw pos (keywordEach [] X.env)).all (fun x => x.1.isSome) && decide ([e].length + ([] : List Keyword).length + (if ([] : List Keyword).isEmpty then 0 else 1) < 30)) = true := by rfl)
    (hline : (apos.endLine == pos.line) = true := by rfl) (hs : starEach [e] X.env = (false, eval e X.env) :: starEach [] X.env := by rfl) (hplain : (backTo pos (starEach [] X.env)).any (·.1) = false := by rfl) :
    SE X ct (.Call (.Attribute o "index" apos) [e] [] pos) (mIdx mo mk) :=
  PEimp (pe_bm F.plainAttrs_list F.slot_list_index F.type_list_index (mt_indexD hu) ho (pa_cons h pa_nil hs) hbase hfew hline hs hplain) fun σV H Q ⟨F, σ, w, d, σ', e, q⟩ => by
  unfold mIdx at e
  split at e
  · rename_i l σ1 h1
    split at e
    · rename_i kd σ2 h2
      split at e
      · rename_i hsh
        rw [Bool.and_eq_true] at hsh
        split at e
        · rename_i n hn
          cases e
          refine ⟨F, σ, w, _, _, h1, fun v H1 F1 st1 r1 => ?_⟩
          obtain ⟨p, vs, rfl, fp, rs⟩ := r1
          refine ⟨.inl ⟨rfl, vs, SqL.of (st1.w.le _ _ fp)⟩, F1, σ1, st1.w, kd, _, h2, fun u H2 F2 st2 r2 => ?_⟩
          obtain ⟨z, z1, z2, z3⟩ := dIndex_ok hn
          exact ⟨p, u, kd.toP, D.toPs l, n, z, rfl, rfl, vdp (d := .lst l) st2.w.le (sh_pl hsh.1) (VRep.of st2.w.le ⟨p, vs, rfl, st2.le _ _ fp, DReps.mono st2.le _ _ rs⟩), vdp st2.w.le (sh_pl hsh.2) (VRep.of st2.w.le r2),
            D.sh_ok hsh.1, D.sh_ok hsh.2, z1, z2, z3, q _ H2 F2 (st1.trans st2) rfl⟩
        · cases e
      · cases e
    · cases e
  · cases e
/-! ### xs[::-1], xs * n -/
def fRep (d e : D) : Option S := match d, e with
  | .lst l, .int k => if (okR k && decide (l.length * k.toNat ≤ LIM)) = true then some (.ls false (List.replicate k.toNat l).flatten) else none
  | _, _ => none
end
end Ev
end

section
set_option Elab.async false
set_option linter.all false
/-! EvP: reversed lists, repetition, dict of pairs. -/
namespace Ev
open PySem PySem.Spec L2
set_option autoImplicit false
section
variable {X : Cx} {ct : Ct} {pos apos : Pos} {o k e a b c : Expr}
/-- xs[::-1] -/
def mRev (m : M D) : M S := fun σ => match m σ with
  | some (.lst l, σ') => some (.ls false l.reverse, σ')
  | some (.tup _ l, σ') => some (.imm (.tup (dictable l.reverse) l.reverse), σ')
  | _ => none
theorem sf_rev {m : M D} {kk : Nat} {p1 p2 p3 : Pos} (h : SE X ct e m) : SF X ct (.Subscript e (.Slice none none (some (.UnaryOp .USub (.Constant (.int 1) kk p1) p2)) p3) pos) (mRev m) := PEimp (PE.or (pe_revL h) (pe_revT h)) fun σV H Q ⟨F, σ, w, s, σ', e, q⟩ => by
  unfold mRev at e
  split at e
  · rename_i l σ1 h1
    cases e
    refine .inl ⟨F, σ, w, _, _, h1, fun v H1 F1 st ⟨a, vs, ev, fa, rs⟩ => ⟨a, vs, ev, SqL.of (st.w.le _ _ fa), fun p hp => ?_⟩⟩
    have g := Grw.lay (o := .lst vs.reverse) st.w.le hp
    exact q _ _ F1 (st.trans (g.stp st.w)) (GRep.fresh st g (s := .ls false _) ⟨rfl, p, _, rfl, hp, st.w.le.none hp, upd_same, DReps.rev rs⟩)
  · rename_i k l σ1 h1
    cases e
    refine .inr ⟨F, σ, w, _, _, h1, fun v H1 F1 st ⟨a, vs, ev, fa, rs⟩ => ⟨a, vs, ev, st.w.le.sqt fa.sqt, dictable l.reverse, fun p o hp ho => ?_⟩⟩
    have g := Grw.new (o := o) st.w.le hp ho.notbl
    exact q _ _ _ (st.trans (g.stp st.w)) ⟨p, _, rfl, ho.at upd_same, DReps.mono g.le _ _ (DReps.rev rs)⟩
  · cases e
/-! ### * of anything -/
abbrev rMulAny : R2 := fun x y H Q => rI CMul (fun i j => .int (i * j)) x y H Q ∨ rRep x y H Q
theorem op_mulAny : OpR X (binaryOp .Mult) rMulAny := OpR.or op_mul op_rep
def fMul (d e : D) : Option S := match d, e with
  | .int i, .int j => if cMul i j = true then some (.imm (.int (i * j))) else none
  | .lst l, .int k => if (okR k && decide (l.length * k.toNat ≤ LIM)) = true then some (.ls false (List.replicate k.toNat l).flatten) else none
  | _, _ => none
theorem reps_rep {K F} {l : List D} {vs : List V} (r : DReps K ct F l vs) : ∀ n : Nat, DReps K ct F (List.replicate n l).flatten (List.replicate n vs).flatten
  | 0 => rfl
  | n + 1 => by
    rw [List.replicate_succ, List.replicate_succ, List.flatten_cons, List.flatten_cons]
    exact DReps.append r (reps_rep r n)
theorem k_mulA : OpOk X ct rMulAny fMul := fun F H d e c x y Q le hf rx ry q => by
  unfold fMul at hf
  split at hf
  · rename_i i j
    split at hf
    · rename_i h
      cases hf
      exact .inl ⟨i, j, rx, ry, cMul_ok i j h, q _ F H (Grw.refl le) rfl⟩
    · cases hf
  · rename_i l n
    split at hf
    · rename_i h
      rw [Bool.and_eq_true, decide_eq_true_eq] at h
      cases hf
      obtain ⟨a, vs, rfl, ha, r⟩ := rx
      obtain ⟨h1, h2⟩ := okR_ok h.1
      exact .inr ⟨a, n, vs, rfl, ry, ha, by omega, by omega, by rw [← r.length, ← LIM_eq]; exact h.2, fun p hp => q _ F _ (Grw.lay le hp) ⟨rfl, p, _, rfl, hp, le.none hp, upd_same, reps_rep r _⟩⟩
    · cases hf
  · cases hf
end
/-! ### dict(pairs) -/
section
variable {X : Cx} {ct : Ct}
theorem pairs_of2 {pins : List (Addr × Obj)} {σ : St} {H : Hp} {s : Shared} (I : Inv X pins σ H s) : ∀ {ps : List Addr} {kvs : List (Key × V)}, Paired (fun p kv => SqT X.K H p [kV kv.1, kv.2]) ps kvs →
    ∃ (prs : List (Key × Value)) (vps : List (Value × Value)), KV kvs prs ∧ prs.length = ps.length ∧ vps.length = ps.length ∧ ∀ (j : Nat) (u v : Value), vps[j]? = some (u, v) → ∃ (b : Addr) (k : Key), ps[j]? = some b ∧ prs[j]? = some (k, v) ∧ PyProof.Rows.IsTup s.heap b #[u, v] ∧ keyIs k u = true
  | _, _, .nil => ⟨[], [], .nil, rfl, rfl, fun j u v e => by simp at e⟩
  | _, _, .cons (a := p) (b := kv) h t => by
    obtain ⟨prs, vps, r, hl, hl2, hp⟩ := pairs_of2 I t
    obtain ⟨its, rv, ht, _⟩ := I.tuple h
    obtain ⟨u, y, ei, ru, ry⟩ := vals2 rv
    subst ei
    refine ⟨(kv.1, y) :: prs, (u, y) :: vps, .cons ⟨rfl, ry⟩ r, by rw [List.length_cons, List.length_cons, hl], by rw [List.length_cons, List.length_cons, hl2], fun j u' v' e => ?_⟩
    cases j with
    | zero =>
      cases e
      exact ⟨p, kv.1, rfl, rfl, ht, kV_is (P := X.prog) (w := X.w) ru⟩
    | succ j =>
      obtain ⟨b, k, e1, e2, e3, e4⟩ := hp j u' v' (by simpa using e)
      exact ⟨b, k, by simpa using e1, by simpa using e2, e3, e4⟩
theorem call_dictT (hcalm : X.calm = true) : CallR X (.type "dict") (fun xs H Q => ∃ (a : Addr) (od : Obj) (ps : List Addr) (kvs : List (Key × V)), xs = [.ref a] ∧ H a = some (.frz od (.tup (ps.map V.ref))) ∧ od.dict = none ∧ Paired (fun p kv => SqT X.K H p [kV kv.1, kv.2]) ps kvs ∧
    ∀ p, H p = none → Q (.ref p) (upd H p (.dK (mergeK [] kvs)))) := by
  intro pins s σ H xs us Q I r h
  obtain ⟨a, od, ps, kvs, rfl, ha, hod, hp, q⟩ := h
  obtain rfl := Vals.ref1 r
  obtain ⟨hg, hz, its, rv, o', ho', hc, n, hdat⟩ := I.hok a _ ha
  rw [hg] at ho'; cases ho'
  have ei := refs_at rv
  subst ei
  obtain ⟨prs, vps, rel, hl, hl2, hpr⟩ := pairs_of2 I hp
  rw [List.length_map] at hz
  refine PySem.call_dict_pairs (knd := mixKind X.prog X.w) (kvs := prs) (PairArg.tuple a (ps.map Value.ref).toArray (fun j => ps.getD j 0) vps) (I.ok.hd hcalm) ⟨⟨od, n, hg, hc, hod, hdat⟩, by simp [hl2], fun j u v e => ?_⟩ ⟨by rw [hl, hl2], fun j u v e => ?_⟩ (by rw [hl2]; exact hz) fun h' tk hd' kp => ?_
  · obtain ⟨b, k, e1, e2, e3, e4⟩ := hpr j u v e
    refine ⟨by simp [e1], ?_⟩
    obtain ⟨o2, h1, h2, n2, h3⟩ := e3
    have eb : ps.getD j 0 = b := by simp [List.getD, e1]
    show PairAt s.heap (ps.getD j 0) u v
    rw [eb]
    exact .inl ⟨o2, h1, h2, n2, h3⟩
  · obtain ⟨b, k, e1, e2, e3, e4⟩ := hpr j u v e
    exact ⟨k, e2, e4⟩
  · have hm : (s.heap.objs.size == sysModules) = false := beq_eq_false_iff_ne.mpr (Nat.ne_of_gt I.big)
    have hlen : (mergeK [] kvs).length ≤ sizeLine := by
      refine Nat.le_trans (length_mergeK kvs []) ?_
      rw [List.length_nil, Nat.zero_add, rel.length, hl]
      exact hz
    exact ⟨.ref s.heap.objs.size, upd H s.heap.objs.size (.dK (mergeK [] kvs)), I.laid (t' := tk) (fun b ob e => kp b ob (by simp) e) (Nat.le_refl _) (show ObjOk X.prog X.w _ _ _ (.dK (mergeK [] kvs)) from ⟨hlen, hm, merged [] prs, KV.merge rel .nil, hd'⟩), rfl, q _ (I.hok.fresh (Nat.le_refl _))⟩
def dPairs : List D → Option (List (D × D))
  | [] => some []
  | .tup _ [k, v] :: l => if k.isK = true then (match dPairs l with
    | some ps => some ((k, v) :: ps)
    | none => none) else none
  | _ :: _ => none
def dOf (ps : List (D × D)) : List (D × D) := ps.foldl (fun acc p => dPut acc p.1 p.2) []
theorem pairs_rep {K ct} {F H : Hp} (le : Le F H) : ∀ {l : List D} {ps : List (D × D)} {vs : List V}, dPairs l = some ps → DReps K ct F l vs → ∃ (as : List Addr) (kvs : List (Key × V)), vs = as.map V.ref ∧ Paired (fun p kv => SqT K H p [kV kv.1, kv.2]) as kvs ∧ GKv K ct F kD ps kvs
  | [], _, _, h, r => by cases h; exact ⟨[], [], r, .nil, rfl⟩
  | d :: l, ps, _, h, ⟨v, t, e, r, q⟩ => by
    unfold dPairs at h
    split at h
    · rename_i h0; cases h0
    · rename_i kb k x l' h0
      cases h0
      split at h
      · rename_i hk
        split at h
        · rename_i ps' h1
          cases h
          obtain ⟨as, kvs, e2, pr, g⟩ := pairs_rep le h1 q
          obtain ⟨kk, rfl⟩ := isK_of hk
          obtain ⟨a, us, rfl, ha, ⟨kv, t1, rfl, rk, xv, t2, rfl, rx, rfl⟩⟩ := r
          rw [kD_rep kk rk] at ha
          exact ⟨a :: as, (kk, xv) :: kvs, by rw [e, e2]; rfl, .cons (le.sqt ha.sqt) pr, kk, xv, kvs, rfl, rfl, rx, g⟩
        · cases h
      · cases h
    · cases h
theorem fold_G {K ct} {F : Hp} : ∀ {ps : List (D × D)} {kvs : List (Key × V)} {acc : List (D × D)} {av : List (Key × V)}, GKv K ct F kD ps kvs → GKv K ct F kD acc av → GKv K ct F kD (ps.foldl (fun acc p => dPut acc p.1 p.2) acc) (mergeK av kvs)
  | [], _, _, _, r, g => by rw [show _ = [] from r]; exact g
  | (k, d) :: ps, _, acc, av, ⟨x, v, t, e, hk, rv, q⟩, g => by
    subst e hk
    exact fold_G (acc := dPut acc (kD x) d) (av := putK av x v) q (put_G eqv_key rv g)
def fDict : D → Option S
  | .lst l => (match dPairs l with
    | some ps => some (.ds false false (dOf ps))
    | none => none)
  | .tup true l => (match dPairs l with
    | some ps => some (.ds false false (dOf ps))
    | none => none)
  | .dct false l => some (.ds false false l)
  | _ => none
abbrev rDict (X : Cx) : List V → Hp → VK → Prop := fun xs H Q => (∃ (a : Addr) (od : Obj) (ps : List Addr) (kvs : List (Key × V)), xs = [.ref a] ∧ H a = some (.frz od (.tup (ps.map V.ref))) ∧ od.dict = none ∧ Paired (fun p kv => SqT X.K H p [kV kv.1, kv.2]) ps kvs ∧
    ∀ p, H p = none → Q (.ref p) (upd H p (.dK (mergeK [] kvs)))) ∨ (∃ (a : Addr) (ps : List Addr) (kvs : List (Key × V)), xs = [.ref a] ∧ SqL X.K H a (ps.map V.ref) ∧ Paired (fun p kv => SqT X.K H p [kV kv.1, kv.2]) ps kvs ∧
    ∀ p, H p = none → Q (.ref p) (upd H p (.dK (mergeK [] kvs)))) ∨ (∃ (a : Addr) (kvs : List (Key × V)), xs = [.ref a] ∧ Rd H a (.dK kvs) ∧ ∀ p, H p = none → Q (.ref p) (upd H p (.dK kvs)))
theorem cr_dict (hc : X.calm = true) : CallR X (.type "dict") (rDict X) := CallR.or (call_dictT hc) (CallR.or (call_dictP hc) call_dictD)
theorem k_dict : UnOk X ct (fun x H Q => rDict X [x] H Q) fDict := fun F H d c x Q le hf rx q => by
  have fin : ∀ {ps : List (D × D)} {kvs : List (Key × V)} {p : Addr}, GKv X.K ct F kD ps kvs → H p = none → (∀ v F' H', Grw F H F' H' → GRep X.K ct H F' H' (.ds false false ps) v → Q v H') → Q (.ref p) (upd H p (.dK kvs)) := fun {ps kvs p} g hp q =>
    q _ F _ (Grw.lay le hp) ⟨rfl, p, _, rfl, hp, le.none hp, upd_same, .inl ⟨rfl, kvs, rfl, gkv_K.mpr g⟩⟩
  unfold fDict at hf
  split at hf
  · split at hf
    · rename_i l _ ps h1
      cases hf
      obtain ⟨a, vs, rfl, ha, r⟩ := rx
      obtain ⟨as, kvs, rfl, pr, g⟩ := pairs_rep le h1 r
      exact .inr (.inl ⟨a, as, kvs, rfl, SqL.of ha, pr, fun p hp => fin (fold_G (acc := []) g rfl) hp q⟩)
    · cases hf
  · split at hf
    · rename_i l _ ps h1
      cases hf
      obtain ⟨a, vs, rfl, ⟨od, ha, ho⟩, r⟩ := rx
      obtain ⟨as, kvs, rfl, pr, g⟩ := pairs_rep le h1 r
      exact .inl ⟨a, od, as, kvs, rfl, le _ _ ha, ho, pr, fun p hp => fin (fold_G (acc := []) g rfl) hp q⟩
    · cases hf
  · rename_i l
    cases hf
    obtain ⟨a, u, rfl, hu, r⟩ := rx
    rcases r with ⟨_, es, rfl, r⟩ | ⟨z, _⟩
    · exact .inr (.inr ⟨a, es, rfl, hu, fun p hp => fin (gkv_K.mp r) hp q⟩)
    · cases z
  · cases hf
end
end Ev
end

section
set_option Elab.async false
set_option linter.all false
/-! EvQ: calls: what a def promises, how it is kept, how it is used. -/
namespace Ev
open PySem PySem.Spec L2
set_option autoImplicit false
def S.setIo (b : Bool) : S → S
  | .imm d => .imm d
  | .ls _ l => .ls b l
  | .ds _ t l => .ds b t l
  | .prv => .prv
def startF (ss : List S) (n : Nat) : Fr := ss.map some ++ List.replicate (n - ss.length) none
/-- a def without a parameter that it changes -/
def runV (n : Nat) (m : M Fl) (ds : List D) : Option S := match m (startF (ds.map .imm) n) with
  | some (.rt s, _) => some s
  | some (.nx, _) => some (.imm .non)
  | _ => none
/-- a def that changes its first parameter -/
def runI (n : Nat) (m : M Fl) (s0 : S) (ds : List D) : Option (S × S) := match m (startF (s0.setIo true :: ds.map .imm) n) with
  | some (.rt s, σ') => (match σ'[0]? with
    | some (some s1) => if s1.own = true then some (s, s1) else none
    | _ => none)
  | some (.nx, σ') => (match σ'[0]? with
    | some (some s1) => if s1.own = true then some (.imm .non, s1) else none
    | _ => none)
  | _ => none
def spV (K : PySem.W.Frag) (ct : Ct) (n : Nat) (g : List D → Option S) : Sp := fun vs H Q _ => ∃ F ds s, Le F H ∧ (Tbs ct H ∧ NoT F) ∧ ds.length = n ∧ DReps K ct F ds vs ∧ g ds = some s ∧ ∀ v F' H', Grw0 F H F' H' → Tbs ct H' → GRep K ct H F' H' s v → Q v H'
/-- all but the thing at a stays -/
structure GrwX (a : Addr) (F H F' H' : Hp) : Prop where
  le : Le F F'
  le' : Le F' H'
  keep : ∀ b o, b ≠ a → H b = some o → Kp H' b o
  nf : NoT F → NoT F'
  there : ∀ b, H' b = none → H b = none
  froz : ∀ b, F' b ≠ none → F b ≠ none ∨ H b = none ∨ ∃ xs, H b = some (.tup xs)
def spI (K : PySem.W.Frag) (ct : Ct) (n : Nat) (g : S → List D → Option (S × S)) : Sp := fun vs H Q _ => ∃ F a vs' ds s0 s s', vs = .ref a :: vs' ∧ Le F H ∧ (Tbs ct H ∧ NoT F) ∧ s0.own = true ∧ SRep K ct F H s0 (.ref a) ∧ ds.length + 1 = n ∧ DReps K ct F ds vs' ∧ g s0 ds = some (s, s') ∧
  ∀ v F' H', GrwX a F H F' H' → Tbs ct H' → GRep K ct H F' H' s v → s'.own = true → SRep K ct F' H' s' (.ref a) → Q v H'
section
variable {K : PySem.W.Frag} {ct : Ct} {F H F' H' : Hp} {σV σV' : St} {σ σ' : Fr}
theorem setIo_own {s : S} {b : Bool} : (s.setIo b).own = s.own := by cases s <;> rfl
theorem setIo_io {s : S} {b : Bool} (h : s.own = true) : (s.setIo b).io = b := by cases s <;> first | rfl | cases h
theorem setIo_rep {s : S} {b : Bool} {v : V} : SRep K ct F H (s.setIo b) v ↔ SRep K ct F H s v := by cases s <;> exact Iff.rfl
theorem reps_get {l : List D} {vs : List V} (r : DReps K ct F l vs) {i : Nat} {d : D} (h : l[i]? = some d) : ∃ v, vs[i]? = some v ∧ DRep K ct F d v := r.get h
theorem start_get {ss : List S} {n i : Nat} {s : S} (h : (startF ss n)[i]? = some (some s)) : ss[i]? = some s := by
  unfold startF at h
  rw [List.getElem?_append] at h
  split at h
  · rename_i hi
    rw [List.getElem?_map] at h
    cases q : ss[i]? with
    | none => rw [q] at h; cases h
    | some t => rw [q] at h; cases h; rfl
  · rw [List.getElem?_replicate] at h
    split at h <;> cases h
theorem startV_get {vs : List V} {N : List Str} {i : Nat} {v : V} (h : vs[i]? = some v) : (L2.start N vs)[i]? = some (some v) := by
  unfold L2.start
  rw [List.getElem?_append_left (by rw [List.length_map]; exact (List.getElem?_eq_some_iff.mp h).1), List.getElem?_map, h]
  rfl
theorem start_len {ss : List S} {vs : List V} {N : List Str} (hl : ss.length = vs.length) : (startF ss N.length).length ≤ (L2.start N vs).length := by
  unfold startF L2.start
  simp [hl]
theorem wd_startV {ds : List D} {vs : List V} {N : List Str} (le : Le F H) (tbs : Tbs ct H ∧ NoT F) (r : DReps K ct F ds vs) : Wd K ct F H (L2.start N vs) (startF (ds.map .imm) N.length) where
  le := le
  slot := fun i s e => by
    have e := start_get e
    rw [List.getElem?_map] at e
    cases h : ds[i]? with
    | none => rw [h] at e; cases e
    | some d =>
      rw [h] at e; cases e
      obtain ⟨v, hv, rv⟩ := r.get h
      exact ⟨v, startV_get hv, rv⟩
  dis := fun i j s t a ei ej si => by
    have e := start_get ei
    rw [List.getElem?_map] at e
    cases h : ds[i]? with
    | none => rw [h] at e; cases e
    | some d => rw [h] at e; cases e; cases si
  ln := start_len (by rw [List.length_map, r.length])
  tb := tbs.1
  nt := tbs.2
theorem noOwn_startV {ds : List D} {N : Nat} {a : Addr} {σV : St} : ¬ Own σV (startF (ds.map .imm) N) a := fun ⟨i, s, e, so, _⟩ => by
  have e := start_get e
  rw [List.getElem?_map] at e
  cases h : ds[i]? with
  | none => rw [h] at e; cases e
  | some d => rw [h] at e; cases e; cases so
theorem stp_grw (st : Stp K ct F H σV σ F' H' σV' σ') (n : ∀ a, ¬ Own σV σ a) : Grw0 F H F' H' :=
  ⟨st.le, st.w.le, fun a o h => st.keep a o h (n a), fun a h => by
    rcases st.froz a h with z | z | z | z
    · exact .inl z
    · exact .inr (.inl z)
    · exact absurd z (n a)
    · exact .inr (.inr z), fun _ => st.w.nt⟩
theorem rrep_grep (st : Stp K ct F H σV σ F' H' σV' σ') {c : Addr} (n : ∀ a, Own σV σ a → a = c ∧ Own σV' σ' c) : ∀ {s : S} {v : V}, RRep K ct H σV σ F' H' σV' σ' s v → GRep K ct H F' H' s v
  | .imm _, _, r => r
  | .ls b l, _, ⟨h1, ⟨a, vs, e, f, h, r⟩, h3⟩ => ⟨h1, a, vs, e, (h3 a e).2.resolve_right fun o => (h3 a e).1 ((n a o).1 ▸ (n a o).2), f, h, r⟩
  | .ds b t l, _, ⟨h1, ⟨a, vs, e, f, h, r⟩, h3⟩ => ⟨h1, a, vs, e, (h3 a e).2.resolve_right fun o => (h3 a e).1 ((n a o).1 ▸ (n a o).2), f, h, r⟩
theorem wd_startI {s0 : S} {a : Addr} {ds : List D} {vs : List V} {N : List Str} (le : Le F H) (tbs : Tbs ct H ∧ NoT F) (ow : s0.own = true) (r0 : SRep K ct F H s0 (.ref a)) (r : DReps K ct F ds vs) : Wd K ct F H (L2.start N (.ref a :: vs)) (startF (s0.setIo true :: ds.map .imm) N.length) := by
  have only : ∀ i s, (startF (s0.setIo true :: ds.map .imm) N.length)[i]? = some (some s) → s.own = true → i = 0 := fun i s e so => by
    have e := start_get e
    cases i with
    | zero => rfl
    | succ i =>
      rw [List.getElem?_cons_succ, List.getElem?_map] at e
      cases h : ds[i]? with
      | none => rw [h] at e; cases e
      | some d => rw [h] at e; cases e; cases so
  refine ⟨le, fun i s e => ?_, fun i j s t b ei ej si sj _ _ => (only i s ei si).trans (only j t ej sj).symm, start_len (by simp [r.length]), tbs.1, tbs.2⟩
  have e := start_get e
  cases i with
  | zero => cases e; exact ⟨.ref a, startV_get (vs := .ref a :: vs) rfl, setIo_rep.mpr r0⟩
  | succ i =>
    rw [List.getElem?_cons_succ, List.getElem?_map] at e
    cases h : ds[i]? with
    | none => rw [h] at e; cases e
    | some d =>
      rw [h] at e; cases e
      obtain ⟨v, hv, rv⟩ := r.get h
      exact ⟨v, startV_get (vs := .ref a :: vs) (i := i + 1) (by rw [List.getElem?_cons_succ]; exact hv), rv⟩
theorem own_startI {s0 : S} {a b : Addr} {ds : List D} {vs : List V} {N : List Str} (h : Own (L2.start N (.ref a :: vs)) (startF (s0.setIo true :: ds.map .imm) N.length) b) : b = a := by
  obtain ⟨i, s, e, so, ev⟩ := h
  have e := start_get e
  cases i with
  | zero =>
    rw [startV_get (vs := .ref a :: vs) (v := .ref a) rfl] at ev
    cases ev; rfl
  | succ i =>
    rw [List.getElem?_cons_succ, List.getElem?_map] at e
    cases h : ds[i]? with
    | none => rw [h] at e; cases e
    | some d => rw [h] at e; cases e; cases so
end
/-! ### a def keeps its promise -/
section
variable {P : Program} {w : World} {K : PySem.W.Frag} {mg : Str → Option Value} {base : Heap} {x qual : Str} {params : Arguments} {body : List Stmt} {scope : Scope} {f : Addr} {fd : FuncData} {N ps : List Str} {k n : Nat} {ct : Ct} {m : M Fl}
theorem fokV (F : FunD K x qual params body scope [] [] f fd) (S : FnScope N ps scope) (hn : ps.length = n)
    (hb : ∀ (cdv : Value) (A : Around) (outer : List Env) (s : Shared) (H : Hp) (E : XK), Room k (A.deeper (PyProof.Rows.envOfC qual scope s.heap.objs.size f cdv)) → SSs (cxOf CX0 P w K mg base N qual scope f cdv A outer s H E).nox ct body m) :
    FnOk P w K mg base CX0 (k + 1) f fd ps (spV K ct n (runV N.length m)) := by
  refine F.ok S (fun vs H Q E ⟨_, ds, _, _, _, hl, r, _⟩ => by rw [← r.length, hl, hn]) fun cdv A outer s H vs Q E hr h => ⟨_, PSs.nox (hb cdv A outer s H E hr), ?_⟩
  obtain ⟨Fz, ds, r, le, tbs, hl, rs, hg, q⟩ := h
  unfold runV at hg
  split at hg
  · rename_i s' σ' h1
    cases hg
    refine ⟨Fz, _, wd_startV le tbs rs, _, _, h1, fun v σV' H' F' st rr => ?_⟩
    exact q v F' H' (stp_grw st fun a => noOwn_startV) st.w.tb (rrep_grep (c := 0) st (fun a o => absurd o noOwn_startV) rr)
  · rename_i σ' h1
    cases hg
    exact ⟨Fz, _, wd_startV le tbs rs, _, _, h1, fun v σV' H' F' st rr => q .non F' H' (stp_grw st fun a => noOwn_startV) st.w.tb rfl⟩
  · cases hg
theorem fokI (F : FunD K x qual params body scope [] [] f fd) (S : FnScope N ps scope) (hn : ps.length = n)
    (hb : ∀ (cdv : Value) (A : Around) (outer : List Env) (s : Shared) (H : Hp) (E : XK), Room k (A.deeper (PyProof.Rows.envOfC qual scope s.heap.objs.size f cdv)) → SSs (cxOf CX0 P w K mg base N qual scope f cdv A outer s H E).nox ct body m) :
    FnOk P w K mg base CX0 (k + 1) f fd ps (spI K ct n (runI N.length m)) := by
  refine F.ok S (fun vs H Q E ⟨_, _, _, ds, _, _, _, e, _, _, _, _, hl, r, _⟩ => by rw [e, List.length_cons, ← r.length, hl, hn]) fun cdv A outer s H vs Q E hr h => ⟨_, PSs.nox (hb cdv A outer s H E hr), ?_⟩
  obtain ⟨Fz, a, vs', ds, s0, r, r', rfl, le, tbs, ow, r0, hl, rs, hg, q⟩ := h
  have ww := wd_startI (N := N) le tbs ow r0 rs
  have h0 : (startF (s0.setIo true :: ds.map .imm) N.length)[0]? = some (some (s0.setIo true)) := by unfold startF; simp
  have hV0 : (L2.start N (V.ref a :: vs'))[0]? = some (some (.ref a)) := startV_get (vs := .ref a :: vs') rfl
  have fin : ∀ {σ' : Fr} {σV' : St} {F' H' : Hp} {s1 : Ev.S}, Stp K ct Fz H (L2.start N (.ref a :: vs')) (startF (s0.setIo true :: ds.map .imm) N.length) F' H' σV' σ' → σ'[0]? = some (some s1) → s1.own = true →
      GrwX a Fz H F' H' ∧ s1.own = true ∧ SRep K ct F' H' s1 (.ref a) ∧ Own σV' σ' a := fun {σ' σV' F' H' s1} st e1 so => by
    obtain ⟨⟨s2, e2, io2⟩, ev⟩ := st.io 0 _ h0 (setIo_io ow)
    rw [e1] at e2; cases e2
    rw [hV0] at ev
    obtain ⟨v', ev', rr⟩ := st.w.slot 0 _ e1
    rw [ev] at ev'; cases ev'
    have oa : Own σV' σ' a := ⟨0, s1, e1, so, ev⟩
    refine ⟨⟨st.le, st.w.le, fun b o hb h => st.keep b o h fun z => hb (own_startI z), fun _ => st.w.nt, st.there, fun b h => ?_⟩, so, rr, oa⟩
    rcases st.froz b h with z | z | z | z
    · exact .inl z
    · exact .inr (.inl z)
    · exact absurd ((st.w.own oa).1) (by rw [← own_startI z]; exact h)
    · exact .inr (.inr z)
  unfold runI at hg
  split at hg
  · rename_i s' σ' h1
    split at hg
    · rename_i s1 e1
      split at hg
      case isFalse => cases hg
      rename_i so1
      cases hg
      refine ⟨Fz, _, ww, _, _, h1, fun v σV' H' F' st rr => ?_⟩
      obtain ⟨g1, g2, g3, g4⟩ := fin st e1 so1
      exact q v F' H' g1 st.w.tb (rrep_grep (c := a) st (fun b o => ⟨own_startI o, g4⟩) rr) g2 g3
    · cases hg
  · rename_i σ' h1
    split at hg
    · rename_i s1 e1
      split at hg
      case isFalse => cases hg
      rename_i so1
      cases hg
      refine ⟨Fz, _, ww, _, _, h1, fun v σV' H' F' st rr => ?_⟩
      obtain ⟨g1, g2, g3, g4⟩ := fin st e1 so1
      exact q .non F' H' g1 st.w.tb rfl g2 g3
    · cases hg
  · cases hg
end
/-! ### calls -/
def mCall (n : Nat) (g : List D → Option S) (ms : List (M D)) : M S := fun σ => match mL ms σ with
  | some (ds, σ') => if ds.length = n then (match g ds with
    | some s => some (s, σ')
    | none => none) else none
  | none => none
def mCallI (i n : Nat) (g : S → List D → Option (S × S)) (ms : List (M D)) : M S := fun σ => match σ[i]? with
  | some (some _) => (match mL ms σ with
    | some (ds, σ') => (match σ'[i]? with
      | some (some s0) => if (s0.own && decide (ds.length + 1 = n)) = true then (match g s0 ds with
        | some (s, s') => some (s, σ'.set i (some (s'.setIo s0.io)))
        | none => none) else none
      | _ => none)
    | none => none)
  | _ => none
section
variable {X : Cx} {ct : Ct} {n k i : Nat} {f : Addr} {fd : FuncData} {ps : List Str} {x : Str} {p pos : Pos} {e : Expr} {es : List Expr} {ms : List (M D)}
theorem sf_call {g : List D → Option S} {E : XK} (F : FnOk X.prog X.w X.K X.mg X.base CX0 k f fd ps (spV X.K ct n g)) (hr : Room k X.A) (hg : Gl X x) (hm : X.mg x = some (.ref f)) (hk : PySem.W.keepIn X.K (.ref f) = true) (hb : Binds X.K fd ps []) (ha : SEs X ct (e :: es) ms)
    (hdb : (x == ("__debug__" : Str)) = false := by decide) (he : starEach (e :: es) X.env = (false, eval e X.env) :: starEach es X.env := by rfl) (hpl : (backTo pos (starEach es X.env)).any (·.1) = false := by rfl) : SF X ct (.Call (.Name x p) (e :: es) [] pos) (mCall n g ms) :=
  PEimp (pe_call (E := fun _ _ _ => False) F hr hg hm hk hb .nil (fun _ _ _ _ _ _ _ h => h.elim) ha hdb he hpl) fun σV H Q ⟨F, σ, w, s, σ', e, q⟩ => by
  unfold mCall at e
  split at e
  · rename_i ds σ1 h1
    split at e
    · rename_i hl
      split at e
      · rename_i s' hg'
        cases e
        refine tL_ok (F := F) (H := H) w h1 fun vs H1 F1 st rs => ?_
        rw [List.append_nil]
        exact ⟨F1, ds, s, st.w.le, ⟨st.w.tb, st.w.nt⟩, hl, rs, hg', fun v F2 H2 gr tb rv => q v H2 F2 (st.trans (gr.stp st.w tb)) (GRep.fresh0 st rv)⟩
      · cases e
    · cases e
  · cases e
theorem Stp.wrX {F H F' H' : Hp} {σV : St} {σ : Fr} {K : PySem.W.Frag} (w : Wd K ct F H σV σ) {s s' : S} {a : Addr} (e : σ[i]? = some (some s)) (so : s.own = true) (ev : σV[i]? = some (some (.ref a))) (g : GrwX a F H F' H') (tb : Tbs ct H') (r : SRep K ct F' H' s' (.ref a)) (io : s'.io = s.io) : Stp K ct F H σV σ F' H' σV (σ.set i (some s')) := by
  have ow : Own σV σ a := ⟨i, s, e, so, ev⟩
  refine ⟨⟨g.le', fun j t ej => ?_, fun j k t t' b ej ek to to' bj bk => ?_, by simp; exact w.ln, tb, g.nf w.nt⟩, g.le, fun b q h n => g.keep b q (fun z => n (z ▸ ow)) h, g.there, fun b z => ?_, fun b z => ?_, fun j t ej tio => ?_, by simp⟩
  · rcases set_get ej with ⟨rfl, rfl⟩ | ⟨hj, fj⟩
    · exact ⟨_, ev, r⟩
    · obtain ⟨v', e1, r1⟩ := w.slot j t fj
      refine ⟨v', e1, r1.keep g.le fun to b eb => ?_⟩
      subst eb
      have nb : b ≠ a := fun z => by subst z; exact hj (w.dis j i t s b fj e to so e1 ev)
      obtain ⟨fb, u, hb, nt⟩ := w.own ⟨j, t, fj, to, e1⟩
      refine ⟨?_, ((g.keep b u nb hb).eq nt.2.1).trans hb.symm⟩
      cases q : F' b with
      | none => rfl
      | some o =>
        rcases g.froz b (by rw [q]; simp) with z | z | ⟨xs, z⟩
        · exact absurd fb z
        · rw [hb] at z; cases z
        · rw [hb] at z; cases z; exact absurd rfl (nt.1 xs)
  · have old : ∀ {j : Nat} {t : S}, (σ.set i (some s'))[j]? = some (some t) → t.own = true → ∃ u, σ[j]? = some (some u) ∧ u.own = true := fun {j t} ej to => by
      rcases set_get ej with ⟨rfl, rfl⟩ | ⟨_, fj⟩
      · exact ⟨s, e, so⟩
      · exact ⟨t, fj, to⟩
    obtain ⟨u, fj, uo⟩ := old ej to
    obtain ⟨u', fk, uo'⟩ := old ek to'
    exact w.dis j k u u' b fj fk uo uo' bj bk
  · rcases g.froz b z with z | z | z
    · exact .inl z
    · exact .inr (.inl z)
    · exact .inr (.inr (.inr z))
  · obtain ⟨j, t, ej, to, bj⟩ := z
    rcases set_get ej with ⟨rfl, rfl⟩ | ⟨_, fj⟩
    · exact .inl ⟨j, s, e, so, bj⟩
    · exact .inl ⟨j, t, fj, to, bj⟩
  · by_cases hj : j = i
    · subst hj
      rw [e] at ej; cases ej
      exact ⟨⟨s', by rw [List.getElem?_set_self (List.getElem?_eq_some_iff.mp e).1], by rw [io]; exact tio⟩, rfl⟩
    · exact ⟨⟨t, by rw [List.getElem?_set_ne (Ne.symm hj)]; exact ej, tio⟩, rfl⟩
theorem sf_callI {g : S → List D → Option (S × S)} (F : FnOk X.prog X.w X.K X.mg X.base CX0 k f fd ps (spI X.K ct n g)) (hr : Room k X.A) (hg : Gl X x) (hm : X.mg x = some (.ref f)) (hk : PySem.W.keepIn X.K (.ref f) = true) (hb : Binds X.K fd ps []) (h0 : PE X e (tVar i)) (ha : SEs X ct es ms)
    (hdb : (x == ("__debug__" : Str)) = false := by decide) (he : starEach (e :: es) X.env = (false, eval e X.env) :: starEach es X.env := by rfl) (hpl : (backTo pos (starEach es X.env)).any (·.1) = false := by rfl) : SF X ct (.Call (.Name x p) (e :: es) [] pos) (mCallI i n g ms) :=
  PEimp (pe_call (E := fun _ _ _ => False) F hr hg hm hk hb .nil (fun _ _ _ _ _ _ _ h => h.elim) (pa_cons h0 ha he) hdb he hpl) fun σV H Q ⟨F, σ, w, s, σ', e, q⟩ => by
  unfold mCallI at e
  split at e
  · rename_i s00 h00
    split at e
    · rename_i ds σ1 h1
      split at e
      · rename_i s0 h0'
        split at e
        · rename_i hc
          rw [Bool.and_eq_true, decide_eq_true_eq] at hc
          split at e
          · rename_i s' s1 hg'
            cases e
            obtain ⟨v0, ev0, _⟩ := w.slot i _ h00
            refine ⟨v0, ev0, tL_ok (F := F) (H := H) w h1 fun vs H1 F1 st rs => ?_⟩
            show spI X.K ct n g ((v0 :: vs) ++ []) H1 Q _
            rw [List.append_nil]
            obtain ⟨v1, ev1, r1⟩ := st.w.slot i _ h0'
            rw [ev0] at ev1; cases ev1
            obtain ⟨a, u, rfl, fa, ha', _⟩ := r1.ref hc.1
            refine ⟨F1, a, vs, ds, s0, s, s1, rfl, st.w.le, ⟨st.w.tb, st.w.nt⟩, hc.1, r1, hc.2, rs, hg', fun v F2 H2 gr tb rv so rr => ?_⟩
            have st2 := Stp.wrX (s' := s1.setIo s0.io) st.w h0' hc.1 ev0 gr tb (setIo_rep.mpr rr) (setIo_io so)
            refine q v H2 F2 (st.trans st2) ?_
            have noown : ∀ c, H1 c = none → ¬ Own σV (σ1.set i (some (s1.setIo s0.io))) c := fun c hc1 o => by
              rcases st2.own c o with z | z
              · obtain ⟨_, u, z2, _⟩ := st.w.own z; rw [hc1] at z2; cases z2
              · obtain ⟨_, u, z2, _⟩ := st2.w.own o
                obtain ⟨j, t, ej, to, aj⟩ := o
                rcases set_get ej with ⟨rfl, rfl⟩ | ⟨_, fj⟩
                · rw [ev0] at aj; cases aj; rw [ha'] at hc1; cases hc1
                · obtain ⟨_, u', z3, _⟩ := st.w.own ⟨j, t, fj, to, aj⟩; rw [hc1] at z3; cases z3
            cases s with
            | prv => exact rv.elim
            | imm d => exact rv
            | ls b l => obtain ⟨hb', c, ws, ec, hc1, hc2, hc3, r⟩ := rv; exact ⟨hb', ⟨c, ws, ec, hc2, hc3, r⟩, fun c' ec' => by rw [ec] at ec'; cases ec'; exact ⟨noown c hc1, .inl (st.there c hc1)⟩⟩
            | ds b t l => obtain ⟨hb', c, ws, ec, hc1, hc2, hc3, r⟩ := rv; exact ⟨hb', ⟨c, ws, ec, hc2, hc3, r⟩, fun c' ec' => by rw [ec] at ec'; cases ec'; exact ⟨noown c hc1, .inl (st.there c hc1)⟩⟩
          · cases e
        · cases e
      · cases e
    · cases e
  · cases e
end
end Ev
end

section
set_option Elab.async false
set_option linter.all false
/-! EvR: a def as one fact: it may be called by its name and answers as its mirror. -/
namespace Ev
open PySem PySem.Spec L2
set_option autoImplicit false
theorem roomU {k : Nat} {A : Around} (r : Room k A) : A.units + 65 < cLine := by have := r.un; omega
theorem roomU64 {k : Nat} {A : Around} (r : Room k A) : A.units + 64 < cLine := by have := r.un; omega
theorem roomU1 {k : Nat} {A : Around} (r : Room k A) : A.units + 1 < cLine := by have := r.un; omega
structure CalV (P : Program) (w : World) (K : PySem.W.Frag) (mg : Str → Option Value) (base : Heap) (ct : Ct) (k : Nat) (x : Str) (n : Nat) (g : List D → Option S) : Prop where
  ex : ∃ (f : Addr) (fd : FuncData) (ps : List Str), FnOk P w K mg base CX0 k f fd ps (spV K ct n g) ∧ mg x = some (.ref f) ∧ PySem.W.keepIn K (.ref f) = true ∧ Binds K fd ps []
structure CalI (P : Program) (w : World) (K : PySem.W.Frag) (mg : Str → Option Value) (base : Heap) (ct : Ct) (k : Nat) (x : Str) (n : Nat) (g : S → List D → Option (S × S)) : Prop where
  ex : ∃ (f : Addr) (fd : FuncData) (ps : List Str), FnOk P w K mg base CX0 k f fd ps (spI K ct n g) ∧ mg x = some (.ref f) ∧ PySem.W.keepIn K (.ref f) = true ∧ Binds K fd ps []
section
variable {P : Program} {w : World} {K : PySem.W.Frag} {mg : Str → Option Value} {base : Heap} {x qual : Str} {params : Arguments} {body : List Stmt} {scope : Scope} {f : Addr} {fd : FuncData} {N ps : List Str} {k n : Nat} {ct : Ct} {m : M Fl}
theorem mkV (F : FunD K x x params body scope [] [] f fd) (hm : mg x = some (.ref f)) (S : FnScope N ps scope) (hn : ps.length = n)
    (b : ∀ (kV doc pm : Value) (an : Option Addr) (cdv ct : Value) (us : List Value), us.length = ps.length → bindArgs (PySem.W.fnOf x x params body scope .none kV doc pm an cdv ct) ⟨us, []⟩ = pure (ps.zip us))
    (hb : ∀ (cdv : Value) (A : Around) (outer : List Env) (s : Shared) (H : Hp) (E : XK), Room k (A.deeper (PyProof.Rows.envOfC x scope s.heap.objs.size f cdv)) → SSs (cxOf CX0 P w K mg base N x scope f cdv A outer s H E).nox ct body m) :
    CalV P w K mg base ct (k + 1) x n (runV N.length m) := ⟨f, fd, ps, fokV F S hn hb, hm, F.kp, F.bindsN b⟩
theorem mkI (F : FunD K x x params body scope [] [] f fd) (hm : mg x = some (.ref f)) (S : FnScope N ps scope) (hn : ps.length = n)
    (b : ∀ (kV doc pm : Value) (an : Option Addr) (cdv ct : Value) (us : List Value), us.length = ps.length → bindArgs (PySem.W.fnOf x x params body scope .none kV doc pm an cdv ct) ⟨us, []⟩ = pure (ps.zip us))
    (hb : ∀ (cdv : Value) (A : Around) (outer : List Env) (s : Shared) (H : Hp) (E : XK), Room k (A.deeper (PyProof.Rows.envOfC x scope s.heap.objs.size f cdv)) → SSs (cxOf CX0 P w K mg base N x scope f cdv A outer s H E).nox ct body m) :
    CalI P w K mg base ct (k + 1) x n (runI N.length m) := ⟨f, fd, ps, fokI F S hn hb, hm, F.kp, F.bindsN b⟩
end
section
variable {X : Cx} {ct : Ct} {n k j i : Nat} {x : Str} {p pos : Pos} {e : Expr} {es : List Expr} {ms : List (M D)}
theorem sf_cl {g : List D → Option S} (C : CalV X.prog X.w X.K X.mg X.base ct k x n g) (hr : Room j X.A) (hj : k ≤ j) (hg : Gl X x) (ha : SEs X ct (e :: es) ms)
    (hdb : (x == ("__debug__" : Str)) = false := by decide) (he : starEach (e :: es) X.env = (false, eval e X.env) :: starEach es X.env := by rfl) (hpl : (backTo pos (starEach es X.env)).any (·.1) = false := by rfl) : SF X ct (.Call (.Name x p) (e :: es) [] pos) (mCall n g ms) := by
  obtain ⟨f, fd, ps, h1, h2, h3, h4⟩ := C.ex
  exact sf_call (E := E0) h1 (hr.mono hj) hg h2 h3 h4 ha hdb he hpl
theorem sf_clI {g : S → List D → Option (S × S)} (C : CalI X.prog X.w X.K X.mg X.base ct k x n g) (hr : Room j X.A) (hj : k ≤ j) (hg : Gl X x) (h0 : PE X e (tVar i)) (ha : SEs X ct es ms)
    (hdb : (x == ("__debug__" : Str)) = false := by decide) (he : starEach (e :: es) X.env = (false, eval e X.env) :: starEach es X.env := by rfl) (hpl : (backTo pos (starEach es X.env)).any (·.1) = false := by rfl) : SF X ct (.Call (.Name x p) (e :: es) [] pos) (mCallI i n g ms) := by
  obtain ⟨f, fd, ps, h1, h2, h3, h4⟩ := C.ex
  exact sf_callI h1 (hr.mono hj) hg h2 h3 h4 h0 ha hdb he hpl
end
end Ev
end

section
set_option Elab.async false
set_option linter.all false
/-! EvW: the class Web: its instances, isinstance. -/
namespace Ev
open PySem PySem.Spec L2
set_option autoImplicit false
def ctW (C : Addr) (T : List (Addr × Str)) : Ct := ⟨fun _ => (C, ["tops", "lots", "known"]), T⟩
theorem ctw_lt {C : Addr} {T : List (Addr × Str)} {i j : Nat} {f : Str} (h : ∀ n, n < j → (["tops", "lots", "known"] : List Str)[n]? ≠ some f) : ∀ n, n < j → ((ctW C T).f i).2[n]? ≠ some f := h
def fIsW : D → Option S
  | .ins 0 _ => some (.imm (.bl true))
  | _ => none
section
variable {X : Cx} {C : Addr} {T : List (Addr × Str)}
theorem sf_isW {e : Expr} {p pos p2 : Pos} {y : Str} {a : A} (hg : Gl X "isinstance") (hm : X.mg "isinstance" = none) (hgy : Gl X y) (hW : C8.InsC X.K C ∧ X.mg y = some (.ref C) ∧ PySem.W.keepIn X.K (.ref C) = true) (ha : AE X (ctW C T) e a)
    (hdy : (y == ("__debug__" : Str)) = false := by decide) (hv : bootBuiltins "isinstance" = some (.builtin "isinstance") := by decide +kernel)
    (he : starEach [e, .Name y p2] X.env = (false, eval e X.env) :: starEach [.Name y p2] X.env := by rfl) (he2 : starEach [.Name y p2] X.env = (false, eval (.Name y p2) X.env) :: starEach [] X.env := by rfl) (hpl : (backTo pos (starEach [.Name y p2] X.env)).any (·.1) = false := by rfl) :
    SF X (ctW C T) (.Call (.Name "isinstance" p) [e, .Name y p2] [] pos) (m1 fIsW a) :=
  PEimp (pe_callB (C8.call_isC hW.1) hg hm hv (pa_cons ha (pa_cons (pe_glob (v := .ref C) hgy hW.2.1 rfl hdy) pa_nil he2) he) (by decide) (by decide) he hpl) fun σV H Q ⟨F, σ, w, s, σ', e, q⟩ =>
    m1_ok (r := fun x H Q => ∃ a dx fs, [x, V.ref C] = [.ref a, .ref C] ∧ H a = some (.ins C dx fs) ∧ Q (.bl true) H) (fun F H d c x Q le hf rx q => by
      unfold fIsW at hf
      split at hf
      · rename_i l
        cases hf
        obtain ⟨a, dx, fs, rfl, h1, h2, h3, h4⟩ := rx
        exact ⟨a, dx, fs, rfl, le _ _ h1, q _ F H (Grw.refl le) rfl⟩
      · cases hf) w e q
end
end Ev
end

section
set_option Elab.async false
set_option linter.all false
/-! EvU: statements while things of their own stand that no slot has: a root behind a slot (prv), and what hangs on it. -/
namespace Ev
open PySem PySem.Spec L2
set_option autoImplicit false
abbrev Pv := List (Addr × HO)
def PvOk (F H : Hp) (σV : St) (σ : Fr) (L : Pv) : Prop := ∀ p ∈ L, H p.1 = some p.2 ∧ F p.1 = none ∧ ¬ Own σV σ p.1 ∧ Nt p.2
abbrev MU (R : Type) := Fr → R → Option (Fl × Fr × R)
section
variable {K : PySem.W.Frag} {ct : Ct} {F0 H0 F H F' H' : Hp} {σV0 σV σV' : St} {σ0 σ σ' : Fr} {R : Type} {I : Hp → R → Pv → Prop} {L : Pv} {r : R} {j : Nat}
theorem PvOk.stp (h : PvOk F H σV σ L) (st : Stp K ct F H σV σ F' H' σV' σ') : PvOk F' H' σV' σ' L := fun p hp => by
  obtain ⟨h1, h2, h3, h4⟩ := h p hp
  obtain ⟨k1, k2, k3⟩ := st.apart h1 h2 h3 h4
  exact ⟨k1, k2, k3, h4⟩
structure UW (K : PySem.W.Frag) (ct : Ct) {R : Type} (I : Hp → R → Pv → Prop) (j : Nat) (F0 H0 : Hp) (σV0 : St) (σ0 : Fr) (F H : Hp) (σV : St) (σ : Fr) (r : R) (L : Pv) : Prop where
  st : Stp K ct F0 H0 σV0 σ0 F H σV σ
  pv : PvOk F H σV σ L
  nw : ∀ p ∈ L, H0 p.1 = none
  iv : I F r L
  nb : ∀ s, σ0[j]? = some (some s) → s.io = false
  rt : (∃ s, σ[j]? = some (some s) ∧ s.io = true) ∧ ∃ a, σV[j]? = some (some (.ref a)) ∧ L.head?.map (·.1) = some a
theorem UW.step (hI : ∀ F F' r L, Le F F' → I F r L → I F' r L) (u : UW K ct I j F0 H0 σV0 σ0 F H σV σ r L) (st : Stp K ct F H σV σ F' H' σV' σ') : UW K ct I j F0 H0 σV0 σ0 F' H' σV' σ' r L := by
  obtain ⟨⟨s, e, io⟩, a, ev, hd⟩ := u.rt
  obtain ⟨⟨s', e', io'⟩, ev'⟩ := st.io j s e io
  exact ⟨u.st.trans st, u.pv.stp st, u.nw, hI _ _ _ _ st.le u.iv, u.nb, ⟨s', e', io'⟩, a, ev'.trans ev, hd⟩
/-- one of them is changed -/
theorem UW.poke (u : UW K ct I j F0 H0 σV0 σ0 F H σV σ r L) {a : Addr} {o o' : HO} {r' : R} {L' : Pv} (ha : (a, o) ∈ L) (hn : Nt o') (hL : ∀ p ∈ L', (p.1 = a ∧ p.2 = o') ∨ (p ∈ L ∧ p.1 ≠ a)) (hI : I F r' L') (hh : L'.head?.map (·.1) = L.head?.map (·.1)) :
    UW K ct I j F0 H0 σV0 σ0 F (upd H a o') σV σ r' L' := by
  obtain ⟨h1, h2, h3, h4⟩ := u.pv _ ha
  refine ⟨u.st.poke (u.nw _ ha) h2 h3 h1 h4, fun p hp => ?_, fun p hp => ?_, hI, u.nb, ?_⟩
  · rcases hL p hp with ⟨e1, e2⟩ | ⟨hp, ne⟩
    · rw [e1, e2]; exact ⟨upd_same, h2, h3, hn⟩
    · obtain ⟨k1, k2, k3, k4⟩ := u.pv p hp
      exact ⟨by rw [upd_ne ne]; exact k1, k2, k3, k4⟩
  · rcases hL p hp with ⟨e1, e2⟩ | ⟨hp, ne⟩
    · rw [e1]; exact u.nw _ ha
    · exact u.nw p hp
  · rw [hh]; exact u.rt
/-- a new one is laid -/
theorem UW.lay (u : UW K ct I j F0 H0 σV0 σ0 F H σV σ r L) {a : Addr} {o' : HO} {r' : R} {L' : Pv} (ha : H a = none) (hn : Nt o') (hL : ∀ p ∈ L', (p.1 = a ∧ p.2 = o') ∨ p ∈ L) (hI : I F r' L') (hh : L'.head?.map (·.1) = L.head?.map (·.1)) :
    UW K ct I j F0 H0 σV0 σ0 F (upd H a o') σV σ r' L' := by
  have no : ¬ Own σV σ a := fun z => by obtain ⟨_, x, z, _⟩ := u.st.w.own z; rw [ha] at z; cases z
  refine ⟨u.st.trans (Stp.lay u.st.w ha), fun p hp => ?_, fun p hp => ?_, hI, u.nb, ?_⟩
  · rcases hL p hp with ⟨e1, e2⟩ | hp
    · rw [e1, e2]; exact ⟨upd_same, u.st.w.le.none ha, no, hn⟩
    · obtain ⟨k1, k2, k3, k4⟩ := u.pv p hp
      exact ⟨by rw [upd_ne fun z => by rw [z] at k1; rw [ha] at k1; cases k1]; exact k1, k2, k3, k4⟩
  · rcases hL p hp with ⟨e1, e2⟩ | hp
    · rw [e1]; exact u.st.there a ha
    · exact u.nw p hp
  · rw [hh]; exact u.rt
end
def rdU (X : Cx) (ct : Ct) {R : Type} (I : Hp → R → Pv → Prop) (j : Nat) (m : MU R) : TS := fun D σV H => ∃ F0 H0 σV0 σ0 F σ r L, UW X.K ct I j F0 H0 σV0 σ0 F H σV σ r L ∧ ∃ f σ' r', m σ r = some (f, σ', r') ∧
  ∀ v σV' H' F' L', UW X.K ct I j F0 H0 σV0 σ0 F' H' σV' σ' r' L' → Le F F' → FlR X.K ct H0 σV0 σ0 F' H' σV' σ' f v → D.to f v σV' H'
abbrev US (X : Cx) (ct : Ct) {R : Type} (I : Hp → R → Pv → Prop) (j : Nat) (st : Stmt) (m : MU R) : Prop := PS X st (rdU X ct I j m)
abbrev USs (X : Cx) (ct : Ct) {R : Type} (I : Hp → R → Pv → Prop) (j : Nat) (st : List Stmt) (m : MU R) : Prop := PSs X st (rdU X ct I j m)
section
variable {R : Type}
def uL (m : M Fl) : MU R := fun σ r => match m σ with
  | some (f, σ') => some (f, σ', r)
  | none => none
def uNx : MU R := fun σ r => some (.nx, σ, r)
def uSeq (m n : MU R) : MU R := fun σ r => match m σ r with
  | some (.nx, σ', r') => n σ' r'
  | some (.br, σ', r') => some (.br, σ', r')
  | some (.ct, σ', r') => some (.ct, σ', r')
  | some (.rt s, σ', r') => some (.rt s, σ', r')
  | none => none
def uIf (t : M Bool) (m n : MU R) : MU R := fun σ r => match t σ with
  | some (true, σ') => m σ' r
  | some (false, σ') => n σ' r
  | none => none
def lpU (T : Tg) (b : MU R) : List D → MU R
  | [], σ, r => some (.nx, σ, r)
  | d :: ds, σ, r => match T.put d σ with
    | some σ1 => (match b σ1 r with
      | some (.nx, σ2, r2) => lpU T b ds σ2 r2
      | some (.ct, σ2, r2) => lpU T b ds σ2 r2
      | some (.br, σ2, r2) => some (.nx, σ2, r2)
      | some (.rt s, σ2, r2) => some (.rt s, σ2, r2)
      | none => none)
    | none => none
def uFor (it : MI) (T : Tg) (b : MU R) : MU R := fun σ r => match it σ with
  | some (ds, σ1) => lpU T b ds σ1 r
  | none => none
variable {X : Cx} {ct : Ct} {I : Hp → R → Pv → Prop} {j : Nat} {pos : Pos} {st : Stmt} {rest body orelse : List Stmt} {tg iter c : Expr} {m n : MU R}
theorem us_lift {m : M Fl} (hI : ∀ F F' r L, Le F F' → I F r L → I F' r L) (h : SS X ct st m) : US X ct I j st (uL m) := PSimp h fun D σV H ⟨F0, H0, σV0, σ0, F, σ, r, L, u, f, σ', r', e, q⟩ => by
  unfold uL at e
  split at e
  · rename_i f1 σ1 h1
    cases e
    exact ⟨F, σ, u.st.w, _, _, h1, fun v σV' H' F' st' rr => q v σV' H' F' L (u.step hI st') st'.le (rr.step u.st)⟩
  · cases e
theorem uss_nil : USs X ct I j [] uNx := PSsimp pss_nil fun D σV H ⟨F0, H0, σV0, σ0, F, σ, r, L, u, f, σ', r', e, q⟩ => by
  cases e
  exact q .non σV H F L u (Le.refl F) rfl
theorem uss_one (h : US X ct I j st m) : USs X ct I j [st] m := pss_one h
theorem uss_cons (h : US X ct I j st m) (hs : USs X ct I j rest n) : USs X ct I j (st :: rest) (uSeq m n) := PSsimp (pss_cons h hs) fun D σV H ⟨F0, H0, σV0, σ0, F, σ, r, L, u, f, σ', r', e, q⟩ => by
  unfold uSeq at e
  split at e
  · rename_i σ1 r1 h1
    exact ⟨F0, H0, σV0, σ0, F, σ, r, L, u, _, _, _, h1, fun v σV1 H1 F1 L1 u1 le1 _ => ⟨F0, H0, σV0, σ0, F1, σ1, r1, L1, u1, _, _, _, e, fun v2 σV2 H2 F2 L2 u2 le2 rr => q v2 σV2 H2 F2 L2 u2 (le1.trans le2) rr⟩⟩
  all_goals first
    | (rename_i h1; cases e; exact ⟨F0, H0, σV0, σ0, F, σ, r, L, u, _, _, _, h1, fun v σV1 H1 F1 L1 u1 le1 rr => q v σV1 H1 F1 L1 u1 le1 rr⟩)
    | cases e
theorem us_if {t : M Bool} (hI : ∀ F F' r L, Le F F' → I F r L → I F' r L) (hc : ST X ct c t) (ha : USs X ct I j body m) (hb : USs X ct I j orelse n) : US X ct I j (.If c body orelse pos) (uIf t m n) := PSimp (ps_if hc ha hb) fun D σV H ⟨F0, H0, σV0, σ0, F, σ, r, L, u, f, σ', r', e, q⟩ => by
  unfold uIf at e
  split at e
  · rename_i σ1 h1
    refine ⟨F, σ, u.st.w, _, _, h1, fun H1 F1 st1 => iteT ?_⟩
    exact ⟨F0, H0, σV0, σ0, F1, σ1, r, L, u.step hI st1, _, _, _, e, fun v2 σV2 H2 F2 L2 u2 le2 rr => q v2 σV2 H2 F2 L2 u2 (st1.le.trans le2) rr⟩
  · rename_i σ1 h1
    refine ⟨F, σ, u.st.w, _, _, h1, fun H1 F1 st1 => iteF ?_⟩
    exact ⟨F0, H0, σV0, σ0, F1, σ1, r, L, u.step hI st1, _, _, _, e, fun v2 σV2 H2 F2 L2 u2 le2 rr => q v2 σV2 H2 F2 L2 u2 (st1.le.trans le2) rr⟩
  · cases e
theorem us_for {it : MI} {T : Tg} {b : MU R} (hI : ∀ F F' r L, Le F F' → I F r L → I F' r L) (hp : PassesOwn (model X.prog X.w) X.A X.env X.xe) (hc : X.calm = true) (hi : SI X ct tg iter it) (hg : SG X ct tg T) (hb : USs X ct I j body b)
    (hs : ∀ x, foldedSetIterable iter X.env x = pure x := by intro _; rfl) : US X ct I j (.For tg iter body [] pos) (uFor it T b) := PSimp (ps_for hp hc hi hg hb hs) fun D σV H ⟨F0, H0, σV0, σ0, F, σ, r, L, u, f, σ', r', e, q⟩ => by
  unfold uFor at e
  split at e
  · rename_i ds σ1 h1
    refine ⟨F, σ, u.st.w, ds, σ1, h1, fun J H1 F1 st1 ⟨G, Y, wk, hG, hY⟩ => ?_⟩
    refine for_it wk (fun i σVi Hi => ∃ Fi σi ri Li, UW X.K ct I j F0 H0 σV0 σ0 Fi Hi σVi σi ri Li ∧ Le F1 Fi ∧ lpU T b (ds.drop i) σi ri = some (f, σ', r')) ⟨F1, σ1, r, L, u.step hI st1, Le.refl F1, e⟩ (fun i σVi Hi _ ⟨Fi, σi, ri, Li, ui, lei, _⟩ => hG Hi (lei.trans ui.st.w.le)) ?_ ?_
    · rintro i x σVi Hi H' hlt ⟨Fi, σi, ri, Li, ui, lei, hl⟩ y
      obtain ⟨F3, d, gr, hd, rd⟩ := hY Fi i Hi x H' lei ui.st.w.le hlt y
      rw [drop_at hd] at hl
      have u3 := ui.step hI (gr.stp ui.st.w)
      simp only [lpU] at hl
      split at hl
      · rename_i σ2 h2
        refine ⟨F3, σi, d, σ2, u3.st.w, rd, h2, fun σV2 st2 _ => ?_⟩
        have u4 := u3.step hI st2
        have le4 := lei.trans gr.le
        have le5 := st1.le.trans le4
        split at hl
        · rename_i σ3 r3 h3
          exact ⟨F0, H0, σV0, σ0, F3, σ2, ri, Li, u4, _, _, _, h3, fun v σV3 H3 F3' L3 u5 le6 rr => ⟨F3', _, _, L3, u5, le4.trans le6, hl⟩⟩
        · rename_i σ3 r3 h3
          exact ⟨F0, H0, σV0, σ0, F3, σ2, ri, Li, u4, _, _, _, h3, fun v σV3 H3 F3' L3 u5 le6 rr => ⟨F3', _, _, L3, u5, le4.trans le6, hl⟩⟩
        · rename_i σ3 r3 h3
          cases hl
          exact ⟨F0, H0, σV0, σ0, F3, σ2, ri, Li, u4, _, _, _, h3, fun v σV3 H3 F3' L3 u5 le6 rr => q .non σV3 H3 F3' L3 u5 (le5.trans le6) rfl⟩
        · rename_i s σ3 r3 h3
          cases hl
          exact ⟨F0, H0, σV0, σ0, F3, σ2, ri, Li, u4, _, _, _, h3, fun v σV3 H3 F3' L3 u5 le6 rr => q v σV3 H3 F3' L3 u5 (le5.trans le6) rr⟩
        · cases hl
      · cases hl
    · rintro σVi Hi ⟨Fi, σi, ri, Li, ui, lei, hl⟩
      rw [List.drop_length] at hl
      simp only [lpU] at hl
      cases hl
      exact q .non σVi Hi Fi Li ui (st1.le.trans lei) rfl
  · cases e
end
end Ev
end

section
set_option Elab.async false
set_option linter.all false
/-! EvX: lists of own lists: laid, added to, frozen. -/
namespace Ev
open PySem PySem.Spec L2
set_option autoImplicit false
section
variable {K : PySem.W.Frag} {ct : Ct} {F0 H0 F H F' H' : Hp} {σV0 σV σV' : St} {σ0 σ σ' : Fr}
/-- a slot becomes the root's -/
theorem Stp.setP (st : Stp K ct F0 H0 σV0 σ0 F H σV σ) {i : Nat} {a : Addr} (h : okSet σ i = true) : Stp K ct F0 H0 σV0 σ0 F H (σV.set i (some (.ref a))) (σ.set i (some .prv)) where
  w := by
    have hi := okSet_lt h
    have hv : i < σV.length := Nat.lt_of_lt_of_le hi st.w.ln
    have sv : (σV.set i (some (V.ref a)))[i]? = some (some (.ref a)) := by rw [List.getElem?_set_self hv]
    have nv : ∀ j, j ≠ i → (σV.set i (some (V.ref a)))[j]? = σV[j]? := fun j hj => by rw [List.getElem?_set_ne (Ne.symm hj)]
    refine ⟨st.w.le, fun j t e => ?_, fun j k t t' b ej ek to to' aj ak => ?_, by simp; exact st.w.ln, st.w.tb, st.w.nt⟩
    · rcases set_get e with ⟨rfl, rfl⟩ | ⟨hj, e⟩
      · exact ⟨_, sv, a, rfl⟩
      · obtain ⟨u, e1, q⟩ := st.w.slot j t e
        exact ⟨u, by rw [nv j hj]; exact e1, q⟩
    · rcases set_get ej with ⟨rfl, rfl⟩ | ⟨hj, fj⟩
      · cases to
      · rcases set_get ek with ⟨rfl, rfl⟩ | ⟨hk, fk⟩
        · cases to'
        · rw [nv j hj] at aj
          rw [nv k hk] at ak
          exact st.w.dis j k t t' b fj fk to to' aj ak
  le := st.le
  keep := st.keep
  there := st.there
  froz := st.froz
  own := fun b ⟨j, t, ej, to, aj⟩ => by
    rcases set_get ej with ⟨rfl, rfl⟩ | ⟨hj, ej⟩
    · cases to
    · rw [List.getElem?_set_ne (Ne.symm hj)] at aj
      exact st.own b ⟨j, t, ej, to, aj⟩
  io := fun j t ej tio => by
    obtain ⟨⟨t', e', o'⟩, ev⟩ := st.io j t ej tio
    have hj : j ≠ i := fun z => by subst z; rw [okSet_io h t' e'] at o'; cases o'
    exact ⟨⟨t', by rw [List.getElem?_set_ne (Ne.symm hj)]; exact e', o'⟩, by rw [List.getElem?_set_ne (Ne.symm hj)]; exact ev⟩
  len := by simp; exact st.len
theorem own_setP {i : Nat} {a b : Addr} (h : Own (σV.set i (some (.ref a))) (σ.set i (some .prv)) b) : Own σV σ b := by
  obtain ⟨j, t, ej, to, aj⟩ := h
  rcases set_get ej with ⟨rfl, rfl⟩ | ⟨hj, ej⟩
  · cases to
  · rw [List.getElem?_set_ne (Ne.symm hj)] at aj
    exact ⟨j, t, ej, to, aj⟩
/-- the root's slot becomes a deep thing's -/
theorem Stp.unP (st : Stp K ct F0 H0 σV0 σ0 F H σV σ) {i : Nat} {d : D} {v : V} {s : S} (nb : ∀ s, σ0[i]? = some (some s) → s.io = false) (e : σ[i]? = some (some s)) (ev : σV[i]? = some (some v)) (r : DRep K ct F d v) : Stp K ct F0 H0 σV0 σ0 F H σV (σ.set i (some (.imm d))) where
  w := by
    refine ⟨st.w.le, fun j t e => ?_, fun j k t t' b ej ek to to' aj ak => ?_, by simp; exact st.w.ln, st.w.tb, st.w.nt⟩
    · rcases set_get e with ⟨rfl, rfl⟩ | ⟨hj, e⟩
      · exact ⟨v, ev, r⟩
      · exact st.w.slot j t e
    · rcases set_get ej with ⟨rfl, rfl⟩ | ⟨hj, fj⟩
      · cases to
      · rcases set_get ek with ⟨rfl, rfl⟩ | ⟨hk, fk⟩
        · cases to'
        · exact st.w.dis j k t t' b fj fk to to' aj ak
  le := st.le
  keep := st.keep
  there := st.there
  froz := st.froz
  own := fun b ⟨j, t, ej, to, aj⟩ => by
    rcases set_get ej with ⟨rfl, rfl⟩ | ⟨hj, ej⟩
    · cases to
    · exact st.own b ⟨j, t, ej, to, aj⟩
  io := fun j t ej tio => by
    obtain ⟨⟨t', e', o'⟩, ev⟩ := st.io j t ej tio
    have hj : j ≠ i := fun z => by subst z; rw [nb t ej] at tio; cases tio
    exact ⟨⟨t', by rw [List.getElem?_set_ne (Ne.symm hj)]; exact e', o'⟩, ev⟩
  len := by simp; exact st.len
theorem own_unP {i : Nat} {d : D} {b : Addr} (h : Own σV (σ.set i (some (.imm d))) b) : Own σV σ b := by
  obtain ⟨j, t, ej, to, aj⟩ := h
  rcases set_get ej with ⟨rfl, rfl⟩ | ⟨hj, ej⟩
  · cases to
  · exact ⟨j, t, ej, to, aj⟩
/-- a thing that no slot has is frozen -/
theorem Stp.frz1 (st : Stp K ct F0 H0 σV0 σ0 F H σV σ) {a : Addr} {o : HO} (fa : F a = none) (ha : H a = some o) (n1 : ¬ Own σV σ a) (n2 : H0 a = none) (no : ∀ ps, o ≠ .tbl ps) : Stp K ct F0 H0 σV0 σ0 (upd F a o) H σV σ where
  w := ⟨fun b q z => by
      by_cases hb : b = a
      · subst hb; rw [upd_same] at z; cases z; exact ha
      · rw [upd_ne hb] at z; exact st.w.le b q z, fun i s e => by
      obtain ⟨v, e1, r⟩ := st.w.slot i s e
      refine ⟨v, e1, r.keep (Le.laid fa) fun so b eb => ?_⟩
      subst eb
      have o : Own σV σ b := ⟨i, s, e, so, e1⟩
      have nb : b ≠ a := fun z => n1 (z ▸ o)
      exact ⟨by rw [upd_ne nb]; exact (st.w.own o).1, rfl⟩, st.w.dis, st.w.ln, st.w.tb, st.w.nt.upd no⟩
  le := st.le.trans (Le.laid fa)
  keep := st.keep
  there := st.there
  froz := fun b z => by
    by_cases hb : b = a
    · subst hb; exact .inr (.inl n2)
    · rw [upd_ne hb] at z; exact st.froz b z
  own := st.own
  io := st.io
  len := st.len
/-- all private things frozen -/
theorem Stp.frzL : ∀ {L : Pv} {F : Hp}, Stp K ct F0 H0 σV0 σ0 F H σV σ → PvOk F H σV σ L → (∀ p ∈ L, H0 p.1 = none) → (L.map (·.1)).Nodup → ∃ F', Stp K ct F0 H0 σV0 σ0 F' H σV σ ∧ Le F F' ∧ ∀ p ∈ L, F' p.1 = some p.2
  | [], F, st, _, _, _ => ⟨F, st, Le.refl F, fun p hp => by cases hp⟩
  | q :: L, F, st, pv, nw, nd => by
    obtain ⟨h1, h2, h3, h4⟩ := pv q (by simp)
    rw [List.map_cons, List.nodup_cons] at nd
    have st1 := st.frz1 h2 h1 h3 (nw q (by simp)) h4.2.1
    obtain ⟨F', st', le, all⟩ := Stp.frzL (L := L) st1 (fun p hp => by
      obtain ⟨k1, k2, k3, k4⟩ := pv p (by simp [hp])
      exact ⟨k1, by rw [upd_ne fun z => nd.1 (by rw [← z]; exact List.mem_map_of_mem hp)]; exact k2, k3, k4⟩) (fun p hp => nw p (by simp [hp])) nd.2
    refine ⟨F', st', (Le.laid h2).trans le, fun p hp => ?_⟩
    rcases List.mem_cons.mp hp with rfl | hp
    · exact le _ _ upd_same
    · exact all p hp
end
/-! ### lists of lists -/
structure RwOk (K : PySem.W.Frag) (ct : Ct) (F : Hp) (r : List (List D)) (as : List Addr) (vss : List (List V)) : Prop where
  la : as.length = r.length
  lv : vss.length = r.length
  at_ : ∀ (i : Nat) (l : List D), r[i]? = some l → ∃ vs : List V, vss[i]? = some vs ∧ DReps K ct F l vs
def rowsL (as : List Addr) (vss : List (List V)) : Pv := as.zip (vss.map HO.lst)
def IR (K : PySem.W.Frag) (ct : Ct) (sh : Hp → Pv → Addr → Prop) (F : Hp) (r : List (List D)) (L : Pv) : Prop := ∃ pre p as vss, sh F pre p ∧ L = pre ++ (p, .lst (as.map V.ref)) :: rowsL as vss ∧ (L.map (·.1)).Nodup ∧ RwOk K ct F r as vss
section
variable {K : PySem.W.Frag} {ct : Ct} {F F' : Hp} {sh : Hp → Pv → Addr → Prop}
theorem RwOk.mono {r : List (List D)} {as : List Addr} {vss : List (List V)} (le : Le F F') (h : RwOk K ct F r as vss) : RwOk K ct F' r as vss := ⟨h.la, h.lv, fun i l e => by
  obtain ⟨vs, e1, r⟩ := h.at_ i l e
  exact ⟨vs, e1, DReps.mono le _ _ r⟩⟩
theorem IR.mono (hm : ∀ F F' pre p, Le F F' → sh F pre p → sh F' pre p) : ∀ F F' r L, Le F F' → IR K ct sh F r L → IR K ct sh F' r L := fun F F' r L le ⟨pre, p, as, vss, h1, h2, h3, h4⟩ => ⟨pre, p, as, vss, hm _ _ _ _ le h1, h2, h3, h4.mono le⟩
theorem rows_get {as : List Addr} {vss : List (List V)} {i : Nat} {a : Addr} {vs : List V} (h : as[i]? = some a) (k : vss[i]? = some vs) : (a, HO.lst vs) ∈ rowsL as vss := by
  refine List.mem_of_getElem? (i := i) ?_
  unfold rowsL
  rw [List.getElem?_zip_eq_some]
  exact ⟨h, by rw [List.getElem?_map, k]; rfl⟩
theorem rows_of {as : List Addr} {vss : List (List V)} {q : Addr × HO} (h : q ∈ rowsL as vss) : ∃ (i : Nat) (vs : List V), as[i]? = some q.1 ∧ vss[i]? = some vs ∧ q.2 = .lst vs := by
  obtain ⟨i, e⟩ := List.mem_iff_getElem?.mp h
  unfold rowsL at e
  rw [List.getElem?_zip_eq_some] at e
  obtain ⟨e1, e2⟩ := e
  rw [List.getElem?_map] at e2
  cases q3 : vss[i]? with
  | none => rw [q3] at e2; cases e2
  | some vs => rw [q3] at e2; exact ⟨i, vs, e1, q3, (Option.some.inj e2).symm⟩
theorem rows_keys {as : List Addr} {vss : List (List V)} (h : vss.length = as.length) : (rowsL as vss).map (·.1) = as := by
  unfold rowsL
  rw [List.map_fst_zip]
  simp [h]
end
/-! ### what ends with the root frozen -/
def rdX (X : Cx) (ct : Ct) {R : Type} (I : Hp → R → Pv → Prop) (j : Nat) (m : Fr → R → Option (Fl × Fr)) : TS := fun D σV H => ∃ F0 H0 σV0 σ0 F σ r L, UW X.K ct I j F0 H0 σV0 σ0 F H σV σ r L ∧ ∃ f σ', m σ r = some (f, σ') ∧
  ∀ v σV' H' F', Stp X.K ct F0 H0 σV0 σ0 F' H' σV' σ' → FlR X.K ct H0 σV0 σ0 F' H' σV' σ' f v → D.to f v σV' H'
abbrev UXs (X : Cx) (ct : Ct) {R : Type} (I : Hp → R → Pv → Prop) (j : Nat) (st : List Stmt) (m : Fr → R → Option (Fl × Fr)) : Prop := PSs X st (rdX X ct I j m)
def xSeq {R : Type} (m : MU R) (n : Fr → R → Option (Fl × Fr)) : Fr → R → Option (Fl × Fr) := fun σ r => match m σ r with
  | some (.nx, σ', r') => n σ' r'
  | some (.br, σ', _) => some (.br, σ')
  | some (.ct, σ', _) => some (.ct, σ')
  | some (.rt s, σ', _) => some (.rt s, σ')
  | none => none
def xFz (j : Nat) (m : M Fl) : Fr → List (List D) → Option (Fl × Fr) := fun σ r => match σ[j]? with
  | some (some .prv) => m (σ.set j (some (.imm (.lst (r.map D.lst)))))
  | _ => none
section
variable {R : Type} {X : Cx} {ct : Ct} {I : Hp → R → Pv → Prop} {j : Nat} {st : Stmt} {rest : List Stmt}
theorem uxs_cons {m : MU R} {n : Fr → R → Option (Fl × Fr)} (h : US X ct I j st m) (hs : UXs X ct I j rest n) : UXs X ct I j (st :: rest) (xSeq m n) := PSsimp (pss_cons h hs) fun D σV H ⟨F0, H0, σV0, σ0, F, σ, r, L, u, f, σ', e, q⟩ => by
  unfold xSeq at e
  split at e
  · rename_i σ1 r1 h1
    exact ⟨F0, H0, σV0, σ0, F, σ, r, L, u, _, _, _, h1, fun v σV1 H1 F1 L1 u1 le1 _ => ⟨F0, H0, σV0, σ0, F1, σ1, r1, L1, u1, _, _, e, q⟩⟩
  all_goals first
    | (rename_i h1; cases e; exact ⟨F0, H0, σV0, σ0, F, σ, r, L, u, _, _, _, h1, fun v σV1 H1 F1 L1 u1 le1 rr => q v σV1 H1 F1 u1.st rr⟩)
    | cases e
def sh0 : Hp → Pv → Addr → Prop := fun _ pre _ => pre = []
theorem sh0_mono : ∀ F F' pre p, Le F F' → sh0 F pre p → sh0 F' pre p := fun _ _ _ _ _ h => h
theorem hrd0 {j : Nat} : ∀ (F : Hp) (σV : St) (H : Hp) (pre : Pv) (p : Addr) (Q : VK), sh0 F pre p → (∀ q ∈ pre, H q.1 = some q.2) → (∃ a, σV[j]? = some (some (.ref a)) ∧ (pre ++ [(p, HO.lst [])]).head?.map (·.1) = some a) → Q (.ref p) H → tVar j σV H Q := fun F σV H pre p Q h _ ⟨a, e, hh⟩ q => by
  obtain rfl : pre = [] := h
  obtain rfl : p = a := by simpa using hh
  exact ⟨_, e, q⟩
theorem rows_reps {K : PySem.W.Frag} {F : Hp} : ∀ {r : List (List D)} {as : List Addr} {vss : List (List V)}, RwOk K ct F r as vss → (∀ p ∈ rowsL as vss, F p.1 = some p.2) → DReps K ct F (r.map D.lst) (as.map V.ref)
  | [], [], _, _, _ => rfl
  | [], _ :: _, _, h, _ => by have := h.la; simp at this
  | _ :: _, [], _, h, _ => by have := h.la; simp at this
  | l :: r, a :: as, vss, h, hf => by
    obtain ⟨vs, e, rr⟩ := h.at_ 0 l rfl
    cases vss with
    | nil => simp at e
    | cons ws vss =>
      obtain rfl : ws = vs := by simpa using e
      refine ⟨.ref a, as.map V.ref, rfl, ⟨a, ws, rfl, hf (a, .lst ws) (by simp [rowsL]), rr⟩, ?_⟩
      refine rows_reps (r := r) (vss := vss) ⟨by have := h.la; simpa using this, by have := h.lv; simpa using this, fun i l' e' => ?_⟩ fun p hp => hf p (by simp only [rowsL, List.map_cons, List.zip_cons_cons, List.mem_cons]; exact .inr hp)
      obtain ⟨us, e1, r1⟩ := h.at_ (i + 1) l' (by simpa using e')
      exact ⟨us, by simpa using e1, r1⟩
theorem uxs_fz {m : M Fl} (h : SSs X ct rest m) : UXs X ct (IR X.K ct sh0) j rest (xFz j m) := PSsimp h fun D σV H ⟨F0, H0, σV0, σ0, F, σ, r, L, u, f, σ', e, q⟩ => by
  unfold xFz at e
  split at e
  · rename_i h1
    obtain ⟨pre, p, as, vss, hsh, hL, nd, rw_⟩ := u.iv
    obtain rfl : pre = [] := hsh
    rw [List.nil_append] at hL
    obtain ⟨F', st', le, all⟩ := Stp.frzL u.st u.pv u.nw nd
    have rp : DRep X.K ct F' (.lst (r.map Ev.D.lst)) (.ref p) := ⟨p, _, rfl, all (p, .lst (as.map V.ref)) (by rw [hL]; simp), rows_reps (rw_.mono le) fun q hq => all q (by rw [hL]; simp [hq])⟩
    obtain ⟨_, a, ev, hh⟩ := u.rt
    rw [hL] at hh
    obtain rfl : p = a := by simpa using hh
    have st2 := st'.unP (d := .lst (r.map Ev.D.lst)) u.nb h1 ev rp
    exact ⟨F', _, st2.w, _, _, e, fun v σV2 H2 F2 st3 rr => q v σV2 H2 F2 (st2.trans st3) (rr.step st2)⟩
  · cases e
end
end Ev
end

section
set_option Elab.async false
set_option linter.all false
/-! EvY: [[] for x in ..], rows added to. -/
namespace Ev
open PySem PySem.Spec L2
set_option autoImplicit false
section
variable {X : Cx} {ct : Ct}
def tE0 : TE := fun σ H Q => ∀ l, H l = none → Q (.ref l) (upd H l (.lst []))
theorem pe_e0 {pos : Pos} : PE X (.List [] pos) tE0 := PEimp (pe_lst pa_nil) fun σV H Q q => ⟨Nat.zero_le _, q⟩
def rdRows (X : Cx) (ct : Ct) (it : MI) (T : Tg) (vs : List Nat) : TE := fun σV H Q => ∃ F σ, Wd X.K ct F H σV σ ∧ ∃ xs σ', mLc it T mYes (mC .non) vs σ = some (.ls false xs, σ') ∧
  ∀ (R : Addr) (as : List Addr) H' F', Stp X.K ct F H σV σ F' H' σV σ' → as.length = xs.length → PvOk F' H' σV σ' ((R, .lst (as.map V.ref)) :: as.map fun a => (a, HO.lst [])) → (R :: as).Nodup → (∀ a ∈ R :: as, H a = none) → Q (.ref R) H'
theorem own_shown {K : PySem.W.Frag} {F1 H1 Fi Hi : Hp} {σV : St} {σ1 σi : Fr} {vs : List Nat} (w1 : Wd K ct F1 H1 σV σ1) (sti : Stp K ct F1 H1 (wipe σV vs) (hide σ1 vs) Fi Hi (wipe σV vs) σi) {a : Addr} (ha : H1 a = none) (ni : ¬ Own (wipe σV vs) σi a) : ¬ Own σV (shown σi σ1 vs) a := fun o => by
  obtain ⟨j, t, ej, to, aj⟩ := o
  by_cases hj : j ∈ vs
  · rw [shown_get (by rw [sti.len, hide_len]), if_pos (by simpa using hj)] at ej
    obtain ⟨_, u, z2, _⟩ := w1.own ⟨j, t, ej, to, aj⟩; rw [ha] at z2; cases z2
  · rw [shown_get (by rw [sti.len, hide_len]), if_neg (by simpa using hj)] at ej
    exact ni ⟨j, t, ej, to, by rw [wipe_out hj]; exact aj⟩
theorem rows_imp {σV : St} {H : Hp} {Q : VK} {it : MI} {T : Tg} {vs : List Nat} (hT : ∀ i ∈ T.vs, i ∈ vs) (h : rdRows X ct it T vs σV H Q) :
    tLc (iRd X ct it) (gRd X.K ct T) (rdT X ct mYes) tE0 vs σV H Q := by
  obtain ⟨F, σ, w, s, σ', e, q⟩ := h
  unfold mLc at e
  split at e
  · rename_i ds σ1 h1
    split at e
    · rename_i hl
      split at e
      · rename_i all σe h2
        cases e
        refine ⟨F, σ, w, ds, σ1, h1, fun J H1 F1 st1 ⟨G, Y, wk, hG, hY⟩ R hR => ?_⟩
        have w1 := st1.w
        have wh : Wd X.K ct F1 H1 (wipe σV vs) (hide σ1 vs) := w1.hide
        have fR := w1.le.none hR
        have nR : ¬ Own (wipe σV vs) (hide σ1 vs) R := fun o => by obtain ⟨_, u, z, _⟩ := wh.own o; rw [hR] at z; cases z
        refine lc_it wk (fun i Hi => ∃ Fi σi as xs, Stp X.K ct F1 H1 (wipe σV vs) (hide σ1 vs) Fi Hi (wipe σV vs) σi ∧ Le F1 Fi ∧ PvOk Fi Hi (wipe σV vs) σi ((R, .lst (as.map V.ref)) :: as.map fun a => (a, HO.lst [])) ∧ (R :: as).Nodup ∧ (∀ a ∈ as, H1 a = none) ∧
          as.length ≤ i ∧ lpC T mYes (mC .non) vs (ds.drop i) σi = some (xs, σe) ∧ as.length + xs.length = s.length) ?_ (fun i Hi _ ⟨Fi, σi, _, _, sti, lei, _⟩ => hG Hi (lei.trans sti.w.le)) ?_ ?_
        · refine ⟨F1, hide σ1 vs, [], s, Stp.lay wh hR, Le.refl F1, fun p hp => ?_, by simp, (fun a ha => by cases ha), Nat.le_refl 0, h2, by simp⟩
          obtain rfl : p = (R, .lst []) := by simpa using hp
          exact ⟨upd_same, fR, nR, (by first | exact Nt.lst | exact Nt.dK | exact Nt.dT | exact Nt.ins | exact Nt.own)⟩
        · rintro i x Hi H' hlt ⟨Fi, σi, as, xs, sti, lei, pv, nd, nw, la, hp, ha⟩ y
          obtain ⟨F3, d, gr, hd, rd⟩ := hY Fi i Hi x H' lei sti.w.le hlt y
          rw [drop_at hd] at hp
          have g3 := gr.stp sti.w
          simp only [lpC] at hp
          split at hp
          · rename_i σ2 hp2
            refine ⟨F3, σi, d, σ2, g3.w, rd, hp2, fun σV2 st2 c2 => ?_⟩
            have ew : wipe σV2 vs = wipe σV vs := by rw [wipe_chg c2 hT, wipe_wipe]
            refine ⟨ew, ?_⟩
            simp only [mYes] at hp
            refine ⟨F3, σ2, st2.w, true, σ2, rfl, fun H4 F4 st4 => iteT ?_⟩
            simp only [mC] at hp
            split at hp
            · rename_i xs' σ5 h5
              cases hp
              intro l hl4
              have turn := g3.trans (st2.trans st4)
              have pv5 := pv.stp turn
              have tot := (sti.trans turn).forget ew
              have hR5 := (pv5 (R, .lst (as.map V.ref)) (by simp)).1
              have nl : ∀ b o, H4 b = some o → b ≠ l := fun b o e z => by rw [z, hl4] at e; cases e
              refine ⟨as.map V.ref, by rw [upd_ne (nl _ _ hR5)]; exact hR5, ?_, ?_⟩
              · have : ds.length ≤ sizeLine := by rw [← LIM_eq]; exact hl
                rw [List.length_map]; omega
              have fl4 : F4 l = none := st4.w.le.none hl4
              have no : ∀ a, ¬ Own σV2 σ2 a → ¬ Own (wipe σV vs) (hide σ2 vs) a := fun a n o => n (Own.of_hide (vs := vs) (ew ▸ o))
              have nol : ¬ Own (wipe σV vs) (hide σ2 vs) l := fun o => by obtain ⟨_, u, z, _⟩ := tot.w.own o; rw [hl4] at z; cases z
              have pR := pv5 (R, .lst (as.map V.ref)) (by simp)
              have tot3 := (tot.trans (Stp.lay tot.w hl4 (o := .lst []))).poke (p := R) (o := .lst (as.map V.ref ++ [.ref l])) hR pR.2.1 (no _ pR.2.2.1) (by rw [upd_ne (fun z => by rw [z] at pR; rw [hl4] at pR; cases pR.1)]; exact pR.1) Nt.lst
              have pa : ∀ a ∈ as, H4 a = some (.lst []) ∧ F4 a = none ∧ ¬ Own (wipe σV vs) (hide σ2 vs) a := fun a ha => by
                obtain ⟨k1, k2, k3, _⟩ := pv5 (a, .lst []) (by simp [ha])
                exact ⟨k1, k2, no _ k3⟩
              have nRl : R ≠ l := nl _ _ hR5
              rw [List.nodup_cons] at nd
              refine ⟨F4, hide σ2 vs, as ++ [l], xs', tot3, lei.trans turn.le, fun p hp => ?_, ?_, fun a ha => ?_, by simp; exact la, h5, by rw [← ha]; simp; omega⟩
              · rw [List.map_append, List.map_append] at hp
                rcases List.mem_cons.mp hp with rfl | hp
                · exact ⟨upd_same, pR.2.1, no _ pR.2.2.1, (by first | exact Nt.lst | exact Nt.dK | exact Nt.dT | exact Nt.ins | exact Nt.own)⟩
                rcases List.mem_append.mp hp with hp | hp
                · obtain ⟨a, ha', rfl⟩ := List.mem_map.mp hp
                  obtain ⟨k1, k2, k3⟩ := pa a ha'
                  exact ⟨by rw [upd_ne fun z => nd.1 (by rw [← z]; exact ha'), upd_ne (nl _ _ k1)]; exact k1, k2, k3, (by first | exact Nt.lst | exact Nt.dK | exact Nt.dT | exact Nt.ins | exact Nt.own)⟩
                · obtain rfl : p = (l, .lst []) := by simpa using hp
                  exact ⟨by rw [upd_ne nRl.symm, upd_same], fl4, nol, (by first | exact Nt.lst | exact Nt.dK | exact Nt.dT | exact Nt.ins | exact Nt.own)⟩
              · rw [List.nodup_cons, List.nodup_append]
                refine ⟨fun z => ?_, nd.2, by simp, fun a ha b hb => ?_⟩
                · rcases List.mem_append.mp z with z | z
                  · exact nd.1 z
                  · exact nRl (by simpa using z)
                · obtain rfl : b = l := by simpa using hb
                  exact nl _ _ (pa a ha).1
              · rcases List.mem_append.mp ha with ha | ha
                · exact nw a ha
                · obtain rfl : a = l := by simpa using ha
                  exact (sti.trans turn).there a hl4
            · cases hp
          · cases hp
        · rintro Hi ⟨Fi, σi, as, xs, sti, lei, pv, nd, nw, la, hp, ha⟩
          rw [List.drop_length] at hp
          simp only [lpC] at hp
          cases hp
          have tot := Stp.show w1 sti
          have hall : ∀ a ∈ R :: as, H1 a = none := fun a ha => by
            rcases List.mem_cons.mp ha with rfl | ha
            · exact hR
            · exact nw a ha
          refine q R as Hi Fi (st1.trans tot) (by simpa using ha) (fun p hp => ?_) nd fun a ha => st1.there a (hall a ha)
          obtain ⟨k1, k2, k3, k4⟩ := pv p hp
          refine ⟨k1, k2, own_shown w1 sti (hall _ ?_) k3, k4⟩
          rcases List.mem_cons.mp hp with rfl | hp
          · simp
          · obtain ⟨a, ha', rfl⟩ := List.mem_map.mp hp
            simp [ha']
      · cases e
    · cases e
  · cases e
end
end Ev
end

section
set_option Elab.async false
set_option linter.all false
/-! EvZ: rows laid under a name, rows added to. -/
namespace Ev
open PySem PySem.Spec L2
set_option autoImplicit false
def mRows (j : Nat) (it : MI) (T : Tg) (vs : List Nat) (n : Fr → List (List D) → Option (Fl × Fr)) : M Fl := fun σ => match mLc it T mYes (mC .non) vs σ with
  | some (.ls false xs, σ') => if okSet σ' j = true then n (σ'.set j (some .prv)) (xs.map fun _ => []) else none
  | _ => none
def uApp (mi me : M D) : MU (List (List D)) := fun σ r => match mi σ with
  | some (.int i, σ1) => (match me σ1 with
    | some (d, σ2) => (match ixN r.length i with
      | some k => (match r[k]? with
        | some l => if l.length < LIM then some (.nx, σ2, r.set k (l ++ [d])) else none
        | none => none)
      | none => none)
    | none => none)
  | _ => none
section
variable {X : Cx} {ct : Ct} {j : Nat} {pos spos apos ipos : Pos} {tg iter o k e : Expr} {rest : List Stmt} {scope : Scope} {own : List (Str × Nat)}
theorem rowsL_nil (as : List Addr) : rowsL as (as.map fun _ => []) = as.map fun a => (a, HO.lst []) := by
  unfold rowsL
  rw [List.map_map]
  induction as with
  | nil => rfl
  | cons a as ih => simp only [List.map_cons, List.zip_cons_cons, ih]; rfl
theorem sss_rows {y : Str} {py lpos : Pos} {it : MI} {T : Tg} {n : Fr → List (List D) → Option (Fl × Fr)} (hc : X.calm = true) (hN : X.N.Nodup) (hy : X.N[j]? = some y) (hyl : X.env.scope.names.lookup y = some .local)
    (hsw : swapsWith (.ListComp (.List [] lpos) [⟨tg, iter, [], 0⟩] scope pos) (some (.Name y py)) spos.line X.env = pure true) (hi : SI X ct tg iter it) (ok : BlkOk X.N X.env.scope scope own)
    (hg : ∀ (s : Shared) (H : Hp) (C : Addr) (cl : List (Str × Addr)) (fp : List Addr), SG (X.blk s H scope (compEnvC scope cl C X.env) fp) ct tg T) (hr : UXs X ct (IR X.K ct sh0) j rest n)
    (hT : ∀ i ∈ T.vs, i ∈ own.map (·.2) := by decide) (hs : ∀ x, foldedSetIterable iter X.env x = pure x := by intro _; rfl) :
    SSs X ct (.Assign [.Name y py] (.ListComp (.List [] lpos) [⟨tg, iter, [], 0⟩] scope pos) spos :: rest) (mRows j it T (own.map (·.2)) n) :=
  PSsimp (pss_cons (ps_setLc (wi := iRd X ct it) (g := gRd X.K ct T) (tt := rdT X ct mYes) (te := tE0) hc hN hy hyl hsw hi ok hg (fun _ _ _ _ _ => sts_nil (ct := ct)) (fun _ _ _ _ _ => pe_e0) hs) hr) fun D σV H ⟨F, σ, w, f, σ', e, q⟩ => by
  show tLc (iRd X ct it) (gRd X.K ct T) (rdT X ct mYes) tE0 (own.map (·.2)) σV H fun v H1 => rdX X ct (IR X.K ct sh0) j n D (σV.set j (some v)) H1
  refine rows_imp (X := X) (ct := ct) (it := it) (T := T) hT ?_
  unfold mRows at e
  split at e
  · rename_i xs σ1 h1
    split at e
    · rename_i ho
      refine ⟨F, σ, w, xs, σ1, h1, fun R as H1 F1 st1 hl pv nd nw => ?_⟩
      have hv : j < σV.length := Nat.lt_of_lt_of_le (okSet_lt ho) st1.w.ln
      refine ⟨F, H, σV, σ, F1, σ1.set j (some .prv), xs.map fun _ => [], (R, .lst (as.map V.ref)) :: rowsL as (as.map fun _ => []), ⟨st1.setP ho, fun p hp => ?_, fun p hp => ?_, ⟨[], R, as, as.map fun _ => [], rfl, rfl, ?_, ?_⟩, ?_, ?_⟩, f, σ', e, q⟩
      · rw [rowsL_nil] at hp
        obtain ⟨k1, k2, k3, k4⟩ := pv p hp
        exact ⟨k1, k2, fun o => k3 (own_setP o), k4⟩
      · rw [rowsL_nil] at hp
        rcases List.mem_cons.mp hp with rfl | hp
        · exact nw _ (by simp)
        · obtain ⟨a, ha, rfl⟩ := List.mem_map.mp hp
          exact nw _ (by simp [ha])
      · rw [List.map_cons, rows_keys (by simp)]; exact nd
      · refine ⟨by simp [hl], by simp [hl], fun i l e => ?_⟩
        rw [List.getElem?_map] at e
        cases q : xs[i]? with
        | none => rw [q] at e; cases e
        | some x =>
          rw [q] at e; cases e
          have hi : i < as.length := by rw [hl]; exact (List.getElem?_eq_some_iff.mp q).1
          exact ⟨[], by rw [List.getElem?_map, List.getElem?_eq_getElem hi]; rfl, rfl⟩
      · intro s hs'
        cases hio : s.io with
        | false => rfl
        | true =>
          obtain ⟨⟨s', e', io'⟩, _⟩ := st1.io j s hs' hio
          rw [okSet_io ho s' e'] at io'; cases io'
      · exact ⟨⟨.prv, by rw [List.getElem?_set_self (okSet_lt ho)], rfl⟩, R, by rw [List.getElem?_set_self hv], rfl⟩
    · cases e
  · cases e
theorem us_app {mi me : M D} {to : TE} {sh : Hp → Pv → Addr → Prop} (hm : ∀ F F' pre p, Le F F' → sh F pre p → sh F' pre p) (ho : PE X o to)
    (hrd : ∀ (F : Hp) (σV : St) (H : Hp) (pre : Pv) (p : Addr) (Q : VK), sh F pre p → (∀ q ∈ pre, H q.1 = some q.2) → (∃ a, σV[j]? = some (some (.ref a)) ∧ (pre ++ [(p, HO.lst [])]).head?.map (·.1) = some a) → Q (.ref p) H → to σV H Q)
    (hk : SE X ct k mi) (h : SE X ct e me) (hpx : PlainIx k)
    (hbase : attributeBase (.Subscript o k ipos) "append" X.env (eval (.Subscript o k ipos) X.env) = eval (.Subscript o k ipos) X.env := by rfl)
    (hfew : ((backTo pos (starEach [e] X.env)).all (fun x => !x.1) && (backToKw pos (keywordEach [] X.env)).all (fun x => x.1.isSome) && decide ([e].length + ([] : List Keyword).length + (if ([] : List Keyword).isEmpty then 0 else 1) < 30)) = true := by rfl)
    (hline : (apos.endLine == pos.line) = true := by rfl) (hs : starEach [e] X.env = (false, eval e X.env) :: starEach [] X.env := by rfl) (hplain : (backTo pos (starEach [] X.env)).any (·.1) = false := by rfl)
    (hsw : swapsWith (.Call (.Attribute (.Subscript o k ipos) "append" apos) [e] [] pos) none spos.line X.env = pure false := by rfl) :
    US X ct (IR X.K ct sh) j (.Expr (.Call (.Attribute (.Subscript o k ipos) "append" apos) [e] [] pos) spos) (uApp mi me) :=
  PSimp (ps_expr (pe_bm F.plainAttrs_list F.slot_list_append F.type_list_append mt_append (pe_ix ix_list ho hk hpx) (pa_cons h pa_nil hs) hbase hfew hline hs hplain) hsw) fun D σV H ⟨F0, H0, σV0, σ0, F, σ, r, L, u, f, σ', r', e, q⟩ => by
  have mono := IR.mono (K := X.K) (ct := ct) (sh := sh) hm
  unfold uApp at e
  split at e
  · rename_i i σ1 h1
    split at e
    · rename_i d σ2 h2
      split at e
      · rename_i n hn
        split at e
        · rename_i l hl
          split at e
          · rename_i hlen
            cases e
            obtain ⟨pre, p, as, vss, hsh, hL, nd, rw_⟩ := u.iv
            obtain ⟨_, a, ev, hh⟩ := u.rt
            have hpre : ∀ q ∈ pre, H q.1 = some q.2 := fun q hq => (u.pv q (by rw [hL]; simp [hq])).1
            refine hrd F σV H pre p _ hsh hpre ⟨a, ev, ?_⟩ ⟨F, σ, u.st.w, _, σ1, h1, fun iv H1 F1 st1 ri => ?_⟩
            · rw [hL] at hh
              cases pre with
              | nil => exact hh
              | cons x pre => exact hh
            have u1 := u.step mono st1
            obtain rfl : iv = .int i := ri
            have hp1 : H1 p = some (.lst (as.map V.ref)) := (u1.pv (p, _) (by rw [hL]; simp)).1
            obtain ⟨vs, hv, rl⟩ := rw_.at_ n l hl
            have hlt : n < as.length := by rw [rw_.la]; exact (List.getElem?_eq_some_iff.mp hl).1
            have han : as[n]? = some as[n] := List.getElem?_eq_getElem hlt
            have hmem : (as[n], HO.lst vs) ∈ L := by rw [hL]; simp [rows_get han hv]
            refine ⟨p, as.map V.ref, i, .ref as[n], rfl, rfl, SqL.of hp1, ?_, ?_⟩
            · show (ixN (as.map V.ref).length i).bind (fun j => (as.map V.ref)[j]?) = _
              rw [List.length_map, rw_.la, hn]
              show (as.map V.ref)[n]? = _
              rw [List.getElem?_map, han]; rfl
            refine ⟨.inl ⟨rfl, vs, SqL.of (u1.pv _ hmem).1⟩, F1, σ1, st1.w, d, _, h2, fun v H2 F2 st2 rv => ?_⟩
            have u2 := u1.step mono st2
            refine ⟨as[n], vs, v, rfl, rfl, (u2.pv _ hmem).1, by rw [← rl.length, ← LIM_eq]; exact hlen, ?_⟩
            have nd2 := nd
            rw [hL, List.map_append, List.map_cons, rows_keys (by rw [rw_.lv, rw_.la]), List.nodup_append] at nd2
            obtain ⟨nd3, nd4, nd5⟩ := nd2
            rw [List.nodup_cons] at nd4
            have le2 := st1.le.trans st2.le
            refine q .non σV _ F2 (pre ++ (p, .lst (as.map V.ref)) :: rowsL as (vss.set n (vs ++ [v]))) (u2.poke (o' := .lst (vs ++ [v])) hmem (by first | exact Nt.lst | exact Nt.dK | exact Nt.dT | exact Nt.ins | exact Nt.own) (fun x hx => ?_) ⟨pre, p, as, _, hm _ _ _ _ le2 hsh, rfl, ?_, ?_⟩ ?_) le2 rfl
            · rcases List.mem_append.mp hx with hx | hx
              · exact .inr ⟨by rw [hL]; simp [hx], fun z => nd5 _ (List.mem_map_of_mem hx) as[n] (by simp) z⟩
              rcases List.mem_cons.mp hx with rfl | hx
              · exact .inr ⟨by rw [hL]; simp, fun z => nd4.1 (by rw [show p = as[n] from z]; simp)⟩
              · obtain ⟨xa, xo⟩ := x
                obtain ⟨k', ws, e1, e2, e3⟩ := rows_of hx
                by_cases hk' : k' = n
                · subst hk'
                  rw [han] at e1; cases e1
                  rw [List.getElem?_set_self (by rw [rw_.lv, ← rw_.la]; exact hlt)] at e2; cases e2
                  exact .inl ⟨by simp_all, e3⟩
                · rw [List.getElem?_set_ne (Ne.symm hk')] at e2
                  refine .inr ⟨by rw [hL]; have := rows_get e1 e2; rw [← e3] at this; simp [this], fun z => hk' ?_⟩
                  rw [z, ← han] at e1
                  exact (List.getElem?_inj (List.getElem?_eq_some_iff.mp (e1.trans han)).1 nd4.2).mp e1
            · rw [List.map_append, List.map_cons, rows_keys (by rw [List.length_set, rw_.lv, rw_.la])]
              rw [hL, List.map_append, List.map_cons, rows_keys (by rw [rw_.lv, rw_.la])] at nd
              exact nd
            · refine ⟨by rw [List.length_set]; exact rw_.la, by rw [List.length_set, List.length_set]; exact rw_.lv, fun i' l' e' => ?_⟩
              by_cases hi : i' = n
              · subst hi
                rw [List.getElem?_set_self (List.getElem?_eq_some_iff.mp hl).1] at e'; cases e'
                exact ⟨_, by rw [List.getElem?_set_self (by rw [rw_.lv, ← rw_.la]; exact hlt)], DReps.append (DReps.mono le2 _ _ rl) (DReps.one rv)⟩
              · rw [List.getElem?_set_ne (Ne.symm hi)] at e'
                obtain ⟨ws, e1, r1⟩ := rw_.at_ i' l' e'
                exact ⟨ws, by rw [List.getElem?_set_ne (Ne.symm hi)]; exact e1, DReps.mono le2 _ _ r1⟩
            · rw [hL]
              cases pre with
              | nil => rfl
              | cons x pre => rfl
          · cases e
        · cases e
      · cases e
    · cases e
  · cases e
end
end Ev
end

section
set_option Elab.async false
set_option linter.all false
/-! EvT: {k: v for ..} with keys that are tuples: the block's walk for any kind of new dict (o0: how it begins, put: how one is added). -/
namespace Ev
open PySem PySem.Spec PyProof.Rows L2
set_option autoImplicit false
section
variable {X : Cx}
theorem d_addT {X : Cx} {pins : List (Addr × Obj)} {σ : L2.St} {H : Hp} {s : Shared} {E : Value → Shared → Prop} {A : Around} {R b : Addr} {kvs : List (List Key × V)} {k : List Key} {v : V} {r : Value} {Q : Unit → Shared → Prop} (hu : A.units < cLine) (I : Inv X pins σ H s) (hD : H R = some (.dT kvs)) (hz : kvs.length < sizeLine)
    (eb : H b = some (.tup (k.map kV))) (rv : RelV v r) (h : ∀ s', Inv X pins σ (upd H R (.dT (putK kvs k v))) s' → Q () s') : wpAny (model X.prog X.w) A (dictSet R (.ref b) r) Q E s := by
  obtain ⟨z, hd, xs, rel, dd⟩ := dt_of I.hok hD
  refine wpAny_dictSet_heap (hsz := by rw [← Paired.length rel]; exact z) (show (tupleKind (mixKind X.prog X.w)).room A from hu) (key_of I.hok eb) dd fun h' dd' hs => h _ ?_
  obtain ⟨q, es, ep, hq, h2, h3, h4, _, h5⟩ := dd'
  have le1 : (putK kvs k v).length ≤ sizeLine := Nat.le_trans (length_putK kvs k v) hz
  refine d_write I (by rw [hD]; trivial) hs ⟨q, hq⟩ ⟨le1, hd, _, (rel.put k eb rv).keeps fun c ys ec => ?_, q, es, ep, hq, h2, h3, h4, h5⟩
  rw [upd_ne (ne_of ec hD (fun z => nomatch z))]; exact ec
abbrev PutR := Addr → V → V → Hp → (Hp → Prop) → Prop
/-- the reading: o0 the new dict, put what a turn adds -/
def tDcG (o0 : HO) (put : PutR) (wi : TI) (g : TG) (tt : TT) (tk tv : TE) (vs : List Nat) : TE := fun σ H Q => wi σ H fun J H1 => ∀ R, H1 R = none → ∃ W : Nat → Nat → Hp → Prop, (∃ m, W 0 m (upd H1 R o0)) ∧ ∀ i m H, W i m H →
  (J.stop i H ∧ Q (.ref R) H) ∨ (J.go i H ∧ ∃ Nx : Hp → Prop, (∀ H', Nx H' → ∃ m', m' < m ∧ W (i + 1) m' H') ∧ ∀ x H', J.yld i H x H' → g x (wipe σ vs) H' fun σ2 H2 => wipe σ2 vs = wipe σ vs ∧ tt σ2 H2 fun b H3 =>
    if b = true then tk σ2 H3 fun y H4 => tv σ2 H4 fun z H5 => put R y z H5 Nx else Nx H3)
theorem pe_dcG {o0 : HO} {put : PutR} {kx vx tg iter : Expr} {ifs : List Expr} {scope : Scope} {own : List (Str × Nat)} {pos : Pos} {wi : TI} {g : TG} {tt : TT} {tk tv : TE} (hc : X.calm = true) (hN : X.N.Nodup) (hi : PI X tg iter wi) (ok : BlkOk X.N X.env.scope scope own)
    (hemp : ∀ (h : Heap) (H : Hp), sysModules < h.objs.size → ObjOk X.prog X.w H (h.push { cls := .type "dict", data := .dict #[] }) h.objs.size o0)
    (hput : ∀ (Y : Cx) (pins : List (Addr × Obj)) (σ : L2.St) (H : Hp) (s : Shared) (R : Addr) (y z : V) (u r : Value) (Nx : Hp → Prop) (Q : Unit → Shared → Prop) (E : Value → Shared → Prop), Y.prog = X.prog → Y.w = X.w → Y.A = X.A → Inv Y pins σ H s → put R y z H Nx → RelV y u → RelV z r → (∀ s' H', Inv Y pins σ H' s' → Nx H' → Q () s') → wpAny (model Y.prog Y.w) Y.A (dictSet R u r) Q E s)
    (hg : ∀ (s : Shared) (H : Hp) (C : Addr) (cl : List (Str × Addr)) (fp : List Addr), PG (X.blk s H scope (compEnvC scope cl C X.env) fp) tg g) (ht : ∀ (s : Shared) (H : Hp) (C : Addr) (cl : List (Str × Addr)) (fp : List Addr), PTs (X.blk s H scope (compEnvC scope cl C X.env) fp) ifs tt)
    (hk : ∀ (s : Shared) (H : Hp) (C : Addr) (cl : List (Str × Addr)) (fp : List Addr), PE (X.blk s H scope (compEnvC scope cl C X.env) fp) kx tk)
    (hv : ∀ (s : Shared) (H : Hp) (C : Addr) (cl : List (Str × Addr)) (fp : List Addr), PE (X.blk s H scope (compEnvC scope cl C X.env) fp) vx tv) (hs : ∀ x, foldedSetIterable iter X.env x = pure x) :
    PE X (.DictComp kx vx [⟨tg, iter, ifs, 0⟩] scope pos) (tDcG o0 put wi g tt tk tv (own.map (·.2))) := ⟨fun pins s σ H Q I h => by
  rw [arm_eval_DictComp]
  have cells : ∀ y ∈ scope.names, y.2 = .free → ∃ c, X.env.cells.lookup y.1 = some c := fun y hy e => (ok.free y hy e).elim (fun z => I.ok.has _ (.inl z)) fun z => I.ok.has _ (.inr z)
  refine wpAny_comprehension_free (use := none) rfl hs (closure_ok cells) ok.kind (fun y hy e => by rw [ok.uniq y hy, e]) (thn (hi.run pins s σ H _ I h) fun xv sa hx => thn hx fun itv sb hb => ?_)
  obtain ⟨it, fp, tn, J, Hb, rfl, Ib, T, tb, fb, q⟩ := hb
  refine wpAny_newObj_type (newEnv_comp ?_)
  have new0 : Hb sb.heap.objs.size = none := Ib.hok.fresh (Nat.le_refl _)
  obtain ⟨W, ⟨m0, w0⟩, turn⟩ := q _ new0
  generalize esc : ({ sb with heap := sb.heap.push { cls := .type "dict", data := .dict #[] } } : Shared) = sc
  have hc0 : sc.heap = sb.heap.push { cls := .type "dict", data := .dict #[] } := by rw [← esc]
  have Ic : Inv X pins σ (upd Hb sb.heap.objs.size o0) sc := by
    rw [← esc]
    exact Ib.laid (t' := sb.toks) (fun b o e => Heap.get?_push_of_some _ e) (Nat.le_refl _) (hemp sb.heap _ Ib.big)
  have fc : ∀ b ∈ fp, FpOk X pins (upd Hb sb.heap.objs.size o0) b ∧ b < sc.heap.objs.size := fun b hb => by
    obtain ⟨o, e, _⟩ := T.obj _ _ tb b hb
    have lt := Heap.lt_size e
    exact ⟨⟨by rw [upd_ne (Nat.ne_of_lt lt)]; exact (fb b hb).1, (fb b hb).2⟩, by rw [hc0, Heap.size_push]; exact Nat.lt_succ_of_lt lt⟩
  have tc : tn 0 sc.heap := T.keep _ _ _ tb fun b _ o e => by rw [hc0]; exact Heap.get?_push_of_some _ e
  generalize sb.heap.objs.size = R at new0 w0 turn Ic fc ⊢
  generalize upd Hb R o0 = Hc at w0 Ic fc
  have Id := block_start Ic ok hN fc
  have g1 := hg sc Hc sc.heap.objs.size (cellsFrom (sc.heap.objs.size + 1) scope.names (cloFrom X.env.cells scope.names [])) fp
  have g2 := ht sc Hc sc.heap.objs.size (cellsFrom (sc.heap.objs.size + 1) scope.names (cloFrom X.env.cells scope.names [])) fp
  have g3 := hk sc Hc sc.heap.objs.size (cellsFrom (sc.heap.objs.size + 1) scope.names (cloFrom X.env.cells scope.names [])) fp
  have g4 := hv sc Hc sc.heap.objs.size (cellsFrom (sc.heap.objs.size + 1) scope.names (cloFrom X.env.cells scope.names [])) fp
  show codeAny _ _ (.compStart (.DictComp kx vx [⟨tg, iter, ifs, 0⟩] scope pos) 0 (.ref it) (.ref R) (compEnvC scope (cellsFrom (sc.heap.objs.size + 1) scope.names (cloFrom X.env.cells scope.names [])) sc.heap.objs.size X.env)) (compPost (model X.prog X.w) X.A X.xe none (EP X pins σ Q) (.ref R) sc.heap.objs.size) { sc with heap := pushCells (sc.heap.push { cls := .type "dict", data := .dict #[] }) scope.names }
  generalize ece : compEnvC scope (cellsFrom (sc.heap.objs.size + 1) scope.names (cloFrom X.env.cells scope.names [])) sc.heap.objs.size X.env = ce at Id g1 g2 g3 g4 ⊢
  have locs : ce.locals = sc.heap.objs.size := by rw [← ece]; rfl
  generalize esd : ({ sc with heap := pushCells (sc.heap.push { cls := .type "dict", data := .dict #[] }) scope.names } : Shared) = sd at Id ⊢
  have td : tn 0 sd.heap := T.keep _ _ _ tc fun b _ o e => by rw [← esd]; exact pushCells_keeps _ _ _ _ (Heap.get?_push_of_some _ e)
  have own_ : ∀ {σ' : L2.St} {H' : Hp} {s' : Shared}, Inv (X.blk sc Hc scope ce fp) [] σ' H' s' → (∀ b ∈ fp, H' b = none) → ∀ b ∈ fp, FpOk (X.blk sc Hc scope ce fp) [] H' b := fun {σ' H' s'} J' n b hb =>
    ⟨n b hb, (J'.ok.exf b hb).1, J'.ok.exfs b hb, .inl hb, fun x c e => (J'.ok.exf b hb).2 x c e, fun p hp => by cases hp⟩
  have body : codeAny (model X.prog X.w) X.A (.compLoop (.DictComp kx vx [⟨tg, iter, ifs, 0⟩] scope pos) 0 (.ref it) (.ref R) ce) (compPost (model X.prog X.w) X.A X.xe none (EP X pins σ Q) (.ref R) sc.heap.objs.size) sd := by
    refine compLoop_anyD (fun n s' => ∃ i H', Inv (X.blk sc Hc scope ce fp) [] (wipe σ (own.map (·.2))) H' s' ∧ tn i s'.heap ∧ (∀ b ∈ fp, H' b = none) ∧ W i n H') ?_ m0 ⟨0, Hc, Id, td, fun b hb => (fc b hb).1.1, w0⟩
    intro n s1 ⟨i, H1, I1, t1, n1, w1⟩
    rcases turn i n H1 w1 with ⟨stop, qq⟩ | ⟨go, Nx, toNx, step⟩
    · refine thnF (T.done (X.blk sc Hc scope ce fp) rfl rfl rfl hc i [] s1 _ H1 (fun _ _ => False) I1 (own_ I1 n1) t1 stop) fun r s2 ⟨er, I2⟩ => ?_
      subst er
      have back : Inv X pins σ H1 s2 := Ic.call' (ch := fp) I2.os I2.base I2.hok I2.bare fun b hb => let z := (fc b hb).1.2; ⟨z.2.2.1, z.1, z.2.2.2.1, z.2.2.2.2⟩
      have freeL : H1 sc.heap.objs.size = none := locs ▸ I2.free
      obtain ⟨m, hns, _⟩ := I2.loc
      have hns : s2.heap.Ns ce.locals m := hns
      rw [locs] at hns
      obtain ⟨f0, f1, f2, f3, f4, f5⟩ := Ic.fpOk (Nat.le_refl _) freeL
      exact ⟨m, hns, fun h'' sb' => ⟨.ref R, H1, back.turned (t' := s2.toks) (fun b o hb e => (sb'.2 b hb).trans e) f0 f1 f3 f4 f5, rfl, qq⟩⟩
    · refine thnF (T.item (X.blk sc Hc scope ce fp) rfl rfl rfl hc i [] s1 _ H1 (fun _ _ => False) I1 (own_ I1 n1) t1 go) fun r s2 ⟨u, er, h2⟩ => ?_
      subst er
      refine thnF h2 fun _ s3 ⟨x, H3, I3, r3, y3, t3, n3⟩ => ?_
      refine thnF (g1.run _ s3 _ H3 x u _ (I3.pinned (own_ I3 n3) (T.obj _ _ t3)) r3 (step x H3 y3)) fun _ s4 ⟨σ4, H4, I4, w4, q4⟩ => ?_
      refine thnF (g2.run _ s4 σ4 H4 _ I4 q4) fun b s5 ⟨H5, I5, q5⟩ => ?_
      have over : ∀ (s' : Shared) (H' : Hp), Inv (X.blk sc Hc scope ce fp) ([] ++ pinsAt fp s3.heap) σ4 H' s' → Nx H' → ∃ m, m < n ∧ ∃ i H', Inv (X.blk sc Hc scope ce fp) [] (wipe σ (own.map (·.2))) H' s' ∧ tn i s'.heap ∧ (∀ b ∈ fp, H' b = none) ∧ W i m H' := fun s' H' J' nx => by
        obtain ⟨m', lt, w'⟩ := toNx H' nx
        have pin' : ∀ b ∈ fp, ∀ o, s3.heap.get? b = some o → s'.heap.get? b = some o ∧ H' b = none := fun b hb o e => by
          obtain ⟨z1, z2, _⟩ := J'.pin (b, o) (List.mem_append_right _ (List.mem_append_right _ (mem_pinsAt hb e)))
          exact ⟨z1, z2⟩
        refine ⟨m', lt, i + 1, H', (J'.unpinned (pins := [])).weak (by rw [← w4, wipe_length]) (fun j v e => (wipe_some (w4 ▸ e)).1), T.keep _ _ _ t3 fun b hb o e => (pin' b hb o e).1, fun b hb => ?_, w'⟩
        obtain ⟨o, e, _⟩ := T.obj _ _ t3 b hb
        exact (pin' b hb o e).2
      cases b with
      | false => exact over _ _ I5 q5
      | true =>
        refine thnF (g3.run _ s5 σ4 H5 _ I5 q5) fun k1 s6 ⟨y, H6, I6, r6, q6⟩ => ?_
        refine thnF (g4.run _ s6 σ4 H6 _ I6 q6) fun k2 s7 ⟨z, H7, I7, r7, q7⟩ => ?_
        exact hput (X.blk sc Hc scope ce fp) _ _ _ _ _ _ _ _ _ _ _ _ rfl rfl rfl I7 q7 r6 r7 over
  exact codeAny_compStart_dict body (T.self X.A 0 _ _ _ td body)⟩
end
end Ev
end

section
set_option Elab.async false
set_option linter.all false
/-! EvV: {tuple: v for ..}. -/
namespace Ev
open PySem PySem.Spec L2
set_option autoImplicit false
def lpDcT (T : Tg) (tt : M Bool) (tk tv : M D) (vs : List Nat) : List D → List (D × D) → Fr → Option (List (D × D) × Fr)
  | [], acc, σ => some (acc, σ)
  | d :: ds, acc, σ => match T.put d σ with
    | some σ1 => (match tt σ1 with
      | some (true, σ2) => (match tk σ2 with
        | some (k, σ3) => if keyOk true k = true then (match tv σ3 with
          | some (x, σ4) => lpDcT T tt tk tv vs ds (dPut acc k x) (hide σ4 vs)
          | none => none) else none
        | none => none)
      | some (false, σ2) => lpDcT T tt tk tv vs ds acc (hide σ2 vs)
      | none => none)
    | none => none
def mDcT (it : MI) (T : Tg) (tt : M Bool) (tk tv : M D) (vs : List Nat) : M S := fun σ => match it σ with
  | some (ds, σ1) => if ds.length ≤ LIM then (match lpDcT T tt tk tv vs ds [] (hide σ1 vs) with
    | some (xs, σ2) => some (.ds false true xs, shown σ2 σ1 vs)
    | none => none) else none
  | none => none

def putT : PutR := fun R y z H Nx => ∃ kvs k b, y = .ref b ∧ H b = some (.tup (k.map kV)) ∧ H R = some (.dT kvs) ∧ kvs.length < sizeLine ∧ Nx (upd H R (.dT (putK kvs k z)))
theorem hputT {X : Cx} (hu : X.A.units < cLine) : ∀ (Y : Cx) (pins : List (Addr × Obj)) (σ : St) (H : Hp) (s : Shared) (R : Addr) (y z : V) (u r : Value) (Nx : Hp → Prop) (Q : Unit → Shared → Prop) (E : Value → Shared → Prop), Y.prog = X.prog → Y.w = X.w → Y.A = X.A → Inv Y pins σ H s → putT R y z H Nx → RelV y u → RelV z r → (∀ s' H', Inv Y pins σ H' s' → Nx H' → Q () s') → wpAny (model Y.prog Y.w) Y.A (dictSet R u r) Q E s := fun Y pins σ H s R y z u r Nx Q E _ _ eA I ⟨kvs, k, b, ey, hb, hR, hz, nx⟩ ry rz q => by
  subst ey
  cases (show u = Value.ref b from ry)
  exact d_addT (by rw [eA]; exact hu) I hR hz hb rz fun s' I' => q s' _ I' nx
theorem keyT_of {d : D} (h : keyOk true d = true) : ∃ ks, d = kT ks := by
  cases d with
  | tup kb m =>
    cases kb with
    | true => cases h
    | false => obtain ⟨ks, e⟩ := isKs_of (show m.all D.isK = true from h); exact ⟨ks, by rw [e]⟩
  | _ => cases h
theorem keyT_rep {K : PySem.W.Frag} {ct : Ct} {F : Hp} {ks : List Key} {v : V} (r : DRep K ct F (kT ks) v) : ∃ b, v = .ref b ∧ F b = some (.tup (ks.map kV)) := by
  obtain ⟨a, vs, e, h, rs⟩ := r
  rw [kDs_rep rs] at h
  exact ⟨a, e, h⟩
section
variable {X : Cx} {ct : Ct} {pos spos : Pos} {elt tg iter : Expr} {ifs : List Expr} {scope : Scope} {own : List (Str × Nat)}
theorem dcT_imp {σV : St} {H : Hp} {Q : VK} {it : MI} {T : Tg} {tt : M Bool} {tk tv : M D} {vs : List Nat} (hT : ∀ i ∈ T.vs, i ∈ vs) (h : rdF X ct (mDcT it T tt tk tv vs) σV H Q) :
    tDcG (.dT []) putT (iRd X ct it) (gRd X.K ct T) (rdT X ct tt) (rdE X ct tk) (rdE X ct tv) vs σV H Q := by
  obtain ⟨F, σ, w, s, σ', e, q⟩ := h
  unfold mDcT at e
  split at e
  · rename_i ds σ1 h1
    split at e
    · rename_i hl
      split at e
      · rename_i all σe h2
        cases e
        refine ⟨F, σ, w, ds, σ1, h1, fun J H1 F1 st1 ⟨G, Y, wk, hG, hY⟩ D hD => ?_⟩
        have w1 := st1.w
        have wh : Wd X.K ct F1 H1 (wipe σV vs) (hide σ1 vs) := w1.hide
        have fD := w1.le.none hD
        have nD : ¬ Own (wipe σV vs) (hide σ1 vs) D := fun o => by obtain ⟨_, u, z, _⟩ := wh.own o; rw [hD] at z; cases z
        let Pv : Nat → Hp → Prop := fun i Hi => ∃ Fi σi accD accV, Stp X.K ct F1 H1 (wipe σV vs) (hide σ1 vs) Fi Hi (wipe σV vs) σi ∧ Le F1 Fi ∧ Hi D = some (.dT accV) ∧ Fi D = none ∧ ¬ Own (wipe σV vs) σi D ∧
          GKv X.K ct Fi kT accD accV ∧ accD.length ≤ i ∧ lpDcT T tt tk tv vs (ds.drop i) accD σi = some (all, σe)
        refine ⟨fun i m Hi => m = ds.length - i ∧ i ≤ ds.length ∧ Pv i Hi, ⟨ds.length, by simp, Nat.zero_le _, F1, hide σ1 vs, [], [], Stp.lay wh hD, Le.refl F1, upd_same, fD, nD, rfl, Nat.le_refl 0, h2⟩, ?_⟩
        rintro i m Hi ⟨rfl, hi', Fi, σi, accD, accV, sti, lei, hDi, fDi, nDi, ra, la, hp⟩
        by_cases hlt : i < ds.length
        · refine .inr ⟨wk.goes i Hi hlt (hG Hi (lei.trans sti.w.le)), Pv (i + 1), fun H' p' => ⟨ds.length - (i + 1), by omega, rfl, hlt, p'⟩, fun x H' y => ?_⟩
          obtain ⟨F3, d, gr, hd, rd⟩ := hY Fi i Hi x H' lei sti.w.le hlt (wk.yields i Hi x H' hlt (hG Hi (lei.trans sti.w.le)) y)
          rw [drop_at hd] at hp
          have g3 := gr.stp sti.w
          simp only [lpDcT] at hp
          split at hp
          · rename_i σ2 hp2
            refine ⟨F3, σi, d, σ2, g3.w, rd, hp2, fun σV2 st2 c2 => ?_⟩
            have ew : wipe σV2 vs = wipe σV vs := by rw [wipe_chg c2 hT, wipe_wipe]
            refine ⟨ew, ?_⟩
            split at hp
            · rename_i σ3 h3
              refine ⟨F3, σ2, st2.w, _, _, h3, fun H4 F4 st4 => iteT ?_⟩
              split at hp
              · rename_i k σ4 h4
                split at hp
                · rename_i hk'
                  split at hp
                  · rename_i z σ5 h5
                    refine ⟨F4, σ3, st4.w, k, σ4, h4, fun u H5 F5 st5 ru => ⟨F5, σ4, st5.w, z, σ5, h5, fun v H6 F6 st6 rv => ?_⟩⟩
                    obtain ⟨kk, rfl⟩ := keyT_of hk'
                    have turn := ((g3.trans (st2.trans st4)).trans st5).trans st6
                    obtain ⟨hD5, fD5, nD5⟩ := turn.apart hDi fDi nDi
                    have tot := (sti.trans turn).forget ew
                    have nD6 : ¬ Own (wipe σV vs) (hide σ5 vs) D := fun o => nD5 (Own.of_hide (vs := vs) (ew ▸ o))
                    have ra' := gkv_T.mp (DTv.mono turn.le _ _ (gkv_T.mpr ra))
                    obtain ⟨b, rfl, hb⟩ := keyT_rep (DRep.mono st6.le _ _ ru)
                    refine ⟨accV, kk, b, rfl, st6.w.le _ _ hb, hD5, ?_, F6, hide σ5 vs, dPut accD (kT kk) z, putK accV kk v, tot.poke hD fD5 nD6 hD5 Nt.dT, lei.trans turn.le, upd_same, fD5, nD6, put_G eqv_keys rv ra', ?_, hp⟩
                    · rw [← len_G ra]
                      have : ds.length ≤ sizeLine := by rw [← LIM_eq]; exact hl
                      omega
                    · have := dPut_len accD (kT kk) z; omega
                  · cases hp
                · cases hp
              · cases hp
            · rename_i σ3 h3
              refine ⟨F3, σ2, st2.w, _, _, h3, fun H4 F4 st4 => iteF ?_⟩
              have turn := g3.trans (st2.trans st4)
              obtain ⟨hD5, fD5, nD5⟩ := turn.apart hDi fDi nDi
              have tot := (sti.trans turn).forget ew
              have nD6 : ¬ Own (wipe σV vs) (hide σ3 vs) D := fun o => nD5 (Own.of_hide (vs := vs) (ew ▸ o))
              exact ⟨F4, hide σ3 vs, accD, accV, tot, lei.trans turn.le, hD5, fD5, nD6, gkv_T.mp (DTv.mono turn.le _ _ (gkv_T.mpr ra)), Nat.le_succ_of_le la, hp⟩
            · cases hp
          · cases hp
        · have ei : i = ds.length := by omega
          subst ei
          refine .inl ⟨wk.stops Hi (hG Hi (lei.trans sti.w.le)), ?_⟩
          rw [List.drop_length] at hp
          simp only [lpDcT] at hp
          cases hp
          have tot := Stp.show w1 sti
          refine q _ Hi Fi (st1.trans tot) ⟨rfl, ⟨D, _, rfl, fDi, hDi, .inr ⟨rfl, _, rfl, gkv_T.mpr ra⟩⟩, fun a ea => ?_⟩
          cases ea
          refine ⟨fun o => ?_, .inl (st1.there D hD)⟩
          obtain ⟨j, t, ej, to, aj⟩ := o
          by_cases hj : j ∈ vs
          · rw [shown_get (by rw [sti.len, hide_len]), if_pos (by simpa using hj)] at ej
            obtain ⟨_, u, z2, _⟩ := w1.own ⟨j, t, ej, to, aj⟩; rw [hD] at z2; cases z2
          · rw [shown_get (by rw [sti.len, hide_len]), if_neg (by simpa using hj)] at ej
            exact nDi ⟨j, t, ej, to, by rw [wipe_out hj]; exact aj⟩
      · cases e
    · cases e
  · cases e
theorem sf_dcT (hu : X.A.units < cLine) {kx vx : Expr} {it : MI} {T : Tg} {tt : M Bool} {tk tv : M D} (hc : X.calm = true) (hN : X.N.Nodup) (hi : SI X ct tg iter it) (ok : BlkOk X.N X.env.scope scope own)
    (hg : ∀ (s : Shared) (H : Hp) (C : Addr) (cl : List (Str × Addr)) (fp : List Addr), SG (X.blk s H scope (compEnvC scope cl C X.env) fp) ct tg T) (ht : ∀ (s : Shared) (H : Hp) (C : Addr) (cl : List (Str × Addr)) (fp : List Addr), STs (X.blk s H scope (compEnvC scope cl C X.env) fp) ct ifs tt)
    (hk : ∀ (s : Shared) (H : Hp) (C : Addr) (cl : List (Str × Addr)) (fp : List Addr), SE (X.blk s H scope (compEnvC scope cl C X.env) fp) ct kx tk)
    (hv : ∀ (s : Shared) (H : Hp) (C : Addr) (cl : List (Str × Addr)) (fp : List Addr), SE (X.blk s H scope (compEnvC scope cl C X.env) fp) ct vx tv) (hT : ∀ i ∈ T.vs, i ∈ own.map (·.2) := by decide) (hs : ∀ x, foldedSetIterable iter X.env x = pure x := by intro _; rfl) :
    SF X ct (.DictComp kx vx [⟨tg, iter, ifs, 0⟩] scope pos) (mDcT it T tt tk tv (own.map (·.2))) := PEimp (pe_dcG (o0 := .dT []) (put := putT) hc hN hi ok (fun h H hb => dt_empty h hb) (hputT hu) hg ht hk hv hs) fun σV H Q h => dcT_imp hT h
end
end Ev
end

section
set_option Elab.async false
set_option linter.all false
/-! EvS: found.setdefault(key, []).append(x), keys tuples. -/
namespace Ev
open PySem PySem.Spec PyProof.Rows L2
set_option autoImplicit false
def rSetT : V → List V → Hp → VK → Prop := fun x vs H Q => ∃ (a b : Addr) (kvs : List (List Key × V)) (k : List Key) (v : V), x = .ref a ∧ vs = [.ref b, v] ∧ H b = some (.tup (k.map kV)) ∧ H a = some (.dT kvs) ∧ kvs.length < sizeLine ∧
  (∀ u, valV kvs k = some u → Q u H) ∧ (valV kvs k = none → Q v (upd H a (.dT (putK kvs k v))))
theorem mt_setT {X : Cx} (hu : X.A.units + 1 < cLine) : MtR X "dict.setdefault" rSetT := fun pins s σ H x vs v us Q I rx rv ⟨a, b, kvs, k, d, ex, evs, hb, ha, hz, w1, w2⟩ => by
  subst ex evs
  obtain rfl : v = Value.ref a := rx
  cases rv with
  | cons r1 rv => cases rv with
    | cons r2 rv =>
      cases rv
      cases (show _ = Value.ref b from r1)
      obtain ⟨z, hd, xs, rel, dd⟩ := dt_of I.hok ha
      refine call_setdefault_heap (knd := tupleKind (mixKind X.prog X.w)) (tupleKind_room_in1 hu) (key_of I.hok hb) hd dd (fun p hp => ?_) (fun hn h' dd' hs => ?_) (by rw [← Paired.length rel]; exact z)
      · have rr := rel.val k
        rw [hp] at rr
        cases hv : valV kvs k with
        | none => rw [hv] at rr; exact rr.elim
        | some y => rw [hv] at rr; exact ⟨y, H, I.tok _, rr, w1 y hv⟩
      · have rr := rel.val k
        rw [hn] at rr
        cases hv : valV kvs k with
        | some y => rw [hv] at rr; exact rr.elim
        | none =>
          obtain ⟨q, es, ep, hq, h2, h3, h4, _, h5⟩ := dd'
          have le1 : (putK kvs k d).length ≤ sizeLine := Nat.le_trans (length_putK kvs k d) hz
          refine ⟨d, upd H a (.dT (putK kvs k d)), d_write I (by rw [ha]; trivial) hs ⟨q, hq⟩ ⟨le1, hd, _, (rel.put k hb r2).keeps fun c ys ec => ?_, q, es, ep, hq, h2, h3, h4, h5⟩, r2, w2 hv⟩
          rw [upd_ne (ne_of ec ha (fun z => nomatch z))]; exact ec
/-! ### the lists behind keys -/
def rIdx : List (D × List D) → D → Option Nat
  | [], _ => none
  | q :: r, k => if D.eqv q.1 k = true then some 0 else (rIdx r k).map (· + 1)
def rNew (r : List (D × List D)) (k : D) : List (D × List D) := match rIdx r k with
  | some _ => r
  | none => r ++ [(k, [])]
def uSda (mk me : M D) : MU (List (D × List D)) := fun σ r => match mk σ with
  | some (k, σ1) => if (keyOk true k && decide (r.length < LIM)) = true then (match me σ1 with
    | some (d, σ2) => (match rIdx (rNew r k) k with
      | some i => (match (rNew r k)[i]? with
        | some q => if q.2.length < LIM then some (.nx, σ2, (rNew r k).set i (q.1, q.2 ++ [d])) else none
        | none => none)
      | none => none)
    | none => none) else none
  | none => none
theorem idx_val : ∀ {r : List (D × List D)} {es : List (List Key × V)} {as : List Addr}, r.map (·.1) = es.map (fun q => kT q.1) → es.map (·.2) = as.map V.ref → ∀ x,
    (∀ u, valV es x = some u → ∃ i a, rIdx r (kT x) = some i ∧ as[i]? = some a ∧ u = .ref a) ∧ (valV es x = none → rIdx r (kT x) = none)
  | [], [], _, _, _, x => ⟨(fun u h => by cases h), fun _ => rfl⟩
  | [], _ :: _, _, h, _, _ => by simp at h
  | _ :: _, [], _, h, _, _ => by simp at h
  | q :: r, p :: es, [], _, h, _ => by simp at h
  | q :: r, p :: es, a :: as, h, h2, x => by
    rw [List.map_cons, List.map_cons, List.cons.injEq] at h h2
    obtain ⟨k1, k2⟩ := idx_val h.2 h2.2 x
    have e : D.eqv q.1 (kT x) = decide (p.1 = x) := by rw [h.1]; exact eqv_keys p.1 x
    by_cases hx : p.1 = x
    · have v1 : valV (p :: es) x = some p.2 := by unfold valV; simp [List.find?, hx]
      rw [v1]
      refine ⟨fun u hu => ?_, fun z => by cases z⟩
      cases hu
      exact ⟨0, a, by unfold rIdx; rw [e, if_pos (decide_eq_true hx)], rfl, h2.1⟩
    · have v1 : valV (p :: es) x = valV es x := by unfold valV; simp [List.find?, hx]
      rw [v1]
      have r1 : rIdx (q :: r) (kT x) = (rIdx r (kT x)).map (· + 1) := by rw [rIdx, e, if_neg (by simp [hx])]
      rw [r1]
      refine ⟨fun u hu => ?_, fun z => by rw [k2 z]; rfl⟩
      obtain ⟨i, b, z1, z2, z3⟩ := k1 u hu
      exact ⟨i + 1, b, by rw [z1]; rfl, z2, z3⟩
theorem putK_new {es : List (List Key × V)} {x : List Key} {v : V} (h : valV es x = none) : putK es x v = es ++ [(x, v)] := by
  unfold putK
  rw [if_neg]
  unfold valV at h
  rw [Option.map_eq_none_iff, List.find?_eq_none] at h
  simp only [List.any_eq_true, not_exists, not_and]
  exact fun q hq => h q hq
theorem rIdx_app {k : D} {l : List D} (hk : D.eqv k k = true) : ∀ {r : List (D × List D)}, rIdx r k = none → rIdx (r ++ [(k, l)]) k = some r.length
  | [], _ => by show (if D.eqv k k = true then some 0 else _) = _; rw [if_pos hk]; rfl
  | q :: r, h => by
    rw [rIdx] at h
    split at h
    · cases h
    · rename_i hq
      rw [List.cons_append, rIdx, if_neg hq, rIdx_app hk (by simpa using h)]; rfl
def IK (K : PySem.W.Frag) (ct : Ct) (F : Hp) (r : List (D × List D)) (L : Pv) : Prop := ∃ p es as vss, L = (p, .dT es) :: rowsL as vss ∧ (L.map (·.1)).Nodup ∧ r.map (·.1) = es.map (fun q => kT q.1) ∧ es.map (·.2) = as.map V.ref ∧ RwOk K ct F (r.map (·.2)) as vss
theorem IK.mono {K : PySem.W.Frag} {ct : Ct} : ∀ F F' r L, Le F F' → IK K ct F r L → IK K ct F' r L := fun F F' r L le ⟨p, es, as, vss, h1, h2, h3, h4, h5⟩ => ⟨p, es, as, vss, h1, h2, h3, h4, h5.mono le⟩
theorem RwOk.put {K : PySem.W.Frag} {ct : Ct} {F : Hp} {r : List (List D)} {as : List Addr} {vss : List (List V)} (h : RwOk K ct F r as vss) {i : Nat} {l : List D} {vs : List V} {d : D} {v : V} (hl : r[i]? = some l) (hv : vss[i]? = some vs) (rl : DReps K ct F l vs) (rv : DRep K ct F d v) :
    RwOk K ct F (r.set i (l ++ [d])) as (vss.set i (vs ++ [v])) := by
  refine ⟨by rw [List.length_set]; exact h.la, by rw [List.length_set, List.length_set]; exact h.lv, fun i' l' e' => ?_⟩
  by_cases hi : i' = i
  · subst hi
    rw [List.getElem?_set_self (List.getElem?_eq_some_iff.mp hl).1] at e'; cases e'
    exact ⟨_, by rw [List.getElem?_set_self (List.getElem?_eq_some_iff.mp hv).1], DReps.append rl (DReps.one rv)⟩
  · rw [List.getElem?_set_ne (Ne.symm hi)] at e'
    obtain ⟨ws, e1, r1⟩ := h.at_ i' l' e'
    exact ⟨ws, by rw [List.getElem?_set_ne (Ne.symm hi)]; exact e1, r1⟩
/-- the entries behind a change of one row -/
theorem rows_put {as : List Addr} {vss : List (List V)} {n : Nat} {a : Addr} {vs : List V} {o : HO} {ws : List V} (nd : as.Nodup) (han : as[n]? = some a) (hv : vss[n]? = some vs) {x : Addr × HO} (hx : x ∈ rowsL as (vss.set n ws)) : (x.1 = a ∧ x.2 = .lst ws) ∨ (x ∈ rowsL as vss ∧ x.1 ≠ a) := by
  obtain ⟨xa, xo⟩ := x
  obtain ⟨k', us, e1, e2, e3⟩ := rows_of hx
  by_cases hk' : k' = n
  · subst hk'
    rw [han] at e1; cases e1
    rw [List.getElem?_set_self (List.getElem?_eq_some_iff.mp hv).1] at e2; cases e2
    exact .inl ⟨rfl, e3⟩
  · rw [List.getElem?_set_ne (Ne.symm hk')] at e2
    refine .inr ⟨by have := rows_get e1 e2; rw [← e3] at this; exact this, fun z => hk' ?_⟩
    have z : xa = a := z
    subst z
    exact (List.getElem?_inj (List.getElem?_eq_some_iff.mp e1).1 nd).mp (e1.trans han.symm)
end Ev
end

section
set_option Elab.async false
set_option linter.all false
/-! EvSb: the statement found.setdefault(key, []).append(x). -/
namespace Ev
open PySem PySem.Spec PyProof.Rows L2
set_option autoImplicit false
section
variable {K : PySem.W.Frag} {ct : Ct} {F0 H0 F H F' H' : Hp} {σV0 σV σV' : L2.St} {σ0 σ σ' : Fr} {R : Type} {I : Hp → R → Pv → Prop} {L : Pv} {r : R} {j : Nat}
/-- one is changed, others that stand are taken in -/
theorem UW.poke2 (u : UW K ct I j F0 H0 σV0 σ0 F H σV σ r L) {a : Addr} {o o' : HO} {r' : R} {L' : Pv} (ha : (a, o) ∈ L) (hn : Nt o')
    (hL : ∀ p ∈ L', (p.1 = a ∧ p.2 = o') ∨ (p ∈ L ∧ p.1 ≠ a) ∨ (p.1 ≠ a ∧ H p.1 = some p.2 ∧ F p.1 = none ∧ (¬ Own σV σ p.1) ∧ Nt p.2 ∧ H0 p.1 = none)) (hI : I F r' L') (hh : L'.head?.map (·.1) = L.head?.map (·.1)) :
    UW K ct I j F0 H0 σV0 σ0 F (upd H a o') σV σ r' L' := by
  obtain ⟨h1, h2, h3, h4⟩ := u.pv _ ha
  refine ⟨u.st.poke (u.nw _ ha) h2 h3 h1 h4, fun p hp => ?_, fun p hp => ?_, hI, u.nb, ?_⟩
  · rcases hL p hp with ⟨e1, e2⟩ | ⟨hp, ne⟩ | ⟨ne, k1, k2, k3, k4, _⟩
    · rw [e1, e2]; exact ⟨upd_same, h2, h3, hn⟩
    · obtain ⟨k1, k2, k3, k4⟩ := u.pv p hp
      exact ⟨by rw [upd_ne ne]; exact k1, k2, k3, k4⟩
    · exact ⟨by rw [upd_ne ne]; exact k1, k2, k3, k4⟩
  · rcases hL p hp with ⟨e1, e2⟩ | ⟨hp, ne⟩ | ⟨_, _, _, _, _, k5⟩
    · rw [e1]; exact u.nw _ ha
    · exact u.nw p hp
    · exact k5
  · rw [hh]; exact u.rt
end
section
variable {X : Cx} {ct : Ct} {j : Nat} {pos spos apos : Pos} {rc e : Expr} {mk me : M D}
theorem us_sda (hin : PE X rc (tBM X.K "dict" rSetT (tVar j) (tCons (rdE X ct mk) (tCons tE0 tNil)))) (h : SE X ct e me)
    (hbase : attributeBase rc "append" X.env (eval rc X.env) = eval rc X.env := by rfl)
    (hfew : ((backTo pos (starEach [e] X.env)).all (fun x => !x.1) && (backToKw pos (keywordEach [] X.env)).all (fun x => x.1.isSome) && decide ([e].length + ([] : List Keyword).length + (if ([] : List Keyword).isEmpty then 0 else 1) < 30)) = true := by rfl)
    (hline : (apos.endLine == pos.line) = true := by rfl) (hs : starEach [e] X.env = (false, eval e X.env) :: starEach [] X.env := by rfl) (hplain : (backTo pos (starEach [] X.env)).any (·.1) = false := by rfl)
    (hsw : swapsWith (.Call (.Attribute rc "append" apos) [e] [] pos) none spos.line X.env = pure false := by rfl) :
    US X ct (IK X.K ct) j (.Expr (.Call (.Attribute rc "append" apos) [e] [] pos) spos) (uSda mk me) :=
  PSimp (ps_expr (pe_bm F.plainAttrs_list F.slot_list_append F.type_list_append mt_append hin (pa_cons h pa_nil hs) hbase hfew hline hs hplain) hsw) fun D σV H ⟨F0, H0, σV0, σ0, F, σ, r, L, u, f, σ', r', e, q⟩ => by
  unfold uSda at e
  split at e
  case h_2 => cases e
  rename_i k σ1 h1
  split at e
  case isFalse => cases e
  rename_i hk'
  rw [Bool.and_eq_true, decide_eq_true_eq] at hk'
  split at e
  case h_2 => cases e
  rename_i d σ2 h2
  split at e
  case h_2 => cases e
  rename_i i hi
  split at e
  case h_2 => cases e
  rename_i rq hq
  split at e
  case isFalse => cases e
  rename_i hlen
  cases e
  obtain ⟨p, es, as, vss, hL, nd, hk1, hk2, rw_⟩ := u.iv
  obtain ⟨_, a0, ev, hh⟩ := u.rt
  rw [hL] at hh
  obtain rfl : p = a0 := by simpa using hh
  have hp : H p = some (.dT es) := (u.pv (p, _) (by rw [hL]; simp)).1
  have hes : es.length = r.length := by have := congrArg List.length hk1; simpa using this.symm
  refine ⟨.ref p, ev, .inr (.inr (.inl ⟨rfl, .inr ⟨es, hp⟩⟩)), F, σ, u.st.w, k, σ1, h1, fun y H1 F1 st1 ry l hl1 => ?_⟩
  obtain ⟨ks, rfl⟩ := keyT_of hk'.1
  obtain ⟨b, rfl, hb⟩ := keyT_rep ry
  have u1 := u.step IK.mono st1
  have u2 := u1.lay (a := l) (o' := .lst []) (r' := r) (L' := L) hl1 (by first | exact Nt.lst | exact Nt.dK | exact Nt.dT | exact Nt.ins | exact Nt.own) (fun x hx => .inr hx) u1.iv rfl
  have hp2 := (u2.pv (p, .dT es) (by rw [hL]; simp)).1
  -- from where the list is known
  have fin : ∀ {Hc : Hp} {es1 : List (List Key × V)} {as1 : List Addr} {vss1 : List (List V)} {a : Addr}, UW X.K ct (IK X.K ct) j F0 H0 σV0 σ0 F1 Hc σV σ1 (rNew r (kT ks)) ((p, .dT es1) :: rowsL as1 vss1) → (((p, HO.dT es1) :: rowsL as1 vss1).map (·.1)).Nodup →
      (rNew r (kT ks)).map (·.1) = es1.map (fun q => kT q.1) → es1.map (·.2) = as1.map V.ref → RwOk X.K ct F1 ((rNew r (kT ks)).map (·.2)) as1 vss1 → as1[i]? = some a →
      tyV X.K "list" (.ref a) Hc ∧ tCons (rdE X ct me) tNil σV Hc fun xs H3 => rAppend (.ref a) xs H3 fun _ H4 => D.nx σV H4 := fun {Hc es1 as1 vss1 a} u3 nd3 e1 e2 rw3 han => by
    have hq2 : ((rNew r (kT ks)).map (·.2))[i]? = some rq.2 := by rw [List.getElem?_map, hq]; rfl
    obtain ⟨vs, hv, rl⟩ := rw3.at_ i _ hq2
    have hmem : (a, HO.lst vs) ∈ (p, HO.dT es1) :: rowsL as1 vss1 := List.mem_cons_of_mem _ (rows_get han hv)
    refine ⟨.inl ⟨rfl, vs, SqL.of (u3.pv _ hmem).1⟩, F1, σ1, u3.st.w, d, _, h2, fun v H2 F2 st2 rv => ?_⟩
    have u4 := u3.step IK.mono st2
    refine ⟨a, vs, v, rfl, rfl, (u4.pv _ hmem).1, by rw [← rl.length, ← LIM_eq]; exact hlen, ?_⟩
    have nd4 := nd3
    have hvl : vss1.length = as1.length := by rw [rw3.lv, rw3.la]
    rw [List.map_cons, rows_keys hvl, List.nodup_cons] at nd4
    have pa : p ≠ a := fun z => nd4.1 (by rw [show p = a from z]; exact List.mem_of_getElem? han)
    have rw5 := (rw3.mono st2.le).put hq2 hv (DReps.mono st2.le _ _ rl) rv
    have hset : ((rNew r (kT ks)).set i (rq.1, rq.2 ++ [d])).map (·.2) = ((rNew r (kT ks)).map (·.2)).set i (rq.2 ++ [d]) := by rw [List.map_set]
    have hset1 : ((rNew r (kT ks)).set i (rq.1, rq.2 ++ [d])).map (·.1) = (rNew r (kT ks)).map (·.1) := by
      rw [List.map_set]
      refine List.ext_getElem? fun n => ?_
      by_cases hn : n = i
      · subst hn
        have q1 : ((rNew r (kT ks)).map (·.1))[n]? = some rq.1 := by rw [List.getElem?_map, hq]; rfl
        rw [List.getElem?_set_self (List.getElem?_eq_some_iff.mp q1).1, q1]
      · rw [List.getElem?_set_ne (Ne.symm hn)]
    refine q .non σV _ F2 ((p, .dT es1) :: rowsL as1 (vss1.set i (vs ++ [v]))) (u4.poke (o' := .lst (vs ++ [v])) hmem (by first | exact Nt.lst | exact Nt.dK | exact Nt.dT | exact Nt.ins | exact Nt.own) (fun x hx => ?_) ⟨p, es1, as1, _, rfl, ?_, by rw [hset1]; exact e1, e2, by rw [hset]; exact rw5⟩ rfl) (st1.le.trans st2.le) rfl
    · rcases List.mem_cons.mp hx with rfl | hx
      · exact .inr ⟨by simp, pa⟩
      · rcases rows_put (o := .lst vs) nd4.2 han hv hx with z | ⟨z1, z2⟩
        · exact .inl z
        · exact .inr ⟨List.mem_cons_of_mem _ z1, z2⟩
    · rw [List.map_cons, rows_keys (by rw [List.length_set, hvl])]
      rw [List.map_cons, rows_keys hvl] at nd3
      exact nd3
  obtain ⟨f1, f2⟩ := idx_val hk1 hk2 ks
  refine ⟨p, b, es, ks, .ref l, rfl, rfl, u2.st.w.le _ _ hb, hp2, by rw [hes, ← LIM_eq]; exact hk'.2, fun uu huu => ?_, fun hno => ?_⟩
  · obtain ⟨i', a, z1, z2, rfl⟩ := f1 uu huu
    have hr : rNew r (kT ks) = r := by unfold rNew; rw [z1]
    rw [hr, z1] at hi
    cases hi
    refine fin (a := a) (es1 := es) (as1 := as) (vss1 := vss) ?_ ?_ ?_ hk2 ?_ z2
    · rw [hr, ← hL]; exact u2
    · rw [← hL]; exact nd
    · rw [hr]; exact hk1
    · rw [hr]; exact rw_.mono st1.le
  · have z0 := f2 hno
    have hr : rNew r (kT ks) = r ++ [(kT ks, [])] := by unfold rNew; rw [z0]
    have hi' := hi
    rw [hr, rIdx_app (by rw [eqv_keys]; simp) z0] at hi'
    cases hi'
    rw [putK_new hno]
    have nl : ∀ x ∈ L, x.1 ≠ l := fun x hx z => by
      have := (u1.pv x hx).1
      rw [z, hl1] at this; cases this
    have fl : F1 l = none := st1.w.le.none hl1
    have nol : ¬ Own σV σ1 l := fun o => by obtain ⟨_, x, z, _⟩ := st1.w.own o; rw [hl1] at z; cases z
    have hvl : vss.length = as.length := by rw [rw_.lv, rw_.la]
    have hra : as.length = r.length := by rw [rw_.la]; simp
    have rws : rowsL (as ++ [l]) (vss ++ [[]]) = rowsL as vss ++ [(l, .lst [])] := by
      unfold rowsL
      rw [List.map_append, List.zip_append (by simp [hvl])]; rfl
    have nd5 : (((p, HO.dT (es ++ [(ks, V.ref l)])) :: rowsL (as ++ [l]) (vss ++ [[]])).map (·.1)).Nodup := by
      rw [List.map_cons, rows_keys (by simp [hvl])]
      rw [hL, List.map_cons, rows_keys hvl, List.nodup_cons] at nd
      have lp : l ≠ p := fun z => nl (p, .dT es) (by rw [hL]; simp) z.symm
      have la : l ∉ as := fun z => by
        obtain ⟨n, hn⟩ := List.mem_iff_getElem?.mp z
        have hn2 : n < vss.length := by rw [hvl]; exact (List.getElem?_eq_some_iff.mp hn).1
        exact nl (l, .lst vss[n]) (by rw [hL]; exact List.mem_cons_of_mem _ (rows_get hn (List.getElem?_eq_getElem hn2))) rfl
      rw [List.nodup_cons, List.nodup_append]
      refine ⟨fun z => ?_, nd.2, by simp, fun x hx y hy => ?_⟩
      · rcases List.mem_append.mp z with z | z
        · exact nd.1 z
        · exact lp (show p = l by simpa using z).symm
      · obtain rfl : y = l := by simpa using hy
        exact fun z => la (z ▸ hx)
    have k1 : (rNew r (kT ks)).map (·.1) = (es ++ [(ks, V.ref l)]).map (fun q => kT q.1) := by rw [hr, List.map_append, List.map_append, hk1]; rfl
    have k2 : (es ++ [(ks, V.ref l)]).map (·.2) = (as ++ [l]).map V.ref := by rw [List.map_append, List.map_append, hk2]; rfl
    have k3 : RwOk X.K ct F1 ((rNew r (kT ks)).map (·.2)) (as ++ [l]) (vss ++ [[]]) := by
      have r1 := rw_.mono st1.le
      have e0 : (r.map (·.2)).length = r.length := by simp
      rw [hr, List.map_append]
      refine ⟨by simp [hra], by simp [hvl, hra], fun n m hm => ?_⟩
      rw [List.getElem?_append] at hm
      split at hm
      · rename_i hlt
        obtain ⟨ws, w1, w2⟩ := r1.at_ n m hm
        exact ⟨ws, by rw [List.getElem?_append_left (List.getElem?_eq_some_iff.mp w1).1]; exact w1, w2⟩
      · rename_i hge
        have : n - (r.map (·.2)).length = 0 := by
          cases hn : n - (r.map (·.2)).length with
          | zero => rfl
          | succ n' => rw [hn] at hm; simp at hm
        rw [this] at hm
        obtain rfl : [] = m := by simpa using hm
        have hn : n = vss.length := by rw [rw_.lv]; omega
        exact ⟨[], by rw [hn]; simp, rfl⟩
    refine fin (a := l) ?_ nd5 k1 k2 k3 (by rw [← hra]; simp)
    refine u2.poke2 (a := p) (o := .dT es) (by rw [hL]; simp) (by first | exact Nt.lst | exact Nt.dK | exact Nt.dT | exact Nt.ins | exact Nt.own) (fun x hx => ?_) ⟨p, _, _, _, rfl, nd5, k1, k2, k3⟩ (by rw [hL]; rfl)
    rcases List.mem_cons.mp hx with rfl | hx
    · exact .inl ⟨rfl, rfl⟩
    rw [rws] at hx
    rcases List.mem_append.mp hx with hx | hx
    · refine .inr (.inl ⟨by rw [hL]; exact List.mem_cons_of_mem _ hx, fun z => ?_⟩)
      rw [hL, List.map_cons, List.nodup_cons] at nd
      exact nd.1 (List.mem_map.mpr ⟨x, hx, z⟩)
    · obtain rfl : x = (l, .lst []) := by simpa using hx
      exact .inr (.inr ⟨fun z => nl (p, .dT es) (by rw [hL]; simp) z.symm, upd_same, fl, nol, (by first | exact Nt.lst | exact Nt.dK | exact Nt.dT | exact Nt.ins | exact Nt.own), u1.st.there l hl1⟩)
end
end Ev
end

section
set_option Elab.async false
set_option linter.all false
/-! EvSc: a local dict of own lists: begun, told. -/
namespace Ev
open PySem PySem.Spec PyProof.Rows L2
set_option autoImplicit false
theorem Nt.frz {o : Obj} {u : HO} : Nt (.frz o u) := ⟨(fun _ z => by cases z), (fun _ z => by cases z), (fun _ z => by cases z)⟩
def mKey (j : Nat) (n : Fr → List (D × List D) → Option (Fl × Fr)) : M Fl := fun σ => if okSet σ j = true then n (σ.set j (some .prv)) [] else none
def xRetK (j : Nat) : Fr → List (D × List D) → Option (Fl × Fr) := fun σ r => match σ[j]? with
  | some (some .prv) => some (.rt (.imm (.dct true (r.map fun q => (q.1, D.lst q.2)))), σ)
  | _ => none
theorem keyed_rep {K : PySem.W.Frag} {ct : Ct} {F : Hp} : ∀ {r : List (D × List D)} {es : List (List Key × V)} {as : List Addr} {vss : List (List V)}, r.map (·.1) = es.map (fun q => kT q.1) → es.map (·.2) = as.map V.ref → RwOk K ct F (r.map (·.2)) as vss → (∀ p ∈ rowsL as vss, F p.1 = some p.2) →
    DTv K ct F (r.map fun q => (q.1, D.lst q.2)) es
  | [], [], _, _, _, _, _, _ => rfl
  | [], _ :: _, _, _, h, _, _, _ => by simp at h
  | _ :: _, [], _, _, h, _, _, _ => by simp at h
  | q :: r, p :: es, [], _, _, h, _, _ => by simp at h
  | q :: r, p :: es, a :: as, vss, h, h2, w, hf => by
    rw [List.map_cons, List.map_cons, List.cons.injEq] at h h2
    obtain ⟨vs, e, rr⟩ := w.at_ 0 q.2 rfl
    cases vss with
    | nil => simp at e
    | cons ws vss =>
      obtain rfl : ws = vs := by simpa using e
      refine ⟨p.1, p.2, es, rfl, h.1, ⟨a, ws, h2.1, hf (a, .lst ws) (by simp [rowsL]), rr⟩, ?_⟩
      refine keyed_rep (r := r) (as := as) (vss := vss) h.2 h2.2 ⟨by have := w.la; simpa using this, by have := w.lv; simpa using this, fun i l' e' => ?_⟩ fun x hx => hf x (by simp only [rowsL, List.map_cons, List.zip_cons_cons, List.mem_cons]; exact .inr hx)
      obtain ⟨us, e1, r1⟩ := w.at_ (i + 1) l' (by simpa using e')
      exact ⟨us, by simpa using e1, r1⟩
section
variable {X : Cx} {ct : Ct} {j : Nat} {pos spos apos : Pos} {e : Expr} {rest : List Stmt}
theorem sss_key {y : Str} {n : Fr → List (D × List D) → Option (Fl × Fr)} {py dp : Pos} (hN : X.N.Nodup) (hy : X.N[j]? = some y) (hyl : Loc X.env.scope y) (hr : UXs X ct (IK X.K ct) j rest n)
    (hs : swapsWith (.Dict [] [] dp) (some (.Name y py)) spos.line X.env = pure false := by rfl) (hf : X.fn y = true ∨ X.env.scope.names.lookup y = some .local := by first | exact .inl rfl | exact .inr rfl | assumption) : SSs X ct (.Assign [.Name y py] (.Dict [] [] dp) spos :: rest) (mKey j n) :=
  PSsimp (pss_cons (ps_set hN hy hyl pe_dnewT hs hf) hr) fun D σV H ⟨F, σ, w, f, σ', e, q⟩ p hp => by
  unfold mKey at e
  split at e
  · rename_i ho
    have hv : j < σV.length := Nat.lt_of_lt_of_le (okSet_lt ho) w.ln
    have st := Stp.lay w hp (o := .dT [])
    have no : ¬ Own σV σ p := fun o => by obtain ⟨_, u, z, _⟩ := w.own o; rw [hp] at z; cases z
    refine ⟨F, H, σV, σ, F, σ.set j (some .prv), [], [(p, .dT [])], ⟨st.setP ho, fun x hx => ?_, fun x hx => ?_, ⟨p, [], [], [], rfl, by simp, rfl, rfl, ⟨rfl, rfl, fun i l e => by simp at e⟩⟩, fun s hs' => okSet_io ho s hs', ⟨.prv, by rw [List.getElem?_set_self (okSet_lt ho)], rfl⟩, p, by rw [List.getElem?_set_self hv], rfl⟩, f, σ', e, q⟩
    · obtain rfl : x = (p, .dT []) := by simpa using hx
      exact ⟨upd_same, w.le.none hp, fun o => no (own_setP o), (by first | exact Nt.lst | exact Nt.dK | exact Nt.dT | exact Nt.ins | exact Nt.own | exact Nt.frz)⟩
    · obtain rfl : x = (p, .dT []) := by simpa using hx
      exact hp
  · cases e
theorem uxs_retK (h : PE X e (tVar j)) : UXs X ct (IK X.K ct) j [.Return (some e) pos] (xRetK j) := PSsimp (pss_one (ps_ret (pe_lk h))) fun D σV H ⟨F0, H0, σV0, σ0, F, σ, r, L, u, f, σ', e, q⟩ => by
  unfold xRetK at e
  split at e
  · cases e
    obtain ⟨p, es, as, vss, hL, nd, hk1, hk2, rw_⟩ := u.iv
    obtain ⟨_, a0, ev, hh⟩ := u.rt
    rw [hL] at hh
    obtain rfl : p = a0 := by simpa using hh
    have hmem : (p, HO.dT es) ∈ L := by rw [hL]; simp
    obtain ⟨h1, h2, h3, h4⟩ := u.pv _ hmem
    refine ⟨.ref p, ev, .inr ⟨p, .dT es, h1, True.intro, fun od => ?_⟩⟩
    have st1 := u.st.poke (o := .frz od (.dT es)) (show H0 p = none from u.nw (p, .dT es) hmem) h2 h3 h1 h4
    have nd' := nd
    rw [hL, List.map_cons, List.nodup_cons] at nd'
    have pv1 : PvOk F (upd H p (.frz od (.dT es))) σV σ ((p, .frz od (.dT es)) :: rowsL as vss) := fun x hx => by
      rcases List.mem_cons.mp hx with rfl | hx
      · exact ⟨upd_same, h2, h3, (by first | exact Nt.lst | exact Nt.dK | exact Nt.dT | exact Nt.ins | exact Nt.own | exact Nt.frz)⟩
      · obtain ⟨k1, k2, k3, k4⟩ := u.pv x (by rw [hL]; exact List.mem_cons_of_mem _ hx)
        exact ⟨by rw [upd_ne fun z => nd'.1 (List.mem_map.mpr ⟨x, hx, z⟩)]; exact k1, k2, k3, k4⟩
    obtain ⟨F', st', le, all⟩ := Stp.frzL st1 pv1 (fun x hx => by
      rcases List.mem_cons.mp hx with rfl | hx
      · exact u.nw (p, .dT es) hmem
      · exact u.nw x (by rw [hL]; exact List.mem_cons_of_mem _ hx)) (by rw [hL] at nd; exact nd)
    exact q (.ref p) σV _ F' st' ⟨p, od, .dT es, rfl, all (p, .frz od (.dT es)) (by simp), .inr ⟨rfl, es, rfl, keyed_rep hk1 hk2 (rw_.mono le) fun x hx => all x (by simp [hx])⟩⟩
  · cases e
end
end Ev
end

section
set_option Elab.async false
set_option linter.all false
/-! EvWb: __init__ of the class Web: fields stored, rows filled, frozen. -/
namespace Ev
open PySem PySem.Spec PyProof.Rows L2
set_option autoImplicit false
theorem pss_ex {X : Cx} {l : List Stmt} {α : Type} {t : α → TS} (h : ∀ a, PSs X l (t a)) : PSs X l (fun D σ H => ∃ a, t a D σ H) := ⟨fun pins s σ H D I ⟨a, q⟩ => (h a).run pins s σ H D I q⟩
theorem UW.pokeI {K : PySem.W.Frag} {ct : Ct} {F0 H0 F H : Hp} {σV0 σV : L2.St} {σ0 σ : Fr} {R R' : Type} {I : Hp → R → Pv → Prop} {I' : Hp → R' → Pv → Prop} {L L' : Pv} {r : R} {r' : R'} {j : Nat} (u : UW K ct I j F0 H0 σV0 σ0 F H σV σ r L) {a : Addr} {o o' : HO} (ha : (a, o) ∈ L) (hn : Nt o')
    (hL : ∀ p ∈ L', (p.1 = a ∧ p.2 = o') ∨ (p ∈ L ∧ p.1 ≠ a) ∨ (p.1 ≠ a ∧ H p.1 = some p.2 ∧ F p.1 = none ∧ (¬ Own σV σ p.1) ∧ Nt p.2 ∧ H0 p.1 = none)) (hI : I' F r' L') (hh : L'.head?.map (·.1) = L.head?.map (·.1)) :
    UW K ct I' j F0 H0 σV0 σ0 F (upd H a o') σV σ r' L' := by
  obtain ⟨h1, h2, h3, h4⟩ := u.pv _ ha
  have k := (UW.poke2 (I := fun _ _ _ => True) (r := ()) (r' := ()) (L := L) (L' := L') ⟨u.st, u.pv, u.nw, True.intro, u.nb, u.rt⟩ ha hn hL True.intro hh)
  exact ⟨k.st, k.pv, k.nw, hI, k.nb, k.rt⟩
/-- what ends with the thing at x made: d -/
def rdW (X : Cx) (ct : Ct) {R : Type} (I : Hp → R → Pv → Prop) (x : Addr) (m : Fr → R → Option D) : TS := fun D σV H => ∃ F0 H0 σV0 σ0 F σ r L, UW X.K ct I 0 F0 H0 σV0 σ0 F H σV σ r L ∧ ∃ d, m σ r = some d ∧
  ∀ σV' σ' H' F', Stp X.K ct F0 H0 σV0 σ0 F' H' σV' σ' → DRep X.K ct F' d (.ref x) → D.nx σV' H'
abbrev UWs (X : Cx) (ct : Ct) {R : Type} (I : Hp → R → Pv → Prop) (x : Addr) (st : List Stmt) (m : Fr → R → Option D) : Prop := PSs X st (rdW X ct I x m)
def wSeq {R : Type} (m : MU R) (n : Fr → R → Option D) : Fr → R → Option D := fun σ r => match m σ r with
  | some (.nx, σ', r') => n σ' r'
  | _ => none
section
variable {R : Type} {X : Cx} {ct : Ct} {I : Hp → R → Pv → Prop} {st : Stmt} {rest : List Stmt} {x dx C : Addr} {T : List (Addr × Str)}
theorem uws_cons {m : MU R} {n : Fr → R → Option D} (h : US X ct I 0 st m) (hs : UWs X ct I x rest n) : UWs X ct I x (st :: rest) (wSeq m n) := PSsimp (pss_cons h hs) fun D σV H ⟨F0, H0, σV0, σ0, F, σ, r, L, u, d, e, q⟩ => by
  unfold wSeq at e
  split at e
  · rename_i σ1 r1 h1
    exact ⟨F0, H0, σV0, σ0, F, σ, r, L, u, _, _, _, h1, fun v σV1 H1 F1 L1 u1 le1 _ => ⟨F0, H0, σV0, σ0, F1, σ1, r1, L1, u1, d, e, q⟩⟩
  · cases e
/-! ### the fields -/
def pT : Str := "tops"
def W0 (C x dx : Addr) : Hp → Unit → Pv → Prop := fun _ _ L => L = [(x, .ins C dx []), (dx, .own x)]
def W1 (K : PySem.W.Frag) (ct : Ct) (C x dx : Addr) : Hp → D → Pv → Prop := fun F d L => ∃ v, L = [(x, .ins C dx [("tops", v)]), (dx, .own x)] ∧ DRep K ct F d v
def W2 (K : PySem.W.Frag) (ct : Ct) (C x dx : Addr) (d : D) : Hp → Pv → Addr → Prop := fun F pre p => ∃ v, pre = [(x, .ins C dx [("tops", v), ("lots", .ref p)]), (dx, .own x)] ∧ DRep K ct F d v
def W3 (K : PySem.W.Frag) (ct : Ct) (C x dx : Addr) (d k : D) : Hp → Pv → Addr → Prop := fun F pre p => ∃ v u, pre = [(x, .ins C dx [("tops", v), ("lots", .ref p), ("known", u)]), (dx, .own x)] ∧ DRep K ct F d v ∧ DRep K ct F k u
theorem W0.mono : ∀ F F' r L, Le F F' → W0 C x dx F r L → W0 C x dx F' r L := fun _ _ _ _ _ h => h
theorem W1.mono {K : PySem.W.Frag} : ∀ F F' r L, Le F F' → W1 K ct C x dx F r L → W1 K ct C x dx F' r L := fun _ _ _ _ le ⟨v, h, r⟩ => ⟨v, h, r.mono le⟩
theorem W2.mono {K : PySem.W.Frag} {d : D} : ∀ F F' pre p, Le F F' → W2 K ct C x dx d F pre p → W2 K ct C x dx d F' pre p := fun _ _ _ _ le ⟨v, h, r⟩ => ⟨v, h, r.mono le⟩
theorem W3.mono {K : PySem.W.Frag} {d k : D} : ∀ F F' pre p, Le F F' → W3 K ct C x dx d k F pre p → W3 K ct C x dx d k F' pre p := fun _ _ _ _ le ⟨v, u, h, r, r2⟩ => ⟨v, u, h, r.mono le, r2.mono le⟩
theorem tl : ¬ (("tops" : Str) = "lots") := by decide +kernel
theorem tk : ¬ (("tops" : Str) = "known") := by decide +kernel
theorem lk : ¬ (("lots" : Str) = "known") := by decide +kernel
theorem put_l (v u : V) : putF "lots" u [("tops", v)] = [(("tops" : Str), v), ("lots", u)] := by
  show (if ("tops" : Str) = "lots" then (("tops" : Str), u) :: [] else (("tops" : Str), v) :: putF "lots" u []) = _
  rw [if_neg tl]; rfl
theorem put_k (v u w : V) : putF "known" w [("tops", v), ("lots", u)] = [(("tops" : Str), v), ("lots", u), ("known", w)] := by
  show (if ("tops" : Str) = "known" then (("tops" : Str), w) :: [("lots", u)] else (("tops" : Str), v) :: (if ("lots" : Str) = "known" then (("lots" : Str), w) :: [] else (("lots" : Str), u) :: putF "known" w [])) = _
  rw [if_neg tk, if_neg lk]; rfl
theorem look_l (v u : V) : ([(("tops" : Str), v), (("lots" : Str), u)] : List (Str × V)).lookup ("lots" : Str) = some u := by
  rw [← put_l, lookup_putF, if_pos rfl]
variable {o e : Expr} {p1 pos : Pos}
/-- self.tops = e -/
theorem uws_tops {m : M D} {n : D → Fr → Option D} (hC : Cls X.K C) (hno : NoAttr X.K C "tops") (ho : PE X o (tVar 0)) (he : SE X ct e m) (hxd : dx ≠ x) (hs : UWs X ct (W1 X.K ct C x dx) x rest (fun σ d => n d σ))
    (hsw : swapsWith e (some (.Attribute o "tops" p1)) pos.line X.env = pure false := by rfl) :
    UWs X ct (W0 C x dx) x (.Assign [.Attribute o "tops" p1] e pos :: rest) (fun σ _ => match m σ with
      | some (d, σ') => n d σ'
      | none => none) := PSsimp (pss_cons (ps_fld ho he hsw) hs) fun D σV H ⟨F0, H0, σV0, σ0, F, σ, r, L, u, d, e, q⟩ => by
  have e : (match m σ with
      | some (d, σ') => n d σ'
      | none => none) = some d := e
  split at e
  case h_2 => cases e
  rename_i d1 σ1 h1
  refine ⟨F, σ, u.st.w, d1, σ1, h1, fun v H1 F1 st1 rv => ?_⟩
  have u1 := u.step W0.mono st1
  have hL : L = [(x, .ins C dx []), (dx, .own x)] := u1.iv
  subst hL
  obtain ⟨_, a, ev, ha⟩ := u1.rt
  cases ha
  refine ⟨.ref x, ev, x, C, dx, [], rfl, (u1.pv (x, _) (by simp)).1, hC, hno, by decide, ?_⟩
  refine ⟨F0, H0, σV0, σ0, F1, σ1, d1, [(x, .ins C dx [("tops", v)]), (dx, .own x)], u1.pokeI (a := x) (o := .ins C dx []) (by simp) (by first | exact Nt.lst | exact Nt.dK | exact Nt.dT | exact Nt.ins | exact Nt.own) (fun y hy => ?_) ⟨v, rfl, rv⟩ rfl, d, e, q⟩
  rcases List.mem_cons.mp hy with rfl | hy
  · exact .inl ⟨rfl, rfl⟩
  · obtain rfl : y = (dx, .own x) := by simpa using hy
    exact .inr (.inl ⟨by simp, hxd⟩)
/-- self.known = e, the rows below -/
theorem uws_known {m : M D} {n : D → Fr → List (List D) → Option D} {d0 : D} (hC : Cls X.K C) (hno : NoAttr X.K C "known") (ho : PE X o (tVar 0)) (he : SE X ct e m) (hs : ∀ k, UWs X ct (IR X.K ct (W3 X.K ct C x dx d0 k)) x rest (n k))
    (hsw : swapsWith e (some (.Attribute o "known" p1)) pos.line X.env = pure false := by rfl) :
    UWs X ct (IR X.K ct (W2 X.K ct C x dx d0)) x (.Assign [.Attribute o "known" p1] e pos :: rest) (fun σ r => match m σ with
      | some (d, σ') => n d σ' r
      | none => none) := PSsimp (pss_cons (ps_fld ho he hsw) (pss_ex hs)) fun D σV H ⟨F0, H0, σV0, σ0, F, σ, r, L, u, d, e, q⟩ => by
  have e : (match m σ with
      | some (d, σ') => n d σ' r
      | none => none) = some d := e
  split at e
  case h_2 => cases e
  rename_i d1 σ1 h1
  refine ⟨F, σ, u.st.w, d1, σ1, h1, fun v H1 F1 st1 rv => ?_⟩
  have u1 := u.step (IR.mono W2.mono) st1
  obtain ⟨pre, p, as, vss, ⟨w, hpre, rw0⟩, hL, nd, rws⟩ := u1.iv
  subst hpre
  rw [List.cons_append, List.cons_append, List.nil_append] at hL
  obtain ⟨_, a, ev, ha⟩ := u1.rt
  rw [hL] at ha
  cases ha
  refine ⟨.ref x, ev, x, C, dx, _, rfl, (u1.pv (x, .ins C dx [("tops", w), ("lots", .ref p)]) (by rw [hL]; simp)).1, hC, hno, (by show 2 < 1000; decide), ?_⟩
  rw [put_k]
  have nd' := nd
  rw [hL, List.map_cons, List.nodup_cons] at nd'
  refine ⟨d1, F0, H0, σV0, σ0, F1, σ1, r, _, u1.pokeI (a := x) (o := .ins C dx [("tops", w), ("lots", .ref p)]) (o' := .ins C dx [("tops", w), ("lots", .ref p), ("known", v)]) (L' := (x, .ins C dx [("tops", w), ("lots", .ref p), ("known", v)]) :: (dx, .own x) :: (p, .lst (as.map V.ref)) :: rowsL as vss) (by rw [hL]; simp) (by first | exact Nt.lst | exact Nt.dK | exact Nt.dT | exact Nt.ins | exact Nt.own) (fun y hy => ?_) ⟨[(x, .ins C dx [("tops", w), ("lots", .ref p), ("known", v)]), (dx, .own x)], p, as, vss, ⟨w, v, rfl, rw0, rv⟩, rfl, ?_, rws⟩ (by rw [hL]; rfl), d, e, q⟩
  · rcases List.mem_cons.mp hy with rfl | hy
    · exact .inl ⟨rfl, rfl⟩
    · exact .inr (.inl ⟨by rw [hL]; exact List.mem_cons_of_mem _ hy, fun z => nd'.1 (List.mem_map.mpr ⟨y, hy, z⟩)⟩)
  · rw [hL] at nd; exact nd
/-- all frozen; then what looks at the thing -/
def wFz (d k : D) (m : M Fl) : Fr → List (List D) → Option D := fun σ r => match m (σ.set 0 (some (.imm (.ins 0 [d, .lst (r.map D.lst), k])))) with
  | some (.nx, _) => some (.ins 0 [d, .lst (r.map D.lst), k])
  | _ => none
theorem uws_fz {m : M Fl} {d0 k : D} (h : SSs X ct rest m) (hct : ct.f 0 = (C, (["tops", "lots", "known"] : List Str))) : UWs X ct (IR X.K ct (W3 X.K ct C x dx d0 k)) x rest (wFz d0 k m) := PSsimp h fun D σV H ⟨F0, H0, σV0, σ0, F, σ, r, L, u, d, e, q⟩ => by
  unfold wFz at e
  split at e
  case h_2 => cases e
  rename_i σ1 h1
  cases e
  obtain ⟨pre, p, as, vss, ⟨w, kv, hpre, rw0, rk⟩, hL, nd, rws⟩ := u.iv
  subst hpre
  rw [List.cons_append, List.cons_append, List.nil_append] at hL
  obtain ⟨⟨s0, es, _⟩, a, ev, ha⟩ := u.rt
  rw [hL] at ha
  cases ha
  obtain ⟨F', st', le, all⟩ := Stp.frzL u.st u.pv u.nw nd
  rw [hL] at all
  have rp : DRep X.K ct F' (.ins 0 [d0, .lst (r.map Ev.D.lst), k]) (.ref x) := by
    refine ⟨x, dx, [("tops", w), ("lots", .ref p), ("known", kv)], rfl, ?_, all (dx, .own x) (by simp), ?_, ?_⟩
    · rw [hct]; exact all (x, .ins C dx [("tops", w), ("lots", .ref p), ("known", kv)]) (by simp)
    · rw [hct]; rfl
    · exact ⟨w, _, rfl, rw0.mono le, .ref p, _, rfl, ⟨p, _, rfl, all (p, .lst (as.map V.ref)) (by simp), rows_reps (rws.mono le) fun y hy => all y (by simp [hy])⟩, kv, [], rfl, rk.mono le, rfl⟩
  have st2 := st'.unP (d := .ins 0 [d0, .lst (r.map Ev.D.lst), k]) u.nb es ev rp
  refine ⟨F', _, st2.w, _, _, h1, fun v σV2 H2 F2 st3 rr => q σV2 σ1 H2 F2 (st2.trans st3) (rp.mono st3.le)⟩
/-- self.lots = [[] for ..] -/
theorem uws_lots {it : MI} {T : Tg} {n : D → Fr → List (List D) → Option D} {tg iter : Expr} {scope : Scope} {own : List (Str × Nat)} {lpos cpos : Pos} (hC : Cls X.K C) (hno : NoAttr X.K C "lots") (ho : PE X o (tVar 0)) (hc : X.calm = true) (hN : X.N.Nodup) (hi : SI X ct tg iter it) (ok : BlkOk X.N X.env.scope scope own)
    (hg : ∀ (s : Shared) (H : Hp) (C : Addr) (cl : List (Str × Addr)) (fp : List Addr), SG (X.blk s H scope (compEnvC scope cl C X.env) fp) ct tg T) (hs : ∀ d, UWs X ct (IR X.K ct (W2 X.K ct C x dx d)) x rest (n d)) (hxd : dx ≠ x)
    (hT : ∀ i ∈ T.vs, i ∈ own.map (·.2) := by decide) (hf : ∀ x, foldedSetIterable iter X.env x = pure x := by intro _; rfl)
    (hsw : swapsWith (.ListComp (.List [] lpos) [⟨tg, iter, [], 0⟩] scope cpos) (some (.Attribute o "lots" p1)) pos.line X.env = pure false := by rfl) :
    UWs X ct (W1 X.K ct C x dx) x (.Assign [.Attribute o "lots" p1] (.ListComp (.List [] lpos) [⟨tg, iter, [], 0⟩] scope cpos) pos :: rest) (fun σ d => match mLc it T mYes (mC .non) (own.map (·.2)) σ with
      | some (.ls false xs, σ') => n d σ' (xs.map fun _ => [])
      | _ => none) :=
  PSsimp (pss_cons (ps_fld ho (PEimp (pe_lc (wi := iRd X ct it) (g := gRd X.K ct T) (tt := rdT X ct mYes) (te := tE0) hc hN hi ok hg (fun _ _ _ _ _ => sts_nil (ct := ct)) (fun _ _ _ _ _ => pe_e0) hf) fun σV H Q h => rows_imp hT h) hsw) (pss_ex hs)) fun D σV H ⟨F0, H0, σV0, σ0, F, σ, r, L, u, d, e, q⟩ => by
  have e : (match mLc it T mYes (mC .non) (own.map (·.2)) σ with
      | some (.ls false xs, σ') => n r σ' (xs.map fun _ => [])
      | _ => none) = some d := e
  split at e
  case h_2 => cases e
  rename_i xs σ1 h1
  refine ⟨F, σ, u.st.w, xs, σ1, h1, fun R as H1 F1 st1 hl pv nd nw => ?_⟩
  have u1 := u.step W1.mono st1
  obtain ⟨w, hL, rw0⟩ := u1.iv
  subst hL
  obtain ⟨_, a, ev, ha⟩ := u1.rt
  cases ha
  have hx1 := (u1.pv (x, .ins C dx [("tops", w)]) (by simp)).1
  have hd1 := (u1.pv (dx, .own x) (by simp)).1
  refine ⟨.ref x, ev, x, C, dx, _, rfl, hx1, hC, hno, (by show 1 < 1000; decide), ?_⟩
  rw [put_l]
  -- what stood there stood ahead
  have hx0 := (u.pv (x, .ins C dx [("tops", w)]) (by simp)).1
  have hd0 := (u.pv (dx, .own x) (by simp)).1
  have far : ∀ b ∈ R :: as, b ≠ x ∧ b ≠ dx := fun b hb => ⟨(fun z => by have := nw b hb; rw [z, hx0] at this; cases this), (fun z => by have := nw b hb; rw [z, hd0] at this; cases this)⟩
  have all1 : ∀ p ∈ (R, HO.lst (as.map V.ref)) :: rowsL as (as.map fun _ => []), p.1 ∈ R :: as ∧ H1 p.1 = some p.2 ∧ F1 p.1 = none ∧ (¬ Own σV σ1 p.1) ∧ Nt p.2 := fun p hp => by
    rw [rowsL_nil] at hp
    obtain ⟨k1, k2, k3, k4⟩ := pv p hp
    refine ⟨?_, k1, k2, k3, k4⟩
    rcases List.mem_cons.mp hp with rfl | hp
    · simp
    · obtain ⟨a, ha, rfl⟩ := List.mem_map.mp hp; simp [ha]
  refine ⟨r, F0, H0, σV0, σ0, F1, σ1, xs.map fun _ => [], _, u1.pokeI (a := x) (o := .ins C dx [("tops", w)]) (o' := .ins C dx [("tops", w), ("lots", .ref R)]) (L' := (x, .ins C dx [("tops", w), ("lots", .ref R)]) :: (dx, .own x) :: (R, .lst (as.map V.ref)) :: rowsL as (as.map fun _ => [])) (by simp) (by first | exact Nt.lst | exact Nt.dK | exact Nt.dT | exact Nt.ins | exact Nt.own) (fun y hy => ?_) ⟨[(x, .ins C dx [("tops", w), ("lots", .ref R)]), (dx, .own x)], R, as, as.map fun _ => [], ⟨w, rfl, rw0⟩, rfl, ?_, ?_⟩ rfl, d, e, q⟩
  · rcases List.mem_cons.mp hy with rfl | hy
    · exact .inl ⟨rfl, rfl⟩
    rcases List.mem_cons.mp hy with rfl | hy
    · exact .inr (.inl ⟨by simp, hxd⟩)
    · obtain ⟨k0, k1, k2, k3, k4⟩ := all1 y hy
      exact .inr (.inr ⟨(far _ k0).1, k1, k2, k3, k4, u.st.there _ (nw _ k0)⟩)
  · rw [List.map_cons, List.map_cons, List.map_cons, rows_keys (by simp), List.nodup_cons, List.nodup_cons]
    refine ⟨fun z => ?_, fun z => (far _ z).2 rfl, nd⟩
    rcases List.mem_cons.mp z with z | z
    · exact hxd z.symm
    · exact (far _ z).1 rfl
  · refine ⟨by simp [hl], by simp [hl], fun i l e => ?_⟩
    rw [List.getElem?_map] at e
    cases q : xs[i]? with
    | none => rw [q] at e; cases e
    | some y =>
      rw [q] at e; cases e
      have hi : i < as.length := by rw [hl]; exact (List.getElem?_eq_some_iff.mp q).1
      exact ⟨[], by rw [List.getElem?_map, List.getElem?_eq_getElem hi]; rfl, rfl⟩
theorem hrdW {K : PySem.W.Frag} {d : D} (hC : Cls K C) (hno : NoAttr K C "lots") : ∀ (F : Hp) (σV : L2.St) (H : Hp) (pre : Pv) (p : Addr) (Q : VK), W2 K ct C x dx d F pre p → (∀ q ∈ pre, H q.1 = some q.2) → (∃ a, σV[0]? = some (some (.ref a)) ∧ (pre ++ [(p, HO.lst [])]).head?.map (·.1) = some a) → Q (.ref p) H → tFld K (tVar 0) "lots" σV H Q := fun F σV H pre p Q ⟨w, hp, _⟩ hH ⟨a, ev, ha⟩ q => by
  subst hp
  cases ha
  exact ⟨.ref x, ev, x, C, dx, _, .ref p, rfl, hH (x, .ins C dx [("tops", w), ("lots", .ref p)]) (by simp), hC, hno, look_l _ _, q⟩
end
end Ev
end

section
set_option Elab.async false
set_option linter.all false
/-! EvWc: the promise of Web's __init__, Web(..) as a value. -/
namespace Ev
open PySem PySem.Spec PyProof.Rows L2
set_option autoImplicit false
def runW (n : Nat) (m : Fr → Unit → Option D) : List D → Option D
  | [d] => m (some .prv :: some (.imm d) :: List.replicate (n - 2) none) ()
  | _ => none
def spInit (K : PySem.W.Frag) (C : Addr) (T : List (Addr × Str)) (g : List D → Option D) : Sp := fun vs H Q _ => ∃ F H0 x dx v d s, vs = [.ref x, v] ∧ H = upd (upd H0 dx (.own x)) x (.ins C dx []) ∧ H0 x = none ∧ H0 dx = none ∧ dx ≠ x ∧ Le F H0 ∧ (Tbs (ctW C T) H0 ∧ NoT F) ∧ DRep K (ctW C T) F d v ∧ g [d] = some s ∧
  ∀ F' H', Grw0 F H0 F' H' → Tbs (ctW C T) H' → DRep K (ctW C T) F' s (.ref x) → Q .non H'
structure WebOk (P : Program) (w : World) (K : PySem.W.Frag) (mg : Str → Option Value) (base : Heap) (C : Addr) (T : List (Addr × Str)) (k : Nat) (g : List D → Option D) : Prop where
  ex : ∃ (f : Addr) (fd : FuncData), Mk K C f ∧ FnOk P w K mg base CX0 k f fd ["self", "tops"] (spInit K C T g) ∧ mg "Web" = some (.ref C) ∧ Binds K fd ["self", "tops"] []
section
variable {T : List (Addr × Str)} {P : Program} {w : World} {K : PySem.W.Frag} {mg : Str → Option Value} {base : Heap} {x qual : Str} {params : Arguments} {body : List Stmt} {scope : Scope} {f : Addr} {fd : FuncData} {N : List Str} {k : Nat} {C : Addr} {m : Fr → Unit → Option D}
theorem fokW (Fd : FunD K x qual params body scope [] [] f fd) (S : FnScope N ["self", "tops"] scope)
    (hb : ∀ (cdv : Value) (A : Around) (outer : List Env) (s : Shared) (H : Hp) (E : XK) (x dx : Addr), dx ≠ x → Room k (A.deeper (envOfC qual scope s.heap.objs.size f cdv)) → UWs (cxOf CX0 P w K mg base N qual scope f cdv A outer s H E).nox (ctW C T) (W0 C x dx) x body m) :
    FnOk P w K mg base CX0 (k + 1) f fd ["self", "tops"] (spInit K C T (runW N.length m)) := by
  refine Fd.ok S (fun vs H Q E ⟨_, _, _, _, _, _, _, e, _⟩ => by rw [e]; rfl) fun cdv A outer s H vs Q E hr h => ?_
  obtain ⟨F, H0, x, dx, v, d, r, rfl, rfl, hx, hdx, ne, le, tbs, rd, hg, q⟩ := h
  refine ⟨_, PSs.nox (hb cdv A outer s _ E x dx ne hr), ?_⟩
  have hn : 2 ≤ N.length := by have := congrArg List.length S.pre; simp at this; omega
  have hV : L2.start N [.ref x, v] = some (.ref x) :: some v :: List.replicate (N.length - 2) none := rfl
  rw [hV]
  generalize hm : N.length - 2 = n
  have no : ∀ (s0 : Option Ev.S), (s0 = none ∨ s0 = some .prv) → ∀ a, ¬ Own (some (V.ref x) :: some v :: List.replicate n none) (s0 :: some (.imm d) :: List.replicate n none) a := fun s0 h0 a ⟨i, t, e, to, _⟩ => by
    cases i with
    | zero => rcases h0 with rfl | rfl <;> cases e; cases to
    | succ i =>
      cases i with
      | zero => cases e; cases to
      | succ i =>
        rw [List.getElem?_cons_succ, List.getElem?_cons_succ, List.getElem?_replicate] at e
        split at e <;> cases e
  have w0 : Wd K (ctW C T) F H0 (some (V.ref x) :: some v :: List.replicate n none) (none :: some (.imm d) :: List.replicate n none) := by
    refine ⟨le, fun i t e => ?_, fun i j t t' a ei ej so so' ai aj => absurd ⟨i, t, ei, so, ai⟩ (no none (.inl rfl) a), by simp, tbs.1, tbs.2⟩
    cases i with
    | zero => cases e
    | succ i =>
      cases i with
      | zero => cases e; exact ⟨v, rfl, rd⟩
      | succ i =>
        rw [List.getElem?_cons_succ, List.getElem?_cons_succ, List.getElem?_replicate] at e
        split at e <;> cases e
  have st1 := Stp.lay w0 hdx (o := .own x)
  have hx1 : upd H0 dx (.own x) x = none := by rw [upd_ne (Ne.symm ne)]; exact hx
  have st2 := st1.trans (Stp.lay st1.w hx1 (o := .ins C dx []))
  have st3 := st2.setP (i := 0) (a := x) rfl
  have h : m (some .prv :: some (.imm d) :: List.replicate n none) () = some r := by rw [← hm]; exact hg
  refine ⟨F, H0, _, _, F, some .prv :: some (.imm d) :: List.replicate n none, (), [(x, .ins C dx []), (dx, .own x)], ⟨st3, fun p hp => ?_, fun p hp => ?_, rfl, (fun s e => by cases e), ⟨.prv, rfl, rfl⟩, x, rfl, rfl⟩, r, h, fun σV' σ' H' F' st rr => q F' H' (stp_grw st (no none (.inl rfl))) st.w.tb rr⟩
  · rcases List.mem_cons.mp hp with rfl | hp
    · exact ⟨upd_same, le.none hx, no _ (.inr rfl) _, (by first | exact Nt.lst | exact Nt.dK | exact Nt.dT | exact Nt.ins | exact Nt.own)⟩
    · obtain rfl : p = (dx, .own x) := by simpa using hp
      exact ⟨by rw [upd_ne ne, upd_same], le.none hdx, no _ (.inr rfl) _, (by first | exact Nt.lst | exact Nt.dK | exact Nt.dT | exact Nt.ins | exact Nt.own)⟩
  · rcases List.mem_cons.mp hp with rfl | hp
    · exact hx
    · obtain rfl : p = (dx, .own x) := by simpa using hp
      exact hdx
end
section
variable {X : Cx} {C : Addr} {T : List (Addr × Str)} {k j : Nat} {g : List D → Option D} {p pos : Pos} {e : Expr} {ms : List (M D)}
theorem sf_web (W : WebOk X.prog X.w X.K X.mg X.base C T k g) (hr : Room j X.A) (hj : k + 1 ≤ j) (hg : Gl X "Web") (ha : SEs X (ctW C T) [e] ms)
    (he : starEach [e] X.env = (false, eval e X.env) :: starEach [] X.env := by rfl) (hpl : (backTo pos (starEach [] X.env)).any (·.1) = false := by rfl) :
    SF X (ctW C T) (.Call (.Name "Web" p) [e] [] pos) (mCall 1 (fun ds => (g ds).map .imm) ms) := by
  obtain ⟨f, fd, M, Fk, hm, hb⟩ := W.ex
  refine PEimp (pe_make (E := E0) M Fk (hr.mono hj) hg hm hb .nil (fun _ _ _ _ _ _ _ h => h.elim) ha (by decide) he hpl) fun σV H Q ⟨F, σ, w, s, σ', e, q⟩ => ?_
  unfold mCall at e
  split at e
  · rename_i ds σ1 h1
    split at e
    · rename_i hl
      split at e
      · rename_i s' hg'
        cases e
        refine tL_ok (F := F) (H := H) w h1 fun vs H1 F1 st rs x dx hx hdx ne => ?_
        match ds, hl, rs with
        | [d], _, rs =>
          obtain ⟨v, t, rfl, rd, ht⟩ := rs
          obtain rfl : t = [] := ht
          obtain ⟨s0, e0, e1⟩ := Option.map_eq_some_iff.mp hg'
          subst e1
          exact ⟨F1, H1, x, dx, v, d, s0, rfl, rfl, hx, hdx, ne, st.w.le, ⟨st.w.tb, st.w.nt⟩, rd, e0, fun F2 H2 gr tb rr => ⟨rfl, q _ H2 F2 (st.trans (gr.stp st.w tb)) rr⟩⟩
      · cases e
    · cases e
  · cases e
end
end Ev
end

section
set_option Elab.async false
set_option linter.all false
/-! EvWd: the mirrors of Web's stores, by names. -/
namespace Ev
open PySem PySem.Spec PyProof.Rows L2
set_option autoImplicit false
def wTops (m : M D) (n : Fr → D → Option D) : Fr → Unit → Option D := fun σ _ => match m σ with
  | some (d, σ') => n σ' d
  | none => none
def wLots (it : MI) (T : Tg) (vs : List Nat) (n : D → Fr → List (List D) → Option D) : Fr → D → Option D := fun σ d => match mLc it T mYes (mC .non) vs σ with
  | some (.ls false xs, σ') => n d σ' (xs.map fun _ => [])
  | _ => none
def wKnown (m : M D) (n : D → Fr → List (List D) → Option D) : Fr → List (List D) → Option D := fun σ r => match m σ with
  | some (d, σ') => n d σ' r
  | none => none
section
variable {X : Cx} {ct : Ct} {rest : List Stmt} {x dx C : Addr} {T : List (Addr × Str)} {o e : Expr} {p1 pos : Pos}
theorem uws_tops' {m : M D} {n : Fr → D → Option D} (hC : Cls X.K C) (hno : NoAttr X.K C "tops") (ho : PE X o (tVar 0)) (he : SE X ct e m) (hxd : dx ≠ x) (hs : UWs X ct (W1 X.K ct C x dx) x rest n)
    (hsw : swapsWith e (some (.Attribute o "tops" p1)) pos.line X.env = pure false := by rfl) : UWs X ct (W0 C x dx) x (.Assign [.Attribute o "tops" p1] e pos :: rest) (wTops m n) := uws_tops (n := fun d σ => n σ d) hC hno ho he hxd hs hsw
theorem uws_known' {m : M D} {n : D → Fr → List (List D) → Option D} {d0 : D} (hC : Cls X.K C) (hno : NoAttr X.K C "known") (ho : PE X o (tVar 0)) (he : SE X ct e m) (hs : ∀ k, UWs X ct (IR X.K ct (W3 X.K ct C x dx d0 k)) x rest (n k))
    (hsw : swapsWith e (some (.Attribute o "known" p1)) pos.line X.env = pure false := by rfl) : UWs X ct (IR X.K ct (W2 X.K ct C x dx d0)) x (.Assign [.Attribute o "known" p1] e pos :: rest) (wKnown m n) := uws_known hC hno ho he hs hsw
theorem uws_lots' {it : MI} {T : Tg} {n : D → Fr → List (List D) → Option D} {tg iter : Expr} {scope : Scope} {own : List (Str × Nat)} {lpos cpos : Pos} (hC : Cls X.K C) (hno : NoAttr X.K C "lots") (ho : PE X o (tVar 0)) (hc : X.calm = true) (hN : X.N.Nodup) (hi : SI X ct tg iter it) (ok : BlkOk X.N X.env.scope scope own)
    (hg : ∀ (s : Shared) (H : Hp) (C : Addr) (cl : List (Str × Addr)) (fp : List Addr), SG (X.blk s H scope (compEnvC scope cl C X.env) fp) ct tg T) (hs : ∀ d, UWs X ct (IR X.K ct (W2 X.K ct C x dx d)) x rest (n d)) (hxd : dx ≠ x)
    (hT : ∀ i ∈ T.vs, i ∈ own.map (·.2) := by decide) (hf : ∀ x, foldedSetIterable iter X.env x = pure x := by intro _; rfl)
    (hsw : swapsWith (.ListComp (.List [] lpos) [⟨tg, iter, [], 0⟩] scope cpos) (some (.Attribute o "lots" p1)) pos.line X.env = pure false := by rfl) :
    UWs X ct (W1 X.K ct C x dx) x (.Assign [.Attribute o "lots" p1] (.ListComp (.List [] lpos) [⟨tg, iter, [], 0⟩] scope cpos) pos :: rest) (wLots it T (own.map (·.2)) n) := uws_lots hC hno ho hc hN hi ok hg hs hxd hT hf hsw
end
end Ev
end

section
set_option Elab.async false
set_option linter.all false
/-! EvE: own errors raised; a def that lets one out. -/
namespace Ev
open PySem PySem.Spec PyProof.Rows L2
set_option autoImplicit false
section
variable {X : Cx}
/-- X(), X an own exception class without own __init__ -/
theorem pmk_own0 {C : Addr} {bmB : List Value} {B newId initId : String} {x : Str} {p pos : Pos} (F : ExcBaseFacts B newId initId bmB) (q : PySem.W.excIn X.K C bmB newId = true) (gC : X.mg x = some (.ref C))
    (kC : PySem.W.keepIn X.K (.ref C) = true) (r : Raises X (.ref C)) (hg : Gl X x) (hdb : (x == ("__debug__" : Str)) = false := by decide) :
    PMk X (.Call (.Name x p) [] [] pos) (fun _ H Q => Q (.ref C) none H) := by
  intro pins s σ H Q I h
  refine wpAny_Call_Name_kw (ld_glob I hg gC ?_ hdb)
  refine PySem.W.callWith_K0 I.kIn kC ?_
  show wpAny _ _ (call (.ref C) []) _ _ _
  obtain ⟨bm, N, nm, qn, bs, hdct, sn, sub, ab, col, dd, k0, k1, k2, k3, k5, mN, hC, hN, hni, T⟩ := exc_obj I.kIn q
  refine wpAny_call_exc_subT F T hC hN hni (fun h' e hm => ?_) (Nat.zero_le _)
  exact mk_of I hm r h (I.hok.gone hm.new)
end
/-- what is known of an own error class -/
structure ErC (K : PySem.W.Frag) (mg : Str → Option Value) (x : Str) (C : Addr) : Prop where
  m : mg x = some (.ref C)
  k : PySem.W.keepIn K (.ref C) = true
  e : ∃ (B newId initId : String) (bmB : List Value), ExcBaseFacts B newId initId bmB ∧ PySem.W.excIn K C bmB newId = true
  s : PySem.W.subIn K (.ref C) (.type "BaseException") = some true
  t : PySem.W.typeIn K (.ref C) = some (.type "type")
theorem ps_raise0 {X : Cx} {W : WX} {x : Str} {C : Addr} {p pos pos' : Pos} (hc : X.calm = true) (tk : Takes X W) (E : ErC X.K X.mg x C) (hg : Gl X x) (hdb : (x == ("__debug__" : Str)) = false := by decide) :
    PS X (.Raise (some (.Call (.Name x p) [] [] pos)) none pos') (fun _ σ H => W (.ref C) none σ H) := by
  obtain ⟨B, nI, iI, bm, F, q⟩ := E.e
  exact ps_raise hc tk (pmk_own0 F q E.m E.k (raises_own E.s E.t) hg hdb)
/-! ### statements that raise -/
/-- the class that is raised, by its number -/
abbrev MX := Fr → Option (Nat × Fr)
def rdR (X : Cx) (ct : Ct) (cv : Nat → Value) (E : XK) (m : MX) : TS := fun _ σV H => ∃ F σ, Wd X.K ct F H σV σ ∧ ∃ c σ', m σ = some (c, σ') ∧ ∀ H' F' σV', Stp X.K ct F H σV σ F' H' σV' σ' → E (cv c) none H'
abbrev XS (X : Cx) (ct : Ct) (cv : Nat → Value) (E : XK) (st : Stmt) (m : MX) : Prop := PS X st (rdR X ct cv E m)
abbrev XSs (X : Cx) (ct : Ct) (cv : Nat → Value) (E : XK) (st : List Stmt) (m : MX) : Prop := PSs X st (rdR X ct cv E m)
def xRaise (c : Nat) : MX := fun σ => some (c, σ)
def xIf (t : M Bool) (m : MX) : MX := fun σ => match t σ with
  | some (true, σ') => m σ'
  | _ => none
def xThen (m : M Fl) (n : MX) : MX := fun σ => match m σ with
  | some (.nx, σ') => n σ'
  | _ => none
def xCall (n : Nat) (g : List D → Option Nat) (ms : List (M D)) : MX := fun σ => match mL ms σ with
  | some (ds, σ') => if ds.length = n then (match g ds with
    | some c => some (c, σ')
    | none => none) else none
  | none => none
section
variable {X : Cx} {ct : Ct} {cv : Nat → Value} {E : XK} {pos : Pos} {c : Expr} {st : Stmt} {rest body : List Stmt}
theorem xs_raise {x : Str} {C : Addr} {n : Nat} {p pos' : Pos} (hc : X.calm = true) (tk : Takes X fun cls d _ H => E cls d H) (e : ErC X.K X.mg x C) (hn : cv n = .ref C) (hg : Gl X x) (hdb : (x == ("__debug__" : Str)) = false := by decide) :
    XS X ct cv E (.Raise (some (.Call (.Name x p) [] [] pos)) none pos') (xRaise n) := PSimp (ps_raise0 hc tk e hg hdb) fun D σV H ⟨F, σ, w, c, σ', h, q⟩ => by
  cases h
  rw [← hn]
  exact q H F σV (Stp.refl w)
theorem never {l : List Stmt} : PSs X l (fun _ _ _ => False) := ⟨fun _ _ _ _ _ _ h => h.elim⟩
theorem xss_one {m : MX} (h : XS X ct cv E st m) : XSs X ct cv E [st] m := pss_one h
/-- the first one raises -/
theorem xss_first {m : MX} (h : XS X ct cv E st m) : XSs X ct cv E (st :: rest) m := PSsimp (pss_cons h never) fun D σV H ⟨F, σ, w, c, σ', e, q⟩ => ⟨F, σ, w, c, σ', e, q⟩
/-- a later one raises -/
theorem xss_then {m : M Fl} {n : MX} (h : SS X ct st m) (k : XSs X ct cv E rest n) : XSs X ct cv E (st :: rest) (xThen m n) := PSsimp (pss_cons h k) fun D σV H ⟨F, σ, w, c, σ', e, q⟩ => by
  unfold xThen at e
  split at e
  · rename_i σ1 h1
    exact ⟨F, σ, w, _, _, h1, fun v σV1 H1 F1 st1 _ => ⟨F1, σ1, st1.w, _, _, e, fun H2 F2 σV2 st2 => q H2 F2 σV2 (st1.trans st2)⟩⟩
  · cases e
theorem xs_if {t : M Bool} {m : MX} (hc : ST X ct c t) (ha : XSs X ct cv E body m) : XS X ct cv E (.If c body [] pos) (xIf t m) := PSimp (ps_if hc ha never) fun D σV H ⟨F, σ, w, k, σ', e, q⟩ => by
  unfold xIf at e
  split at e
  · rename_i σ1 h1
    refine ⟨F, σ, w, _, _, h1, fun H1 F1 st1 => iteT ?_⟩
    exact ⟨F1, σ1, st1.w, _, _, e, fun H2 F2 σV2 st2 => q H2 F2 σV2 (st1.trans st2)⟩
  · cases e
end
/-! ### a def that raises -/
def spX (K : PySem.W.Frag) (ct : Ct) (cv : Nat → Value) (n : Nat) (g : List D → Option Nat) : Sp := fun vs H _ E => ∃ F ds c, Le F H ∧ (Tbs ct H ∧ NoT F) ∧ ds.length = n ∧ DReps K ct F ds vs ∧ g ds = some c ∧ ∀ F' H', Grw0 F H F' H' → Tbs ct H' → E (cv c) none H'
def runX (n : Nat) (m : MX) (ds : List D) : Option Nat := (m (startF (ds.map .imm) n)).map (·.1)
structure CalX (P : Program) (w : World) (K : PySem.W.Frag) (mg : Str → Option Value) (base : Heap) (ct : Ct) (cv : Nat → Value) (k : Nat) (x : Str) (n : Nat) (g : List D → Option Nat) : Prop where
  ex : ∃ (f : Addr) (fd : FuncData) (ps : List Str), FnOk P w K mg base (L2.CX P w) k f fd ps (spX K ct cv n g) ∧ mg x = some (.ref f) ∧ PySem.W.keepIn K (.ref f) = true ∧ Binds K fd ps []
section
variable {P : Program} {w : World} {K : PySem.W.Frag} {mg : Str → Option Value} {base : Heap} {x : Str} {params : Arguments} {body : List Stmt} {scope : Scope} {f : Addr} {fd : FuncData} {N ps : List Str} {k n : Nat} {ct : Ct} {cv : Nat → Value} {m : MX}
theorem mkX (F : FunD K x x params body scope [] [] f fd) (hm : mg x = some (.ref f)) (S : FnScope N ps scope) (hn : ps.length = n)
    (b : ∀ (kV doc pm : Value) (an : Option Addr) (cdv ct : Value) (us : List Value), us.length = ps.length → bindArgs (PySem.W.fnOf x x params body scope .none kV doc pm an cdv ct) ⟨us, []⟩ = pure (ps.zip us))
    (hb : ∀ (cdv : Value) (A : Around) (outer : List Env) (s : Shared) (H : Hp) (E : XK), Room k (A.deeper (PyProof.Rows.envOfC x scope s.heap.objs.size f cdv)) → XSs (cxOf (L2.CX P w) P w K mg base N x scope f cdv A outer s H E) ct cv E body m) :
    CalX P w K mg base ct cv (k + 1) x n (runX N.length m) := by
  refine ⟨f, fd, ps, F.ok S (fun vs H Q E ⟨_, ds, _, _, _, hl, r, _⟩ => by rw [← r.length, hl, hn]) fun cdv A outer s H vs Q E hr h => ⟨_, hb cdv A outer s H E hr, ?_⟩, hm, F.kp, F.bindsN b⟩
  obtain ⟨Fz, ds, c, le, tbs, hl, rs, hg, q⟩ := h
  obtain ⟨⟨c', σ'⟩, e1, e2⟩ := Option.map_eq_some_iff.mp hg
  dsimp only at e2
  subst e2
  exact ⟨Fz, _, wd_startV le tbs rs, _, _, e1, fun H' F' σV' st => q F' H' (stp_grw st fun a => noOwn_startV) st.w.tb⟩
end
section
variable {X : Cx} {ct : Ct} {cv : Nat → Value} {E : XK} {n k j : Nat} {x : Str} {p pos : Pos} {e : Expr} {es : List Expr} {ms : List (M D)}
/-- such a call raises -/
theorem pe_x {g : List D → Option Nat} (C : CalX X.prog X.w X.K X.mg X.base ct cv k x n g) (hr : Room j X.A) (hj : k ≤ j) (hg : Gl X x) (hx : Passes (L2.CX X.prog X.w) X E) (ha : SEs X ct (e :: es) ms)
    (hdb : (x == ("__debug__" : Str)) = false := by decide) (he : starEach (e :: es) X.env = (false, eval e X.env) :: starEach es X.env := by rfl) (hpl : (backTo pos (starEach es X.env)).any (·.1) = false := by rfl) :
    PE X (.Call (.Name x p) (e :: es) [] pos) (fun σV H _ => ∃ F σ, Wd X.K ct F H σV σ ∧ ∃ c σ', xCall n g ms σ = some (c, σ') ∧ ∀ H' F', Stp X.K ct F H σV σ F' H' σV σ' → E (cv c) none H') := by
  obtain ⟨f, fd, ps, h1, h2, h3, h4⟩ := C.ex
  refine PEimp (pe_call (E := E) h1 (hr.mono hj) hg h2 h3 h4 .nil hx ha hdb he hpl) fun σV H Q ⟨F, σ, w, c, σ', e, q⟩ => ?_
  unfold xCall at e
  split at e
  · rename_i ds σ1 e1
    split at e
    · rename_i hl
      split at e
      · rename_i c' hg'
        cases e
        refine tL_ok (F := F) (H := H) w e1 fun vs H1 F1 st rs => ?_
        rw [List.append_nil]
        exact ⟨F1, ds, c, st.w.le, ⟨st.w.tb, st.w.nt⟩, hl, rs, hg', fun F2 H2 gr tb => q H2 F2 (st.trans (gr.stp st.w tb))⟩
      · cases e
    · cases e
  · cases e
theorem xs_call {g : List D → Option Nat} {pos' : Pos} (C : CalX X.prog X.w X.K X.mg X.base ct cv k x n g) (hr : Room j X.A) (hj : k ≤ j) (hg : Gl X x) (tk : Takes X fun cls d _ H => E cls d H) (ha : SEs X ct (e :: es) ms)
    (hdb : (x == ("__debug__" : Str)) = false := by decide) (he : starEach (e :: es) X.env = (false, eval e X.env) :: starEach es X.env := by rfl) (hpl : (backTo pos (starEach es X.env)).any (·.1) = false := by rfl) (hs : swapsWith (.Call (.Name x p) (e :: es) [] pos) none pos'.line X.env = pure false := by rfl) :
    XS X ct cv E (.Expr (.Call (.Name x p) (e :: es) [] pos) pos') (xCall n g ms) :=
  PSimp (ps_expr (pe_x C hr hj hg (L2.passes_call tk fun _ _ _ _ h => h) ha hdb he hpl) hs) fun D σV H ⟨F, σ, w, c, σ', e, q⟩ => ⟨F, σ, w, c, σ', e, fun H' F' st => q H' F' σV st⟩
end
end Ev
end

section
set_option Elab.async false
set_option linter.all false
set_option maxHeartbeats 2000000
/-! EvLm: a lambda handed to a def; of the tables only its own grows. -/
namespace Ev
open PySem PySem.Spec PyProof.Rows L2 LamX
set_option autoImplicit false
/-- all but the table at P stays, that one grows -/
structure Grows (P : Addr) (H H1 : Hp) : Prop where
  else_ : ∀ b o, b ≠ P → H b = some o → H1 b = some o
  tbl : ∃ ps, H1 P = some (.tbl ps)
abbrev lamN (q : Str) : Str := q ++ "<lambda>"
section
variable {X : Cx} {pins : List (Addr × Obj)} {σ : L2.St} {H : Hp} {s : Shared} {T : List (Addr × Str)} {c P : Addr} {ps : Arguments} {bd : Expr} {sc : Scope}
/-- tables behind the making: its own has one row more, the others are as they were -/
theorem tabs_more {q : Str} {tb : Array Value} {c' : Addr} {pos : Pos} (hP : H P = some (.tbl tb)) (ok : TriplesOk tb.toList) (all : ∀ (p : Pos) (v : Value), codeAmong p tb.toList = some v → ∃ d, v = .ref d ∧ H d = some (CodeO d q))
    (nC : H c' = none) (un : ∀ p ∈ T, p.1 = P → p.2 = q) (hT : Tabs T H) : Tabs T (upd (upd H P (.tbl (tb ++ #[rawInt pos.line, rawInt pos.col, .ref c']))) c' (CodeO c' q)) := by
  have st : ∀ b o, H b = some o → b ≠ P → upd (upd H P (.tbl (tb ++ #[rawInt pos.line, rawInt pos.col, .ref c']))) c' (CodeO c' q) b = some o := fun b o e n => by
    rw [upd_ne (ne_of_none e nC), upd_ne n]; exact e
  have cd : ∀ d r, H d = some (CodeO d r) → d ≠ P := fun d r e z => codeO_ne tb (Option.some.inj (e.symm.trans (z ▸ hP)))
  intro p hp
  by_cases z : p.1 = P
  · have e2 := un p hp z
    rw [e2, z]
    have eP : upd (upd H P (.tbl (tb ++ #[rawInt pos.line, rawInt pos.col, .ref c']))) c' (CodeO c' q) P = some (.tbl (tb ++ #[rawInt pos.line, rawInt pos.col, .ref c'])) := by
      rw [upd_ne (ne_of_none hP nC)]; exact upd_same
    have eL : (tb ++ #[rawInt pos.line, rawInt pos.col, .ref c']).toList = tb.toList ++ [rawInt pos.line, rawInt pos.col, .ref c'] := by rw [Array.toList_append]
    refine ⟨_, eP, eL ▸ TriplesOk_snoc _ _ _ _ ok, fun pz v hv => ?_⟩
    rw [eL] at hv
    rcases among_app _ ok hv with y | y
    · obtain ⟨d, e, f⟩ := all pz v y
      exact ⟨d, e, st d _ f (cd d _ f)⟩
    · exact ⟨c', y, upd_same⟩
  · obtain ⟨u, h1, h2, h3⟩ := hT p hp
    refine ⟨u, st _ _ h1 z, h2, fun pz v hv => ?_⟩
    obtain ⟨d, e, f⟩ := h3 pz v hv
    exact ⟨d, e, st d _ f (cd d _ f)⟩
theorem lam_new {pos : Pos} {E Q : Value → Shared → Prop} (I : Inv X pins σ H s) (B : TabB X.base X.mg c P) (ec : X.env.code = .ref c) (mem : (P, lamN X.env.qual) ∈ T) (un : ∀ p ∈ T, p.1 = P → p.2 = lamN X.env.qual) (hT : Tabs T H)
    (nd : defaultsOf ps X.env = ([], [])) (fr : ∀ y ∈ sc.names, y.2 = .free → ∃ d, X.env.cells.lookup y.1 = some d)
    (k : ∀ (f c' : Addr) (pm ctv : Value) (H1 : Hp) (s' : Shared), Inv X pins σ H1 s' → Grows P H H1 → Tabs T H1 → s'.heap.get? f = some (PySem.W.kla_obj "<lambda>" (lamN X.env.qual) ps bd sc (cloFrom X.env.cells sc.names []) pm c' ctv) →
      H1 f = none → f ∉ frs X.stack → H1 c' = some (CodeO c' (lamN X.env.qual)) → Q (.ref f) s') : wpAny (model X.prog X.w) X.A (eval (.Lambda ps bd sc pos) X.env) Q E s := by
  obtain ⟨tb, hP, ok, all⟩ := hT _ mem
  have hPs : s.heap.get? P = some { cls := .none, data := .fields tb } := I.hok P _ hP
  have out : ∀ g, s.heap.objs.size ≤ g → g ∉ frs X.stack := fun g hg m => (List.mem_cons.mp (I.stkSub _ m)).elim (fun e => Nat.lt_irrefl _ (Nat.lt_of_lt_of_le (e ▸ I.lt) hg)) (fun e => I.nofs hg e)
  refine PySem.W.kla_eval nd ?_
  have nm := (X.mg "__name__").getD .none
  rcases hc : codeAmong pos tb.toList with _ | v
  · apply PySem.W.kla_makeFunction (closure_ok fr) I.ok.glob (I.mod.glob.keeps I.bk) ec (B.code.keeps I.bk) hPs ok hc B.gP (B.bm.keeps I.bk)
    intro c' ctv h' tk ex ge lt cr nt
    obtain ⟨d, oc, vs, t, e, ho, hd, hv⟩ := cr
    cases e
    have sz : s.heap.objs.size ≤ h'.objs.size := Nat.le_of_lt (Nat.lt_of_le_of_lt ge lt)
    have nC := I.hok.fresh ge
    have J := inv_table (q := lamN X.env.qual) (more := #[rawInt pos.line, rawInt pos.col, .ref c']) (t' := tk) (h' := h'.push (PySem.W.kla_obj "<lambda>" (lamN X.env.qual) ps bd sc (cloFrom X.env.cells sc.names []) ((X.mg "__name__").getD .none) c' ctv)) I hP
      (fun b o n e => Heap.get?_push_of_some _ (ex b o n e)) (Heap.get?_push_of_some _ nt) ge ⟨oc, vs, t, Heap.get?_push_of_some _ ho, hd, hv⟩
    refine k _ c' _ ctv _ _ J ⟨fun b o n e => ?_, _, (upd_ne (ne_of_none hP nC)).trans upd_same⟩ (tabs_more hP ok all nC un hT) (Heap.get?_push_size _ rfl) ?_ (out _ sz) upd_same
    · exact ((upd_ne (ne_of_none e nC)).trans (upd_ne n)).trans e
    · have m1 : h'.objs.size ≠ P := fun z => absurd (Heap.lt_size hPs) (Nat.not_lt.mpr (z ▸ sz))
      exact ((upd_ne (Nat.ne_of_gt lt)).trans (upd_ne m1)).trans (I.hok.fresh sz)
  · obtain ⟨d, e, f⟩ := all pos v hc
    cases e
    apply PySem.W.kla_makeFunctionHit (closure_ok fr) I.ok.glob (I.mod.glob.keeps I.bk) ec (B.code.keeps I.bk) hPs ok hc (B.bm.keeps I.bk)
    intro ctv h' tk ex sz
    have J : Inv X pins σ H { s with heap := h'.push (PySem.W.kla_obj "<lambda>" (lamN X.env.qual) ps bd sc (cloFrom X.env.cells sc.names []) ((X.mg "__name__").getD .none) d ctv), toks := tk } := I.kept fun b o e => Heap.get?_push_of_some _ (ex b o e)
    exact k _ d _ ctv H _ J ⟨fun _ _ _ e => e, tb, hP⟩ hT (Heap.get?_push_size _ rfl) (I.hok.fresh sz) (out _ sz) f
end
end Ev
end

section
set_option Elab.async false
set_option linter.all false
/-! EvCn: xs.count(x), isinstance of a caught error. -/
namespace Ev
open PySem PySem.Spec PyProof.Rows L2 LamX
set_option autoImplicit false
theorem dp_eq (d : D) (h : d.pl = true) : d.toP.depth = d.dp := (pl_lay d h).2
mutual
theorem plain_of : ∀ d : D, d.pl = true → d.toP.plain = true
  | .non, _ => rfl
  | .bl _, _ => rfl
  | .int _, _ => rfl
  | .str _, _ => rfl
  | .tup _ l, h => plains_of l h
  | .lst l, h => plains_of l h
  | .dct _ _, h => by cases h
  | .ins _ _, h => by cases h
  | .scr _, h => by cases h
  | .adr, h => by cases h
theorem plains_of : ∀ l : List D, D.pls l = true → PyData.plainAll (D.toPs l) = true
  | [], _ => rfl
  | d :: l, h => by
    have h' : (d.pl && D.pls l) = true := h
    rw [Bool.and_eq_true] at h'
    simp only [D.toPs, PyData.plainAll, plain_of d h'.1, plains_of l h'.2, Bool.and_self]
end
section
variable {X : Cx} {ct : Ct} {pos apos : Pos} {o e : Expr}
def rCountD (K : PySem.W.Frag) : V → List V → Hp → VK → Prop := fun x xs H Q => ∃ (a : Addr) (ys : List V) (y : V) (d : PyData) (ds : List PyData), x = .ref a ∧ xs = [y] ∧ SqL K H a ys ∧ DpAll K H ys ds ∧ Dp K H y d ∧
  PyData.plainAll ds = true ∧ d.plain = true ∧ d.depth ≤ 62 ∧ Q (.int (ds.countP fun z => PyData.eqv z d : Nat)) H
theorem mt_countD (hu : X.A.units + 65 < cLine) : MtR X "list.count" (rCountD X.K) := by
  intro pins s σ H x xs v us Q I rx rxs h
  obtain ⟨a, ys, y, d, ds, rfl, rfl, hs, hall, hy, hp, hd, hdp, q⟩ := h
  cases rx
  obtain ⟨u, rfl, ru⟩ := rxs.one
  obtain ⟨its, rv, hl, hlen⟩ := I.list hs
  obtain ⟨as, r1⟩ := Dp.readsAll I ds _ its hall rv
  obtain ⟨bs, r2⟩ := Dp.reads I d y u hy ru
  refine SeqAt.count_list_data hl.isList r1 r2 hp hd (Nat.lt_of_le_of_lt (Nat.add_le_add_left (Nat.min_le_right _ _) _) (by omega)) ⟨.int (ds.countP fun z => PyData.eqv z d : Nat), H, I.tok _, ⟨s.toks, rfl⟩, q⟩
def dCount (d : D) (l : List D) : Nat := l.countP fun z => D.eqv z d
def mCnt (a : A) (mk : M D) : M D := fun σ => match a.go σ with
  | some (x, σ1) => (match a.fin x σ1 with
    | some (.lst _) => (match mk σ1 with
      | some (d, σ2) => (match a.fin x σ2 with
        | some (.lst l) => if (D.pls l && d.pl && decide (d.dp ≤ 62)) = true then some (.int (dCount d l : Nat), σ2) else none
        | _ => none)
      | none => none)
    | _ => none)
  | none => none
theorem count_toP (d : D) : ∀ l : List D, (D.toPs l).countP (fun z => PyData.eqv z d.toP) = dCount d l
  | [] => rfl
  | e :: l => by
    unfold dCount
    rw [D.toPs, List.countP_cons, List.countP_cons, count_toP d l, eqv_toP]; rfl
theorem se_cnt {a : A} {mk : M D} (hu : X.A.units + 65 < cLine) (ho : AE X ct o a) (h : SE X ct e mk)
    (hbase : attributeBase o "count" X.env (eval o X.env) = eval o X.env := by rfl)
    (hfew : ((backTo pos (starEach [e] X.env)).all (fun x => !x.1) && (backToKw pos (keywordEach [] X.env)).all (fun x => x.1.isSome) && decide ([e].length + ([] : List Keyword).length + (if ([] : List Keyword).isEmpty then 0 else 1) < 30)) = true := by rfl)
    (hline : (apos.endLine == pos.line) = true := by rfl) (hs : starEach [e] X.env = (false, eval e X.env) :: starEach [] X.env := by rfl) (hplain : (backTo pos (starEach [] X.env)).any (·.1) = false := by rfl) :
    SE X ct (.Call (.Attribute o "count" apos) [e] [] pos) (mCnt a mk) :=
  PEimp (pe_bm F.plainAttrs_list F.slot_list_count F.type_list_count (mt_countD hu) ho (pa_cons h pa_nil hs) hbase hfew hline hs hplain) fun σV H Q ⟨F, σ, w, d, σ', e, q⟩ => by
  unfold mCnt at e
  split at e
  · rename_i x σ1 h1
    split at e
    · rename_i l0 h0
      split at e
      · rename_i kd σ2 h2
        split at e
        · rename_i l h4
          split at e
          · rename_i hk
            simp only [Bool.and_eq_true, decide_eq_true_eq] at hk
            cases e
            refine A.ok w h1 fun v H1 F1 st1 r1 => ?_
            obtain ⟨b, vs0, rfl, hv0, q0⟩ := A.view st1.w r1 h0
            refine ⟨.inl ⟨rfl, vs0, SqL.of hv0⟩, F1, σ1, st1.w, kd, _, h2, fun kv H2 F2 st2 r2 => ?_⟩
            obtain ⟨b', vs, eb, hv, q1⟩ := A.view st2.w (A.res_mono st2.le r1) h4
            cases eb
            have r3 := dps_le st2.w.le _ _ (dps_of l vs hk.1.1 q1)
            refine ⟨b, vs, kv, kd.toP, D.toPs l, rfl, rfl, SqL.of hv, r3, vdp st2.w.le hk.1.2 (VRep.of st2.w.le r2), plains_of l hk.1.1, plain_of kd hk.1.2, (by rw [dp_eq kd hk.1.2]; exact hk.2), ?_⟩
            rw [count_toP]
            exact q _ H2 F2 (st1.trans st2) rfl
          · cases e
        · cases e
      · cases e
    · cases e
  · cases e
end
end Ev
end

section
set_option Elab.async false
set_option linter.all false
set_option maxHeartbeats 1000000
/-! EvLw: x(lambda: f(..)) where x tells by a word what f raised. -/
namespace Ev
open PySem PySem.Spec PyProof.Rows L2 LamX
set_option autoImplicit false
/-! ### isinstance of the caught error -/
def mIsE (m : M D) (a : Addr) (b : Bool) : M S := fun σ => match m σ with
  | some (.at_ c, σ') => if c = a then some (.imm (.bl b), σ') else none
  | _ => none
section
variable {X : Cx} {ct : Ct} {a C : Addr} {oe : Obj} {pn : List (Addr × Obj)} {e : Expr} {m : M D} {y : Str} {p p2 pos : Pos} {b : Bool}
theorem isE_ok {v : V} {cv : Value} (hC : ExcC X.K C) (hz : Zc (.ref C) none oe) (hf : ∃ vs, oe.data = .fields vs) (hk : PySem.W.kitOne X.K (.ref C) cv = some b) (hr : ∀ u, RelV v u → u = cv)
    (hg : Gl (X.suite a ((a, oe) :: pn)) "isinstance") (hm : X.mg "isinstance" = none) (hy : PE (X.suite a ((a, oe) :: pn)) (.Name y p2) (tC v)) (he : SE (X.suite a ((a, oe) :: pn)) ct e m)
    (hv : bootBuiltins "isinstance" = some (.builtin "isinstance") := by decide +kernel)
    (h1 : starEach [e, .Name y p2] X.env = (false, eval e X.env) :: starEach [.Name y p2] X.env := by rfl) (h2 : starEach [.Name y p2] X.env = (false, eval (.Name y p2) X.env) :: starEach [] X.env := by rfl) (hpl : (backTo pos (starEach [.Name y p2] X.env)).any (·.1) = false := by rfl) :
    SF (X.suite a ((a, oe) :: pn)) ct (.Call (.Name "isinstance" p) [e, .Name y p2] [] pos) (mIsE m a b) :=
  PEimp (pe_callB (call_isE hC hz hf) hg hm hv (pa_cons he (pa_cons hy pa_nil h2) h1) (by decide) (by decide) h1 hpl) fun σV H Q ⟨F, σ, w, s, σ', ee, q⟩ => by
    unfold mIsE at ee
    split at ee
    · rename_i c σ1 e1
      split at ee
      · rename_i hc
        subst hc
        cases ee
        refine ⟨F, σ, w, _, _, e1, fun x H1 F1 st r => ?_⟩
        obtain rfl : x = .ref c := r
        exact ⟨v, cv, b, rfl, hr, hk, q (.bl b) H1 F1 st rfl⟩
      · cases ee
    · cases ee
end
/-! ### what the word is -/
/-- tl: the lambda's reading; it may raise a class of cv below n: its word is told -/
def TWord (ct : Ct) (cv : Nat → Value) (n : Nat) (wd : Nat → Str) : (XK → Hp → VK → Prop) → Hp → VK → Prop := fun tl H Q =>
  tl (fun cls d H' => ∃ i F', cls = cv i ∧ d = none ∧ i < n ∧ Le F' H' ∧ (Tbs ct H' ∧ NoT F') ∧ ∀ F'' H'', Grw0 F' H' F'' H'' → Tbs ct H'' → Q (.str (wd i)) H'') H (fun _ H' => Q (.str "told") H')
/-- a def that is handed a lambda and tells the word -/
structure CalW (P : Program) (w : World) (K : PySem.W.Frag) (mg : Str → Option Value) (base : Heap) (ct : Ct) (cv : Nat → Value) (n : Nat) (wd : Nat → Str) (k : Nat) (x : Str) : Prop where
  ex : ∃ (g : Addr) (oc : Value) (od : Option Addr) (pg : Arguments) (bg : List Stmt) (sg : Scope) (dV kV doc pm : Value) (an : Option Addr) (cdv ctv : Value) (osl : Array (Option Value)) (Ng : List Str) (a : Str),
    mg x = some (.ref g) ∧ PySem.W.keepIn K (.ref g) = true ∧ K.lookup g = some ⟨oc, od, .func (PySem.W.fnOf x x pg bg sg dV kV doc pm an cdv ctv), osl⟩ ∧ PySem.W.codeIn K cdv x = true ∧
      L2.Binds K (PySem.W.fnOf x x pg bg sg dV kV doc pm an cdv ctv) [a] [] ∧ FnScope Ng [a] sg ∧ Ng[0]? = some a ∧ Vis sg a ∧ (a == ("__debug__" : Str)) = false ∧ (a == ("__classdict__" : Str)) = false ∧
      ∀ (X : Cx) (q : Str), X.prog = P → X.w = w → X.K = K → X.mg = mg → X.base = base → Room k X.A → GivesTo X Ng x sg g cdv bg a q (TWord ct cv n wd)
/-! ### the call -/
/-- the lambda's body: a call that is told, or raises -/
def tOut (X : Cx) (ct : Ct) (cv : Nat → Value) (m : M S) (mx : MX) (E : XK) : TE := fun σV H Q => rdF X ct m σV H Q ∨ ∃ F σ, Wd X.K ct F H σV σ ∧ ∃ c σ', mx σ = some (c, σ') ∧ ∀ H' F', Stp X.K ct F H σV σ F' H' σV σ' → E (cv c) none H'
def mWord (wd : Nat → Str) (n : Nat) (m : M S) (mx : MX) : M S := fun σ => match mx σ with
  | some (c, σ') => if c < n then some (.imm (.str (wd c)), σ') else none
  | none => (match m σ with
    | some (_, σ') => some (.imm (.str "told"), σ')
    | none => none)
def tLamG (P : Addr) (T : List (Addr × Str)) (TT : (XK → Hp → VK → Prop) → Hp → VK → Prop) (t : XK → TE) : TE := fun σ H Q => Tabs T H ∧ ∀ H1, Grows P H H1 → Tabs T H1 → TT (fun E H' Q' => t E σ H' Q') H1 Q
section
variable {X : Cx}
theorem pe_lamG {ct : Ct} {cv : Nat → Value} {n : Nat} {wd : Nat → Str} {x : Str} {k j : Nat} {T : List (Addr × Str)} {c Pt : Addr} {ps : Arguments} {bd : Expr} {sc : Scope} {t : XK → TE} {p lp pos : Pos}
    (W : CalW X.prog X.w X.K X.mg X.base ct cv n wd k x) (hk : k ≤ j + 2) (hg : Gl X x) (B : TabB X.base X.mg c Pt) (ec : X.env.code = .ref c) (mem : (Pt, lamN X.env.qual) ∈ T) (un : ∀ p ∈ T, p.1 = Pt → p.2 = lamN X.env.qual)
    (hr : Room (j + 2) X.A) (Ls : LamS X.env.scope sc) (nd : defaultsOf ps X.env = ([], [])) (bnd : ∀ (q : Str) (cl : List (Str × Addr)) (pm cv ctv : Value), bindArgs (PySem.W.kla_fn "<lambda>" q ps bd sc cl pm cv ctv) ⟨[], []⟩ = pure [])
    (bod : ∀ (A : Around) (outer : List Env) (s : Shared) (H : Hp) (E : XK) (f c' : Addr), Room j (A.deeper (lamEnv X sc s.heap.objs.size f c')) → PE (lamCx X A outer s H E sc f c') bd (t E))
    (hdb : (x == ("__debug__" : Str)) = false := by decide) :
    PE X (.Call (.Name x p) [.Lambda ps bd sc lp] [] pos) (tLamG Pt T (TWord ct cv n wd) t) := by
  obtain ⟨g, oc, od, pg, bg, sg, dV, kV, doc, pm, an, cdv, ctv, osl, Ng, a, e1, e2, e3, e4, e5, e6, e7, e8, e9, e10, G⟩ := W.ex
  constructor
  rintro pins s σ H Q I ⟨hT, go⟩
  refine wpAny_Call_Name_kw (ld_glob I hg e1 ?_ hdb)
  refine PySem.W.callWith_K (h₀ := X.base) I.ok.mod.kin e2 (Calls.spliced_cons (lam_new I B ec mem un hT nd (Ls.has I.ok) fun f c' pm' ctv' H1 s' J gr T1 hf nf nfr hc => Calls.spliced_nil ⟨J.kIn, ?_⟩)) (by rfl) (by rfl)
  have body : Room (j + 1) (X.A.deeper (envOfC x sg s'.heap.objs.size g cdv)) → ∃ u, PSs (cxOf C8.CX0 X.prog X.w X.K X.mg X.base Ng x sg g cdv X.A X.stack s' H1 C8.E0) bg u ∧ u { nx := fun _ H' => Q .non H', rt := Q } (L2.start Ng [.ref f]) H1 := fun hr' => by
    obtain ⟨u, hu, qu⟩ := G X (lamN X.env.qual) rfl rfl rfl rfl rfl (hr.mono hk) f c' s' H1 Q (fun E H' Q' => t E σ H' Q') (fun W' pn xe E p1 p2 tk hW => pe_act (i := 0) J Ls hf nf nfr (bnd _ _ _ _ _) tk hW hr' (fun A outer s H r2 => bod A outer s H E f c' r2) e7 e8 e9 e10) hc (go H1 gr T1)
    exact ⟨u, hu.nox, qu⟩
  have rc := run_ofS (CX := C8.CX0) (w := X.w) (P := X.prog) (A := X.A) (E := C8.E0) (Q := Q) (us := [.ref f]) (vs := [.ref f]) e3 e4 e6 (hr.mono (Nat.le_refl _)) J.env0 (e5 s' [.ref f] J.kIn rfl) (.cons rfl .nil) rfl body
  apply wpAny_call
  apply codeAny_mono rc
  rintro (e | fl) s2 hq
  · exact False.elim hq
  · cases fl with
    | ret u => exact J.after hq
    | _ => exact False.elim hq
theorem sf_word {ct : Ct} {cv : Nat → Value} {n : Nat} {wd : Nat → Str} {x : Str} {k j : Nat} {c Pt : Addr} {ps : Arguments} {bd : Expr} {sc : Scope} {m : M S} {mx : MX} {p lp pos : Pos}
    (W : CalW X.prog X.w X.K X.mg X.base ct cv n wd k x) (hk : k ≤ j + 2) (hg : Gl X x) (B : TabB X.base X.mg c Pt) (ec : X.env.code = .ref c) (mem : (Pt, lamN X.env.qual) ∈ ct.tb) (un : ∀ p ∈ ct.tb, p.1 = Pt → p.2 = lamN X.env.qual)
    (hr : Room (j + 2) X.A) (Ls : LamS X.env.scope sc) (nd : defaultsOf ps X.env = ([], [])) (bnd : ∀ (q : Str) (cl : List (Str × Addr)) (pm cv ctv : Value), bindArgs (PySem.W.kla_fn "<lambda>" q ps bd sc cl pm cv ctv) ⟨[], []⟩ = pure [])
    (bod : ∀ (A : Around) (outer : List Env) (s : Shared) (H : Hp) (E : XK) (f c' : Addr), Room j (A.deeper (lamEnv X sc s.heap.objs.size f c')) → PE (lamCx X A outer s H E sc f c') bd (tOut X ct cv m mx E))
    (hdb : (x == ("__debug__" : Str)) = false := by decide) :
    SF X ct (.Call (.Name x p) [.Lambda ps bd sc lp] [] pos) (mWord wd n m mx) := PEimp (pe_lamG W hk hg B ec mem un hr Ls nd bnd bod hdb) fun σV H Q ⟨F, σ, w, s, σ', e, q⟩ => by
  refine ⟨w.tb, fun H1 gr T1 => ?_⟩
  obtain ⟨tb, hP, _⟩ := w.tb _ mem
  have st : Stp X.K ct F H σV σ F H1 σV σ := Stp.grow w (Le.refl F) (fun a o e => gr.else_ a o (fun z => by
      subst z
      have h1 := w.le _ _ e
      rw [hP] at h1; cases h1
      exact w.nt _ _ e) (w.le a o e)) (fun a o e => by
      by_cases z : a = Pt
      · subst z
        rw [hP] at e; cases e
        obtain ⟨ps', h⟩ := gr.tbl
        exact .inr ⟨⟨tb, rfl⟩, _, h, ⟨ps', rfl⟩⟩
      · exact .inl (gr.else_ a o z e)) (fun _ => T1) (fun _ q => .inl q) id
  unfold mWord at e
  split at e
  · rename_i c' σ1 h1
    split at e
    · rename_i hc
      cases e
      exact .inr ⟨F, σ, st.w, c', _, h1, fun H2 F2 st2 => ⟨c', F2, rfl, rfl, hc, st2.w.le, ⟨st2.w.tb, st2.w.nt⟩, fun F3 H3 g tb3 => q (.str (wd c')) H3 F3 (st.trans (st2.trans (g.stp st2.w tb3))) rfl⟩⟩
    · cases e
  · split at e
    · rename_i s' σ1 h1
      cases e
      exact .inl ⟨F, σ, st.w, s', _, h1, fun v H2 F2 st2 r => q (.str "told") H2 F2 (st.trans st2) rfl⟩
    · cases e
end
end Ev
end

section
set_option Elab.async false
set_option linter.all false
set_option maxHeartbeats 1000000
/-! EvLx: the def that tells the word. -/
namespace Ev
open PySem PySem.Spec PyProof.Rows L2 LamX
set_option autoImplicit false
/-- the frame in the handler: of the slots only the error's is known -/
def wfr (len j : Nat) (a : Addr) : Fr := (List.replicate len none).set j (some (.imm (.at_ a)))
theorem takes_len {X : Cx} {W : WX} (tk : Takes X W) : Takes X fun cls d σ H => σ.length = X.N.length → W cls d σ H := fun u s' ⟨a, B, sI, pins, σ, H, cls, d, e, I, nb, up, sky, na, os, ag, w⟩ =>
  tk u s' ⟨a, B, sI, pins, σ, H, cls, d, e, I, nb, up, sky, na, os, ag, w I.len⟩
theorem wfr_get {len j i : Nat} {a : Addr} {s : S} (h : (wfr len j a)[i]? = some (some s)) : i = j ∧ s = .imm (.at_ a) := by
  unfold wfr at h
  rw [List.getElem?_set] at h
  split at h
  · rename_i e
    split at h
    · cases h; exact ⟨e.symm, rfl⟩
    · cases h
  · rw [List.getElem?_replicate] at h
    split at h <;> cases h
theorem word_gives {X : Cx} {Ng : List Str} {x a er fd exn q : Str} {sg : Scope} {g CS : Addr} {cdg : Value} {ct : Ct} {cv : Nat → Value} {n i j : Nat} {wd : Nat → Str} {mh : Nat → Addr → M Fl} {b₀ : Stmt} {suite : List Stmt} {p0 p1 p2 p3 p4 p5 p6 p7 p8 p9 p10 : Pos} {j0 : Nat}
    (nd : Ng.Nodup) (hi : Ng[i]? = some fd) (hj : Ng[j]? = some er) (lfd : sg.names.lookup fd = some .local) (ler : sg.names.lookup er = some .local) (h0 : 0 < i) (hij : i ≠ j) (dfd : (fd == ("__debug__" : Str)) = false) (cfd : (fd == ("__classdict__" : Str)) = false)
    (hge : sg.names.lookup exn = some .globalImplicit) (hde : (exn == ("__debug__" : Str)) = false) (hme : X.mg exn = some (.ref CS)) (hex : ∀ k, k < n → PySem.W.exmOne X.K (cv k) (.ref CS) = some true)
    (hh : ∀ k, k < n → ∀ (c : Addr) (oe : Obj) (s : Shared) (H : Hp) (pn : List (Addr × Obj)), Zc (cv k) none oe → (∃ vs, oe.data = .fields vs) → SSs ((cxOf C8.CX0 X.prog X.w X.K X.mg X.base Ng x sg g cdg X.A X.stack s H C8.E0).nox.suite c ((c, oe) :: pn)) ct (b₀ :: suite) (mh k c))
    (hm : ∀ k, k < n → ∀ c : Addr, ∃ σ', mh k c (wfr Ng.length j c) = some (.nx, σ') ∧ σ'[i]? = some (some (.imm (.str (wd k))))) :
    GivesTo X Ng x sg g cdg [.Assign [.Name fd p0] (.Constant (.str "told") j0 p1) p2, .Try [.Expr (.Call (.Name a p3) [] [] p4) p5] [.ExceptHandler (some (.Name exn p6)) (some er) (b₀ :: suite) p7] [] [] p8, .Return (some (.Name fd p9)) p10] a q (TWord ct cv n wd) := by
  intro f c' s H Q tl act hc h
  have hgl : Gl (cxOf C8.CX0 X.prog X.w X.K X.mg X.base Ng x sg g cdg X.A X.stack s H C8.E0).nox exn := hge
  have li := (List.getElem?_eq_some_iff.mp hi).1
  have lj := (List.getElem?_eq_some_iff.mp hj).1
  refine ⟨_, pss_cons (ps_set nd hi (.inl lfd) pe_str) (pss_cons (ps_try_as (X := (cxOf C8.CX0 X.prog X.w X.K X.mg X.base Ng x sg g cdg X.A X.stack s H C8.E0).nox) (c := .ref CS) (i := j)
      (tb := fun W D σ H => ∃ Ech : XK, (∀ cls d σ' H', σ'.length = Ng.length → Ech cls d H' → W cls d σ' H') ∧ σ[0]? = some (some (.ref f)) ∧ H c' = some (CodeO c' q) ∧ tl Ech H fun _ H' => D.nx σ H')
      (ts := fun c cls d D σ H => ∃ k, k < n ∧ cls = cv k ∧ d = none ∧ rdS X ct (mh k c) D σ H)
      rfl rfl nd hj ler ⟨hgl, hde, .inl hme⟩ LamX.takes0 (fun W pn xe tk _ => ?_) (fun c oe cls d pn hz hf => ?_)) (pss_one (ps_ret (pe_var (i := i) hi (.inl lfd) dfd cfd)))), ?_⟩
  · refine ⟨fun pins s' σ' H' D I h' => ?_⟩
    obtain ⟨Ech, hW, h1, h2, h3⟩ := h'
    have hp := act _ pn xe Ech p3 p4 (takes_len tk) (fun cls d σ' H' e hl => hW cls d σ' H' hl e)
    exact (pss_one (ps_expr (pos := p5) hp)).run pins s' σ' H' D I ⟨h1, h2, h3⟩
  · refine ⟨fun pins s' σ' H' D I h' => ?_⟩
    obtain ⟨k, hk, rfl, rfl, r⟩ := h'
    exact (hh k hk c oe s H pn hz hf).run pins s' σ' H' D I r
  · have l0 : (L2.start Ng [V.ref f])[0]? = some (some (.ref f)) := startV_get (vs := [V.ref f]) rfl
    have eq : (fun (_ : V) (H' : Hp) => tRet (tVar i) { nx := fun _ H' => Q V.non H', rt := Q } ((L2.start Ng [V.ref f]).set i (some (V.str "told"))) H') = fun (_ : V) H' => Q (.str "told") H' := by
      funext _ H'
      apply propext
      have g : ((L2.start Ng [V.ref f]).set i (some (V.str "told")))[i]? = some (some (.str "told")) := List.getElem?_set_self (by unfold L2.start; simp; omega)
      constructor
      · rintro ⟨v, e, z⟩
        rw [g] at e; cases e
        exact z
      · exact fun z => ⟨_, g, z⟩
    refine ⟨fun cls d H' => ∃ i F', cls = cv i ∧ d = none ∧ i < n ∧ Le F' H' ∧ (Tbs ct H' ∧ NoT F') ∧ ∀ F'' H'', Grw0 F' H' F'' H'' → Tbs ct H'' → Q (.str (wd i)) H'', fun cls d σ' H' hl he => ?_, (List.getElem?_set_ne (Nat.ne_of_gt h0)).trans l0, hc, ?_⟩
    · obtain ⟨k, F', rfl, rfl, hk, le, tn, go⟩ := he
      refine ⟨true, hex k hk, fun _ c hcn => ⟨k, hk, rfl, rfl, ?_⟩, fun z => by cases z⟩
      obtain ⟨σe, e1, e2⟩ := hm k hk c
      have no : ∀ b, ¬ Own (σ'.set j (some (V.ref c))) (wfr Ng.length j c) b := fun b ⟨m, s, e, so, _⟩ => by
        obtain ⟨_, rfl⟩ := wfr_get e
        cases so
      have ww : Wd X.K ct F' H' (σ'.set j (some (V.ref c))) (wfr Ng.length j c) := by
        refine ⟨le, fun m s e => ?_, fun m m' s s' b e e' so so' _ _ => ?_, by unfold wfr; simp [hl], tn.1, tn.2⟩
        · obtain ⟨rfl, rfl⟩ := wfr_get e
          exact ⟨.ref c, List.getElem?_set_self (by omega), rfl⟩
        · obtain ⟨_, rfl⟩ := wfr_get e
          cases so
      refine ⟨F', _, ww, _, _, e1, fun v σV' H1 F1 st r => ?_⟩
      obtain ⟨u, e3, r3⟩ := st.w.slot i _ e2
      obtain rfl : u = .str (wd k) := r3
      exact ⟨_, (List.getElem?_set_ne (Ne.symm hij)).trans e3, go F1 H1 (stp_grw st no) st.w.tb⟩
    · show tl _ H (fun (_ : V) (H' : Hp) => tRet (tVar i) { nx := fun _ H' => Q V.non H', rt := Q } ((L2.start Ng [V.ref f]).set i (some (V.str "told"))) H')
      rw [eq]
      exact h
end Ev
end

section
set_option Elab.async false
set_option linter.all false
/-! EvB: pop, extend. -/
namespace Ev
open PySem PySem.Spec L2
set_option autoImplicit false
theorem reps_dropLast {K ct F} : ∀ {l : List D} {vs : List V}, DReps K ct F l vs → DReps K ct F l.dropLast vs.dropLast := fun {l vs} r => by
  rw [List.dropLast_eq_take, List.dropLast_eq_take, ← r.length]
  exact DReps.take _ r
def mPop (i : Nat) : M S := fun σ => match σ[i]? with
  | some (some (.ls io l)) => (match l[l.length - 1]? with
    | some d => some (.imm d, σ.set i (some (.ls io l.dropLast)))
    | none => none)
  | _ => none
def mPopAt (i : Nat) (m : M D) : M S := fun σ => match σ[i]? with
  | some (some (.ls _ _)) => (match m σ with
    | some (.int j, σ1) => (match σ1[i]? with
      | some (some (.ls io l)) => if (decide (0 ≤ j) && decide (l.length ≤ LIM)) = true then (match l[j.toNat]? with
        | some d => some (.imm d, σ1.set i (some (.ls io (l.eraseIdx j.toNat))))
        | none => none) else none
      | _ => none)
    | _ => none)
  | _ => none
def mExt (i : Nat) (m : M D) : M S := fun σ => match σ[i]? with
  | some (some (.ls _ _)) => (match m σ with
    | some (.lst zs, σ1) => (match σ1[i]? with
      | some (some (.ls io l)) => if l.length + zs.length ≤ LIM then some (.imm .non, σ1.set i (some (.ls io (l ++ zs)))) else none
      | _ => none)
    | _ => none)
  | _ => none
section
variable {X : Cx} {ct : Ct} {pos apos : Pos} {o e : Expr} {i : Nat}
theorem sf_pop (ho : PE X o (tVar i)) (hbase : attributeBase o "pop" X.env (eval o X.env) = eval o X.env := by rfl) (hline : (apos.endLine == pos.line) = true := by rfl) : SF X ct (.Call (.Attribute o "pop" apos) [] [] pos) (mPop i) :=
  PEimp (pe_bm0 F.plainAttrs_list F.slot_list_pop F.type_list_pop mt_pop ho hbase hline) fun σV H Q ⟨F, σ, w, s, σ', e, q⟩ => by
  unfold mPop at e
  split at e
  · rename_i io l h0
    split at e
    · rename_i d hd
      cases e
      obtain ⟨ov, eo, a, vs, rfl, fa, ha, r⟩ := w.slot i _ h0
      obtain ⟨y, hy, ry⟩ := r.get hd
      rw [r.length] at hy
      refine ⟨_, eo, .inl ⟨rfl, vs, SqL.of ha⟩, a, vs, y, rfl, rfl, ha, hy, ?_⟩
      exact q _ _ F (Stp.wr w h0 rfl eo ⟨a, _, rfl, fa, upd_same, reps_dropLast r⟩ rfl) ry
    · cases e
  · cases e
theorem sf_popAt {m : M D} (ho : PE X o (tVar i)) (h : SE X ct e m) (hbase : attributeBase o "pop" X.env (eval o X.env) = eval o X.env := by rfl)
    (hfew : ((backTo pos (starEach [e] X.env)).all (fun x => !x.1) && (backToKw pos (keywordEach [] X.env)).all (fun x => x.1.isSome) && decide ([e].length + ([] : List Keyword).length + (if ([] : List Keyword).isEmpty then 0 else 1) < 30)) = true := by rfl)
    (hline : (apos.endLine == pos.line) = true := by rfl) (hs : starEach [e] X.env = (false, eval e X.env) :: starEach [] X.env := by rfl) (hplain : (backTo pos (starEach [] X.env)).any (·.1) = false := by rfl) :
    SF X ct (.Call (.Attribute o "pop" apos) [e] [] pos) (mPopAt i m) :=
  PEimp (pe_bm F.plainAttrs_list F.slot_list_pop F.type_list_pop mt_popAt ho (pa_cons h pa_nil hs) hbase hfew hline hs hplain) fun σV H Q ⟨F, σ, w, s, σ', e, q⟩ => by
  unfold mPopAt at e
  split at e
  · rename_i io0 l0 h0
    split at e
    · rename_i j σ1 h1
      split at e
      · rename_i io l h2
        split at e
        · rename_i hj
          simp only [Bool.and_eq_true, decide_eq_true_eq] at hj
          split at e
          · rename_i d hd
            cases e
            obtain ⟨ov, eo, a, vs, rfl, fa, ha, r⟩ := w.slot i _ h0
            refine ⟨_, eo, .inl ⟨rfl, vs, SqL.of ha⟩, F, σ, w, _, σ1, h1, fun v H1 F1 st1 rv => ?_⟩
            obtain rfl : v = .int j := rv
            obtain ⟨ov', eo', a', vs', e', fa', ha', r'⟩ := st1.w.slot i _ h2
            rw [eo] at eo'; cases eo'; cases e'
            obtain ⟨y, hy, ry⟩ := r'.get hd
            have hlt := (List.getElem?_eq_some_iff.mp hy).1
            have hL : vs'.length ≤ 16777216 := by rw [← r'.length]; exact hj.2
            have hj0 := hj.1
            have hs : seqIndex? j vs'.length = some j.toNat := by
              have n : ¬ j < 0 := by omega
              have b : (decide (0 ≤ j) && decide (j < (vs'.length : Int))) = true := by
                rw [Bool.and_eq_true, decide_eq_true_eq, decide_eq_true_eq]
                exact ⟨hj0, by omega⟩
              simp only [seqIndex?, if_neg n, b, if_true]
            refine ⟨a, vs', j, j.toNat, y, rfl, rfl, ha', by omega, by omega, hs, hy, ?_⟩
            exact q _ _ F1 (st1.trans (Stp.wr st1.w h2 rfl eo ⟨a, _, rfl, fa', upd_same, DReps.eraseIdx _ r'⟩ rfl)) ry
          · cases e
        · cases e
      · cases e
    · cases e
  · cases e
theorem sf_ext {m : M D} (ho : PE X o (tVar i)) (h : SE X ct e m) (hbase : attributeBase o "extend" X.env (eval o X.env) = eval o X.env := by rfl)
    (hfew : ((backTo pos (starEach [e] X.env)).all (fun x => !x.1) && (backToKw pos (keywordEach [] X.env)).all (fun x => x.1.isSome) && decide ([e].length + ([] : List Keyword).length + (if ([] : List Keyword).isEmpty then 0 else 1) < 30)) = true := by rfl)
    (hline : (apos.endLine == pos.line) = true := by rfl) (hs : starEach [e] X.env = (false, eval e X.env) :: starEach [] X.env := by rfl) (hplain : (backTo pos (starEach [] X.env)).any (·.1) = false := by rfl) :
    SF X ct (.Call (.Attribute o "extend" apos) [e] [] pos) (mExt i m) :=
  PEimp (pe_bm F.plainAttrs_list F.slot_list_extend F.type_list_extend mt_extend ho (pa_cons h pa_nil hs) hbase hfew hline hs hplain) fun σV H Q ⟨F, σ, w, s, σ', e, q⟩ => by
  unfold mExt at e
  split at e
  · rename_i io0 l0 h0
    split at e
    · rename_i zs σ1 h1
      split at e
      · rename_i io l h2
        split at e
        · rename_i hl
          cases e
          obtain ⟨ov, eo, a, vs, rfl, fa, ha, r⟩ := w.slot i _ h0
          refine ⟨_, eo, .inl ⟨rfl, vs, SqL.of ha⟩, F, σ, w, _, σ1, h1, fun v H1 F1 st1 rv => ?_⟩
          obtain ⟨b, us, rfl, fb, rb⟩ := rv
          obtain ⟨ov', eo', a', vs', e', fa', ha', r'⟩ := st1.w.slot i _ h2
          rw [eo] at eo'; cases eo'; cases e'
          refine ⟨a, b, vs', us, rfl, rfl, ha', st1.w.le _ _ fb, by rw [← r'.length, ← rb.length, ← LIM_eq]; exact hl, ?_⟩
          exact q _ _ F1 (st1.trans (Stp.wr st1.w h2 rfl eo ⟨a, _, rfl, fa', upd_same, DReps.append r' rb⟩ rfl)) rfl
        · cases e
      · cases e
    · cases e
  · cases e
end
end Ev
end

section
set_option Elab.async false
set_option linter.all false
/-! EvG: defs that may be called where no repr is under way. -/
namespace Ev
open PySem PySem.Spec L2
set_option autoImplicit false
/-! ### the code object -/
def CodeIs (K : PySem.W.Frag) (f : Addr) (cdv : Value) : Prop := ∃ (oc : Value) (od : Option Addr) (fd : FuncData) (osl : Array (Option Value)), K.lookup f = some ⟨oc, od, .func fd, osl⟩ ∧ fd.code = cdv
theorem CodeIs.eq {K : PySem.W.Frag} {f : Addr} {c d : Value} (h : CodeIs K f c) (k : CodeIs K f d) : c = d := by
  obtain ⟨_, _, a, _, e, rfl⟩ := h
  obtain ⟨_, _, b, _, e', rfl⟩ := k
  rw [e] at e'; cases e'; rfl
structure RoomG (k : Nat) (A : Around) : Prop extends Room k A where
  gd : A.guards = some []
theorem RoomG.mono' {j k : Nat} {A : Around} (r : RoomG k A) (h : j ≤ k) : RoomG j A := ⟨r.toRoom.mono h, r.gd⟩
structure FnG (P : Program) (w : World) (K : PySem.W.Frag) (mg : Str → Option Value) (base : Heap) (CX : CXT) (k : Nat) (f : Addr) (fd : FuncData) (ps : List Str) (sp : Sp) : Prop where
  len : ∀ vs H Q E, sp vs H Q E → vs.length = ps.length
  run : ∀ (A : Around) (outer : List Env) (s : Shared) (H : Hp) (args : Args) (us : List Value) (vs : List V) (Q : VK) (E : XK), RoomG k A → Env0 P w K mg base A outer s H → BindsTo s fd args (ps.zip us) → Vals vs us → sp vs H Q E →
    codeAny (model P w) A (.call (.ref f) args) (CR CX outer P w H s Q E) s
theorem deeper_gd {A : Around} {env : Env} (h : A.guards = some []) : (A.deeper env).guards = some [] := h
section
variable {P : Program} {w : World} {K : PySem.W.Frag} {mg : Str → Option Value} {base : Heap} {x qual : Str} {params : Arguments} {body : List Stmt} {scope : Scope} {f : Addr} {fd : FuncData} {N ps : List Str} {k n : Nat} {ct : Ct} {m : M Fl}
theorem okG {CX : CXT} {sp : Sp} (F : FunD K x qual params body scope [] [] f fd) (S : FnScope N ps scope) (len : ∀ vs H Q E, sp vs H Q E → vs.length = ps.length)
    (hb : ∀ (cdv : Value) (A : Around) (outer : List Env) (s : Shared) (H : Hp) (vs : List V) (Q : VK) (E : XK), CodeIs K f cdv → RoomG k (A.deeper (PyProof.Rows.envOfC qual scope s.heap.objs.size f cdv)) → sp vs H Q E →
      ∃ t, PSs (cxOf CX P w K mg base N qual scope f cdv A outer s H E) body t ∧ t { nx := fun _ H' => Q .non H', rt := Q } (L2.start N vs) H) : FnG P w K mg base CX (k + 1) f fd ps sp := by
  obtain ⟨oc, od, dV, kV, doc, pm, an, cdv, ct, osl, rfl, lk, hcd, _, _⟩ := F.ex
  exact ⟨len, fun A outer s H args us vs Q E hr e0 hbd r h => LamX.run_ofS lk hcd S hr.toRoom e0 hbd r (len _ _ _ _ h) fun hr' => hb cdv A outer s H vs Q E ⟨_, _, _, _, lk, rfl⟩ ⟨hr', deeper_gd hr.gd⟩ h⟩
theorem fokG (F : FunD K x qual params body scope [] [] f fd) (S : FnScope N ps scope) (hn : ps.length = n)
    (hb : ∀ (cdv : Value) (A : Around) (outer : List Env) (s : Shared) (H : Hp) (E : XK), CodeIs K f cdv → RoomG k (A.deeper (PyProof.Rows.envOfC qual scope s.heap.objs.size f cdv)) → SSs (cxOf CX0 P w K mg base N qual scope f cdv A outer s H E).nox ct body m) :
    FnG P w K mg base CX0 (k + 1) f fd ps (spV K ct n (runV N.length m)) := by
  refine okG F S (fun vs H Q E ⟨_, ds, _, _, _, hl, r, _⟩ => by rw [← r.length, hl, hn]) fun cdv A outer s H vs Q E hc hr h => ⟨_, PSs.nox (hb cdv A outer s H E hc hr), ?_⟩
  obtain ⟨Fz, ds, r, le, tbs, hl, rs, hg, q⟩ := h
  unfold runV at hg
  split at hg
  · rename_i s' σ' h1
    cases hg
    refine ⟨Fz, _, wd_startV le tbs rs, _, _, h1, fun v σV' H' F' st rr => ?_⟩
    exact q v F' H' (stp_grw st fun a => noOwn_startV) st.w.tb (rrep_grep (c := 0) st (fun a o => absurd o noOwn_startV) rr)
  · rename_i σ' h1
    cases hg
    exact ⟨Fz, _, wd_startV le tbs rs, _, _, h1, fun v σV' H' F' st rr => q .non F' H' (stp_grw st fun a => noOwn_startV) st.w.tb rfl⟩
  · cases hg
theorem fokIG (F : FunD K x qual params body scope [] [] f fd) (S : FnScope N ps scope) (hn : ps.length = n)
    (hb : ∀ (cdv : Value) (A : Around) (outer : List Env) (s : Shared) (H : Hp) (E : XK), CodeIs K f cdv → RoomG k (A.deeper (PyProof.Rows.envOfC qual scope s.heap.objs.size f cdv)) → SSs (cxOf CX0 P w K mg base N qual scope f cdv A outer s H E).nox ct body m) :
    FnG P w K mg base CX0 (k + 1) f fd ps (spI K ct n (runI N.length m)) := by
  refine okG F S (fun vs H Q E ⟨_, _, _, ds, _, _, _, e, _, _, _, _, hl, r, _⟩ => by rw [e, List.length_cons, ← r.length, hl, hn]) fun cdv A outer s H vs Q E hc hr h => ⟨_, PSs.nox (hb cdv A outer s H E hc hr), ?_⟩
  obtain ⟨Fz, a, vs', ds, s0, r, r', rfl, le, tbs, ow, r0, hl, rs, hg, q⟩ := h
  have ww := wd_startI (N := N) le tbs ow r0 rs
  have h0 : (startF (s0.setIo true :: ds.map .imm) N.length)[0]? = some (some (s0.setIo true)) := by unfold startF; simp
  have hV0 : (L2.start N (V.ref a :: vs'))[0]? = some (some (.ref a)) := startV_get (vs := .ref a :: vs') rfl
  have fin : ∀ {σ' : Fr} {σV' : St} {F' H' : Hp} {s1 : Ev.S}, Stp K ct Fz H (L2.start N (.ref a :: vs')) (startF (s0.setIo true :: ds.map .imm) N.length) F' H' σV' σ' → σ'[0]? = some (some s1) → s1.own = true →
      GrwX a Fz H F' H' ∧ s1.own = true ∧ SRep K ct F' H' s1 (.ref a) ∧ Own σV' σ' a := fun {σ' σV' F' H' s1} st e1 so => by
    obtain ⟨⟨s2, e2, io2⟩, ev⟩ := st.io 0 _ h0 (setIo_io ow)
    rw [e1] at e2; cases e2
    rw [hV0] at ev
    obtain ⟨v', ev', rr⟩ := st.w.slot 0 _ e1
    rw [ev] at ev'; cases ev'
    have oa : Own σV' σ' a := ⟨0, s1, e1, so, ev⟩
    refine ⟨⟨st.le, st.w.le, fun b o hb h => st.keep b o h fun z => hb (own_startI z), fun _ => st.w.nt, st.there, fun b h => ?_⟩, so, rr, oa⟩
    rcases st.froz b h with z | z | z | z
    · exact .inl z
    · exact .inr (.inl z)
    · exact absurd ((st.w.own oa).1) (by rw [← own_startI z]; exact h)
    · exact .inr (.inr z)
  unfold runI at hg
  split at hg
  · rename_i s' σ' h1
    split at hg
    · rename_i s1 e1
      split at hg
      case isFalse => cases hg
      rename_i so1
      cases hg
      refine ⟨Fz, _, ww, _, _, h1, fun v σV' H' F' st rr => ?_⟩
      obtain ⟨g1, g2, g3, g4⟩ := fin st e1 so1
      exact q v F' H' g1 st.w.tb (rrep_grep (c := a) st (fun b o => ⟨own_startI o, g4⟩) rr) g2 g3
    · cases hg
  · rename_i σ' h1
    split at hg
    · rename_i s1 e1
      split at hg
      case isFalse => cases hg
      rename_i so1
      cases hg
      refine ⟨Fz, _, ww, _, _, h1, fun v σV' H' F' st rr => ?_⟩
      obtain ⟨g1, g2, g3, g4⟩ := fin st e1 so1
      exact q .non F' H' g1 st.w.tb rfl g2 g3
    · cases hg
  · cases hg
end
structure CalG (P : Program) (w : World) (K : PySem.W.Frag) (mg : Str → Option Value) (base : Heap) (ct : Ct) (k : Nat) (x : Str) (n : Nat) (g : List D → Option S) : Prop where
  ex : ∃ (f : Addr) (fd : FuncData) (ps : List Str), FnG P w K mg base CX0 k f fd ps (spV K ct n g) ∧ mg x = some (.ref f) ∧ PySem.W.keepIn K (.ref f) = true ∧ Binds K fd ps []
structure CalIG (P : Program) (w : World) (K : PySem.W.Frag) (mg : Str → Option Value) (base : Heap) (ct : Ct) (k : Nat) (x : Str) (n : Nat) (g : S → List D → Option (S × S)) : Prop where
  ex : ∃ (f : Addr) (fd : FuncData) (ps : List Str), FnG P w K mg base CX0 k f fd ps (spI K ct n g) ∧ mg x = some (.ref f) ∧ PySem.W.keepIn K (.ref f) = true ∧ Binds K fd ps []
section
variable {P : Program} {w : World} {K : PySem.W.Frag} {mg : Str → Option Value} {base : Heap} {x : Str} {params : Arguments} {body : List Stmt} {scope : Scope} {f : Addr} {fd : FuncData} {N ps : List Str} {k n : Nat} {ct : Ct} {m : M Fl}
theorem mkG (F : FunD K x x params body scope [] [] f fd) (hm : mg x = some (.ref f)) (S : FnScope N ps scope) (hn : ps.length = n)
    (b : ∀ (kV doc pm : Value) (an : Option Addr) (cdv ct : Value) (us : List Value), us.length = ps.length → bindArgs (PySem.W.fnOf x x params body scope .none kV doc pm an cdv ct) ⟨us, []⟩ = pure (ps.zip us))
    (hb : ∀ (cdv : Value) (A : Around) (outer : List Env) (s : Shared) (H : Hp) (E : XK), CodeIs K f cdv → RoomG k (A.deeper (PyProof.Rows.envOfC x scope s.heap.objs.size f cdv)) → SSs (cxOf CX0 P w K mg base N x scope f cdv A outer s H E).nox ct body m) :
    CalG P w K mg base ct (k + 1) x n (runV N.length m) := ⟨f, fd, ps, fokG F S hn hb, hm, F.kp, F.bindsN b⟩
theorem mkIG (F : FunD K x x params body scope [] [] f fd) (hm : mg x = some (.ref f)) (S : FnScope N ps scope) (hn : ps.length = n)
    (b : ∀ (kV doc pm : Value) (an : Option Addr) (cdv ct : Value) (us : List Value), us.length = ps.length → bindArgs (PySem.W.fnOf x x params body scope .none kV doc pm an cdv ct) ⟨us, []⟩ = pure (ps.zip us))
    (hb : ∀ (cdv : Value) (A : Around) (outer : List Env) (s : Shared) (H : Hp) (E : XK), CodeIs K f cdv → RoomG k (A.deeper (PyProof.Rows.envOfC x scope s.heap.objs.size f cdv)) → SSs (cxOf CX0 P w K mg base N x scope f cdv A outer s H E).nox ct body m) :
    CalIG P w K mg base ct (k + 1) x n (runI N.length m) := ⟨f, fd, ps, fokIG F S hn hb, hm, F.kp, F.bindsN b⟩
end
section
variable {X : Cx} {ct : Ct} {n k i : Nat} {f : Addr} {fd : FuncData} {ps : List Str} {x : Str} {p pos : Pos} {e : Expr} {es : List Expr} {ms : List (M D)}
theorem pe_callG {sp : Sp} {t : TA} (F : FnG X.prog X.w X.K X.mg X.base CX0 k f fd ps sp) (hr : RoomG k X.A) (hg : Gl X x) (hm : X.mg x = some (.ref f)) (hk : PySem.W.keepIn X.K (.ref f) = true) (hb : Binds X.K fd ps []) (ha : PA X (e :: es) t)
    (hdb : (x == ("__debug__" : Str)) = false := by decide) (he : starEach (e :: es) X.env = (false, eval e X.env) :: starEach es X.env := by rfl) (hpl : (backTo pos (starEach es X.env)).any (·.1) = false := by rfl) :
    PE X (.Call (.Name x p) (e :: es) [] pos) (tCall sp [] (fun _ _ _ => False) t) := by
  constructor
  intro pins s σ H Q I h
  have go : ∀ (us : List Value) (s1 : Shared), (∃ vs H1, Inv X pins σ H1 s1 ∧ Vals vs us ∧ sp (vs ++ []) H1 Q fun _ _ _ => False) → X.K.In s1.heap ∧ wpAny (model X.prog X.w) X.A (call (.ref f) us) (EP X pins σ Q) X.xe s1 := by
    rintro us s1 ⟨vs, H1, J, r, q⟩
    rw [List.append_nil] at q
    have hl : us.length = ps.length := by rw [← r.length]; exact F.len _ _ _ _ q
    have hb' := hb s1 us J.kIn (by rw [List.append_nil]; exact hl)
    rw [List.append_nil] at hb'
    refine ⟨J.kIn, wpAny_call (codeAny_mono (F.run X.A X.stack s1 H1 ⟨us, []⟩ us vs Q _ hr J.env0 hb' r q) ?_)⟩
    rintro (er | fl) s2 hq
    · exact False.elim hq
    · cases fl with
      | ret u => exact J.after hq
      | _ => exact False.elim hq
  exact wpAny_Call_Name_kw (ld_glob I hg hm (PySem.W.callWith_K (h₀ := X.base) I.ok.mod.kin hk (thn (ha.run pos pins s σ H _ I h) go) he hpl) hdb)
theorem sf_callG {g : List D → Option S} (F : FnG X.prog X.w X.K X.mg X.base CX0 k f fd ps (spV X.K ct n g)) (hr : RoomG k X.A) (hg : Gl X x) (hm : X.mg x = some (.ref f)) (hk : PySem.W.keepIn X.K (.ref f) = true) (hb : Binds X.K fd ps []) (ha : SEs X ct (e :: es) ms)
    (hdb : (x == ("__debug__" : Str)) = false := by decide) (he : starEach (e :: es) X.env = (false, eval e X.env) :: starEach es X.env := by rfl) (hpl : (backTo pos (starEach es X.env)).any (·.1) = false := by rfl) : SF X ct (.Call (.Name x p) (e :: es) [] pos) (mCall n g ms) :=
  PEimp (pe_callG F hr hg hm hk hb ha hdb he hpl) fun σV H Q ⟨F, σ, w, s, σ', e, q⟩ => by
  unfold mCall at e
  split at e
  · rename_i ds σ1 h1
    split at e
    · rename_i hl
      split at e
      · rename_i s' hg'
        cases e
        refine tL_ok (F := F) (H := H) w h1 fun vs H1 F1 st rs => ?_
        rw [List.append_nil]
        exact ⟨F1, ds, s, st.w.le, ⟨st.w.tb, st.w.nt⟩, hl, rs, hg', fun v F2 H2 gr tb rv => q v H2 F2 (st.trans (gr.stp st.w tb)) (GRep.fresh0 st rv)⟩
      · cases e
    · cases e
  · cases e
theorem sf_callIG {g : S → List D → Option (S × S)} (F : FnG X.prog X.w X.K X.mg X.base CX0 k f fd ps (spI X.K ct n g)) (hr : RoomG k X.A) (hg : Gl X x) (hm : X.mg x = some (.ref f)) (hk : PySem.W.keepIn X.K (.ref f) = true) (hb : Binds X.K fd ps []) (h0 : PE X e (tVar i)) (ha : SEs X ct es ms)
    (hdb : (x == ("__debug__" : Str)) = false := by decide) (he : starEach (e :: es) X.env = (false, eval e X.env) :: starEach es X.env := by rfl) (hpl : (backTo pos (starEach es X.env)).any (·.1) = false := by rfl) : SF X ct (.Call (.Name x p) (e :: es) [] pos) (mCallI i n g ms) :=
  PEimp (pe_callG F hr hg hm hk hb (pa_cons h0 ha he) hdb he hpl) fun σV H Q ⟨F, σ, w, s, σ', e, q⟩ => by
  unfold mCallI at e
  split at e
  · rename_i s00 h00
    split at e
    · rename_i ds σ1 h1
      split at e
      · rename_i s0 h0'
        split at e
        · rename_i hc
          rw [Bool.and_eq_true, decide_eq_true_eq] at hc
          split at e
          · rename_i s' s1 hg'
            cases e
            obtain ⟨v0, ev0, _⟩ := w.slot i _ h00
            refine ⟨v0, ev0, tL_ok (F := F) (H := H) w h1 fun vs H1 F1 st rs => ?_⟩
            show spI X.K ct n g ((v0 :: vs) ++ []) H1 Q _
            rw [List.append_nil]
            obtain ⟨v1, ev1, r1⟩ := st.w.slot i _ h0'
            rw [ev0] at ev1; cases ev1
            obtain ⟨a, u, rfl, fa, ha', _⟩ := r1.ref hc.1
            refine ⟨F1, a, vs, ds, s0, s, s1, rfl, st.w.le, ⟨st.w.tb, st.w.nt⟩, hc.1, r1, hc.2, rs, hg', fun v F2 H2 gr tb rv so rr => ?_⟩
            have st2 := Stp.wrX (s' := s1.setIo s0.io) st.w h0' hc.1 ev0 gr tb (setIo_rep.mpr rr) (setIo_io so)
            refine q v H2 F2 (st.trans st2) ?_
            have noown : ∀ c, H1 c = none → ¬ Own σV (σ1.set i (some (s1.setIo s0.io))) c := fun c hc1 o => by
              rcases st2.own c o with z | z
              · obtain ⟨_, u, z2, _⟩ := st.w.own z; rw [hc1] at z2; cases z2
              · obtain ⟨_, u, z2, _⟩ := st2.w.own o
                obtain ⟨j, t, ej, to, aj⟩ := o
                rcases set_get ej with ⟨rfl, rfl⟩ | ⟨_, fj⟩
                · rw [ev0] at aj; cases aj; rw [ha'] at hc1; cases hc1
                · obtain ⟨_, u', z3, _⟩ := st.w.own ⟨j, t, fj, to, aj⟩; rw [hc1] at z3; cases z3
            cases s with
            | prv => exact rv.elim
            | imm d => exact rv
            | ls b l => obtain ⟨hb', c, ws, ec, hc1, hc2, hc3, r⟩ := rv; exact ⟨hb', ⟨c, ws, ec, hc2, hc3, r⟩, fun c' ec' => by rw [ec] at ec'; cases ec'; exact ⟨noown c hc1, .inl (st.there c hc1)⟩⟩
            | ds b t l => obtain ⟨hb', c, ws, ec, hc1, hc2, hc3, r⟩ := rv; exact ⟨hb', ⟨c, ws, ec, hc2, hc3, r⟩, fun c' ec' => by rw [ec] at ec'; cases ec'; exact ⟨noown c hc1, .inl (st.there c hc1)⟩⟩
          · cases e
        · cases e
      · cases e
    · cases e
  · cases e
end
section
variable {X : Cx} {ct : Ct} {n k j i : Nat} {x : Str} {p pos : Pos} {e : Expr} {es : List Expr} {ms : List (M D)}
theorem sf_clG {g : List D → Option S} (C : CalG X.prog X.w X.K X.mg X.base ct k x n g) (hr : RoomG j X.A) (hj : k ≤ j) (hg : Gl X x) (ha : SEs X ct (e :: es) ms)
    (hdb : (x == ("__debug__" : Str)) = false := by decide) (he : starEach (e :: es) X.env = (false, eval e X.env) :: starEach es X.env := by rfl) (hpl : (backTo pos (starEach es X.env)).any (·.1) = false := by rfl) : SF X ct (.Call (.Name x p) (e :: es) [] pos) (mCall n g ms) := by
  obtain ⟨f, fd, ps, h1, h2, h3, h4⟩ := C.ex
  exact sf_callG h1 (hr.mono' hj) hg h2 h3 h4 ha hdb he hpl
theorem sf_clIG {g : S → List D → Option (S × S)} (C : CalIG X.prog X.w X.K X.mg X.base ct k x n g) (hr : RoomG j X.A) (hj : k ≤ j) (hg : Gl X x) (h0 : PE X e (tVar i)) (ha : SEs X ct es ms)
    (hdb : (x == ("__debug__" : Str)) = false := by decide) (he : starEach (e :: es) X.env = (false, eval e X.env) :: starEach es X.env := by rfl) (hpl : (backTo pos (starEach es X.env)).any (·.1) = false := by rfl) : SF X ct (.Call (.Name x p) (e :: es) [] pos) (mCallI i n g ms) := by
  obtain ⟨f, fd, ps, h1, h2, h3, h4⟩ := C.ex
  exact sf_callIG h1 (hr.mono' hj) hg h2 h3 h4 h0 ha hdb he hpl
end
end Ev
end

section
set_option Elab.async false
set_option linter.all false
/-! EvRp: repr of deep things. -/
namespace Ev
open PySem PySem.Spec L2
set_option autoImplicit false
mutual
theorem noDict_of : ∀ d : D, d.pl = true → d.toP.hasDict = false
  | .non, _ => rfl
  | .bl _, _ => rfl
  | .int _, _ => rfl
  | .str _, _ => rfl
  | .tup _ l, h => noDicts_of l h
  | .lst l, h => noDicts_of l h
  | .dct _ _, h => by cases h
  | .ins _ _, h => by cases h
  | .scr _, h => by cases h
  | .adr, h => by cases h
theorem noDicts_of : ∀ l : List D, D.pls l = true → PyData.hasDictAll (D.toPs l) = false
  | [], _ => rfl
  | d :: l, h => by
    have h' : (d.pl && D.pls l) = true := h
    rw [Bool.and_eq_true] at h'
    simp only [D.toPs, PyData.hasDictAll, noDict_of d h'.1, noDicts_of l h'.2, Bool.or_self]
end
def okRp (d : D) : Bool := d.pl && d.toP.showable && decide (d.dp ≤ 100) && decide (d.toP.shown.length ≤ LIM)
def fRepr (d : D) : Option S := if okRp d = true then some (.imm (.str d.toP.shown)) else none
section
variable {X : Cx} {ct : Ct}
def rRepr (K : PySem.W.Frag) : List V → Hp → VK → Prop := fun xs H Q => ∃ x d, xs = [x] ∧ Dp K H x d ∧ d.showable = true ∧ d.hasDict = false ∧ d.depth ≤ 100 ∧ d.shown.length ≤ sizeLine ∧ Q (.str d.shown) H
theorem cr_repr (hg : X.A.guards = some []) (hu : X.A.units + 120 < cLine) : CallR X (.builtin "repr") (rRepr X.K) := by
  intro pins s σ H xs us Q I r h
  obtain ⟨x, d, rfl, hd, hs, hn, hdp, hz, q⟩ := h
  obtain ⟨u, rfl, ru⟩ := r.one
  obtain ⟨as, rd⟩ := Dp.reads I d x u hd ru
  cases d with
  | none => cases rd; exact PySem.P.repr_of_none ⟨.str "None", H, I.tok _, ⟨_, rfl⟩, q⟩
  | bool b => cases rd; exact PySem.P.repr_of_bool ⟨.str (if b then "True" else "False"), H, I.tok _, ⟨_, rfl⟩, q⟩
  | int i => cases rd; exact PySem.P.repr_of_int (of_decide_eq_true hs) ⟨.str (toString i), H, I.tok _, ⟨_, rfl⟩, q⟩
  | str y => cases rd; exact PySem.P.repr_of_str ⟨.str (reprText y), H, I.tok _, ⟨_, rfl⟩, q⟩ hz
  | list ds =>
    cases hd with
    | lst _ _ =>
      obtain rfl := ru
      exact repr_of_reads' rd hs (fun z => by rw [hn] at z; cases z) hg (by omega) (fun _ _ e => e) (fun h' t tk ex => ⟨.str _, H, I.kept ex, ⟨t, rfl⟩, q⟩) hz
  | tuple ds =>
    cases hd <;> (obtain rfl := ru; exact repr_of_reads' rd hs (fun z => by rw [hn] at z; cases z) hg (by omega) (fun _ _ e => e) (fun h' t tk ex => ⟨.str _, H, I.kept ex, ⟨t, rfl⟩, q⟩) hz)
  | dict _ => cases hn
theorem k_repr : UnOk X ct (fun x H Q => rRepr X.K [x] H Q) fRepr := fun F H d c x Q le hf rx q => by
  unfold fRepr okRp at hf
  split at hf
  · rename_i h
    simp only [Bool.and_eq_true, decide_eq_true_eq] at h
    obtain ⟨⟨⟨h1, h2⟩, h3⟩, h4⟩ := h
    cases hf
    exact ⟨x, d.toP, rfl, vdp le h1 rx, h2, noDict_of d h1, (by rw [dp_eq d h1]; exact h3), (by rw [← LIM_eq]; exact h4), q _ F H (Grw.refl le) rfl⟩
  · cases hf
/-- two texts -/
def fEqS : D → D → Option S
  | .str x, .str y => some (.imm (.bl (decide (x = y))))
  | _, _ => none
theorem k_eqS : OpOk X ct rEq fEqS := fun F H d e c x y Q le hf rx ry q => by
  unfold fEqS at hf
  split at hf
  · rename_i s t
    cases hf
    cases (show x = .str s from rx)
    cases (show y = .str t from ry)
    refine ⟨rfl, q _ F H (Grw.refl le) ?_⟩
    show V.bl _ = V.bl _
    congr 1
    exact decide_eq_decide.mpr ⟨fun e => by cases e; rfl, fun e => by rw [e]⟩
  · cases hf
end
end Ev
end

section
set_option Elab.async false
set_option linter.all false
/-! EvH: raising statements in a row; defs whose code object is known; wide products. -/
namespace Ev
open PySem PySem.Spec PyProof.Rows L2
set_option autoImplicit false
/-! ### raising, one behind another -/
def xNil : MX := fun _ => none
def xAlt (m : MX) (n : M Fl) (k : MX) : MX := fun σ => match m σ with
  | some r => some r
  | none => (match n σ with
    | some (.nx, σ') => k σ'
    | _ => none)
theorem PS.or {X : Cx} {st : Stmt} {t u : TS} (h : PS X st t) (k : PS X st u) : PS X st (fun D σ H => t D σ H ∨ u D σ H) := ⟨fun pins s σ H D I q => q.elim (h.run pins s σ H D I) (k.run pins s σ H D I)⟩
theorem PSs.or {X : Cx} {st : List Stmt} {t u : TS} (h : PSs X st t) (k : PSs X st u) : PSs X st (fun D σ H => t D σ H ∨ u D σ H) := ⟨fun pins s σ H D I q => q.elim (h.run pins s σ H D I) (k.run pins s σ H D I)⟩
section
variable {X : Cx} {ct : Ct} {cv : Nat → Value} {E : XK} {st : Stmt} {rest l : List Stmt}
theorem xss_nil : XSs X ct cv E l xNil := PSsimp never fun _ _ _ ⟨_, _, _, _, _, e, _⟩ => by cases e
theorem xss_alt {m : MX} {n : M Fl} {k : MX} (h : XS X ct cv E st m) (hn : SS X ct st n) (hk : XSs X ct cv E rest k) : XSs X ct cv E (st :: rest) (xAlt m n k) :=
  PSsimp (PSs.or (xss_first (rest := rest) h) (xss_then hn hk)) fun D σV H ⟨F, σ, w, c, σ', e, q⟩ => by
  unfold xAlt at e
  split at e
  · rename_i r hr
    cases e
    exact .inl ⟨F, σ, w, c, σ', hr, q⟩
  · rename_i hr
    refine .inr ⟨F, σ, w, c, σ', ?_, q⟩
    unfold xThen
    exact e
end
/-! ### wide products -/
def fMulW (d e : D) : Option S := match d, e with
  | .int i, .int j => if (cMul i j || decide (i.natAbs.log2 + j.natAbs.log2 < 1000000)) = true then some (.imm (.int (i * j))) else none
  | .lst l, .int k => fMul (.lst l) (.int k)
  | _, _ => none
end Ev
end

section
set_option Elab.async false
set_option linter.all false
/-! EvHb: wide products; guarded defs that hold lambdas. -/
namespace Ev
open PySem PySem.Spec L2
set_option autoImplicit false
abbrev rMulW : R2 := fun x y H Q => rMulAny x y H Q ∨ rI CMulW (fun i j => .int (i * j)) x y H Q
section
variable {X : Cx} {ct : Ct}
theorem op_mulWA : OpR X (binaryOp .Mult) rMulW := OpR.or op_mulAny op_mulW
theorem k_mulW : OpOk X ct rMulW fMulW := fun F H d e c x y Q le hf rx ry q => by
  unfold fMulW at hf
  split at hf
  · rename_i i j
    split at hf
    · rename_i h
      cases hf
      rcases Bool.or_eq_true_iff.mp h with h | h
      · exact .inl (.inl ⟨i, j, rx, ry, cMul_ok i j h, q _ F H (Grw.refl le) rfl⟩)
      · exact .inr ⟨i, j, rx, ry, (show CMulW i j from of_decide_eq_true (p := i.natAbs.log2 + j.natAbs.log2 < 1000000) h), q _ F H (Grw.refl le) rfl⟩
    · cases hf
  · rename_i l k
    exact .inl (k_mulA F H (.lst l) (.int k) c x y Q le hf rx ry q)
  · cases hf
/-! ### f(a, b), f a built-in of two -/
end
end Ev
end

section
set_option Elab.async false
set_option linter.all false
/-! EvHc: what is known of the errors of a law; the word-telling def; its calls. -/
namespace Ev
open PySem PySem.Spec PyProof.Rows L2 LamX
set_option autoImplicit false
/-- names: the classes told apart, ea: where they stand; CS: the class that all are of -/
structure ErrF (K : PySem.W.Frag) (mg : Str → Option Value) (ea : Nat → Addr) (CS : Addr) (top : Str) (names : List Str) : Prop where
  er : ∀ i x, names[i]? = some x → ErC K mg x (ea i)
  ec : ∀ i, i < names.length → ExcC K (ea i)
  kit : ∀ i j, i < names.length → j < names.length → PySem.W.kitOne K (.ref (ea i)) (.ref (ea j)) = some (i == j)
  kv : ∀ i, i < names.length → PySem.W.kitOne K (.ref (ea i)) (.type "ValueError") = some true
  cs : mg top = some (.ref CS)
  ex : ∀ i, i < names.length → PySem.W.exmOne K (.ref (ea i)) (.ref CS) = some true
abbrev evs (ea : Nat → Addr) : Nat → Value := fun i => .ref (ea i)
theorem room5 {k : Nat} {A : Around} (r : Room k A) : A.units + 5 < cLine := by have := r.un; omega
theorem room120 {k : Nat} {A : Around} (r : Room k A) : A.units + 120 < cLine := by have := r.un; omega
section
variable {P : Program} {w : World} {K : PySem.W.Frag} {mg : Str → Option Value} {base : Heap} {x a : Str} {params : Arguments} {body : List Stmt} {scope : Scope} {f : Addr} {fd : FuncData} {N : List Str} {k n : Nat} {ct : Ct} {cv : Nat → Value} {wd : Nat → Str}
theorem mkWd (F : FunD K x x params body scope [] [] f fd) (hm : mg x = some (.ref f)) (S : FnScope N [a] scope)
    (b : ∀ (kV doc pm : Value) (an : Option Addr) (cdv ct : Value) (us : List Value), us.length = [a].length → bindArgs (PySem.W.fnOf x x params body scope .none kV doc pm an cdv ct) ⟨us, []⟩ = pure ([a].zip us))
    (h0 : N[0]? = some a) (hv : Vis scope a) (d1 : (a == ("__debug__" : Str)) = false) (d2 : (a == ("__classdict__" : Str)) = false)
    (hG : ∀ (cdv : Value) (X : Cx) (q : Str), X.prog = P → X.w = w → X.K = K → X.mg = mg → X.base = base → Room (k + 1) X.A → GivesTo X N x scope f cdv body a q (TWord ct cv n wd)) :
    CalW P w K mg base ct cv n wd (k + 1) x := by
  have hb := F.bindsN b
  have hk := F.kp
  obtain ⟨oc, od, dV, kV, doc, pm, an, cdv, ctv, osl, rfl, lk, hcd, _, _⟩ := F.ex
  exact ⟨f, oc, od, params, body, scope, dV, kV, doc, pm, an, cdv, ctv, osl, N, a, hm, hk, lk, hcd, hb, S, h0, hv, d1, d2, fun X q e1 e2 e3 e4 e5 hr => hG cdv X q e1 e2 e3 e4 e5 hr⟩
end
section
variable {X : Cx} {ct : Ct} {ea : Nat → Addr} {n na : Nat} {wd : Nat → Str} {x y : Str} {k k1 k2 j : Nat} {c Pt : Addr} {ps : Arguments} {sc : Scope} {p lp pos p2 pos2 : Pos} {m : M S} {bd : Expr} {mx : MX}
/-- the lambda's body: told, or it raises -/
theorem tout {A : Around} {outer : List Env} {s : Shared} {H : Hp} {E : XK} {f c' : Addr} {g : List D → Option Nat} {e : Expr} {es : List Expr} {ms : List (M D)}
    (h : SF (lamCx X A outer s H E sc f c') ct (.Call (.Name y p2) (e :: es) [] pos2) m) (C : CalX X.prog X.w X.K X.mg X.base ct (evs ea) k1 y na g)
    (hr : Room j (A.deeper (lamEnv X sc s.heap.objs.size f c'))) (hj : k1 ≤ j) (hg : Gl (lamCx X A outer s H E sc f c') y) (ha : SEs (lamCx X A outer s H E sc f c') ct (e :: es) ms)
    (hdb : (y == ("__debug__" : Str)) = false := by decide) (he : starEach (e :: es) (lamCx X A outer s H E sc f c').env = (false, eval e (lamCx X A outer s H E sc f c').env) :: starEach es (lamCx X A outer s H E sc f c').env := by rfl) (hpl : (backTo pos2 (starEach es (lamCx X A outer s H E sc f c').env)).any (·.1) = false := by rfl) :
    PE (lamCx X A outer s H E sc f c') (.Call (.Name y p2) (e :: es) [] pos2) (tOut X ct (evs ea) m (xCall na g ms) E) :=
  PE.or h (pe_x C hr hj hg (L2.passes_call (L2.takes_of rfl rfl rfl rfl) fun _ _ _ _ h => h) ha hdb he hpl)
end
end Ev
end

section
set_option Elab.async false
set_option linter.all false
/-! EvDt: dict(pairs) whose keys are tuples. -/
namespace Ev
open PySem PySem.Spec PyProof.Rows L2
set_option autoImplicit false
def mergeT (kvs more : List (List Key × V)) : List (List Key × V) := more.foldl (fun acc kv => putK acc kv.1 kv.2) kvs
/-- the pair at p: its key stands at q -/
def PrT (K : PySem.W.Frag) (H : Hp) (p : Addr) (kv : List Key × V) : Prop := ∃ q, H q = some (.tup (kv.1.map kV)) ∧ SqT K H p [.ref q, kv.2]
section
variable {X : Cx}
theorem pairs_ofT {pins : List (Addr × Obj)} {σ : L2.St} {H : Hp} {s : Shared} (I : Inv X pins σ H s) : ∀ {ps : List Addr} {kvs : List (List Key × V)}, Paired (PrT X.K H) ps kvs →
    ∃ (prs : List (List Key × Addr × Value)) (vps : List (Value × Value)), Paired (fun (a : List Key × V) (b : List Key × Addr × Value) => a.1 = b.1 ∧ H b.2.1 = some (.tup (a.1.map kV)) ∧ RelV a.2 b.2.2) kvs prs ∧ prs.length = ps.length ∧ vps.length = ps.length ∧
      ∀ (j : Nat) (u v : Value), vps[j]? = some (u, v) → ∃ (b q : Addr) (k : List Key), ps[j]? = some b ∧ prs[j]? = some (k, q, v) ∧ u = .ref q ∧ IsTup s.heap b #[u, v]
  | _, _, .nil => ⟨[], [], .nil, rfl, rfl, fun j u v e => by simp at e⟩
  | _, _, .cons (a := p) (b := kv) ⟨q, hq, h⟩ t => by
    obtain ⟨prs, vps, r, hl, hl2, hp⟩ := pairs_ofT I t
    obtain ⟨its, rv, ht, _⟩ := I.tuple h
    obtain ⟨u, y, ei, ru, ry⟩ := vals2 rv
    subst ei
    obtain rfl : u = .ref q := ru
    refine ⟨(kv.1, q, y) :: prs, (.ref q, y) :: vps, .cons ⟨rfl, hq, ry⟩ r, by rw [List.length_cons, List.length_cons, hl], by rw [List.length_cons, List.length_cons, hl2], fun j u' v' e => ?_⟩
    cases j with
    | zero =>
      cases e
      exact ⟨p, q, kv.1, rfl, rfl, rfl, ht⟩
    | succ j =>
      obtain ⟨b, q', k, e1, e2, e3, e4⟩ := hp j u' v' (by simpa using e)
      exact ⟨b, q', k, by simpa using e1, by simpa using e2, e3, e4⟩
theorem merge_KT {H : Hp} : ∀ {kvs : List (List Key × V)} {prs : List (List Key × Addr × Value)} {acc : List (List Key × V)} {xs : List (List Key × Addr × Value)},
    Paired (fun (a : List Key × V) (b : List Key × Addr × Value) => a.1 = b.1 ∧ H b.2.1 = some (.tup (a.1.map kV)) ∧ RelV a.2 b.2.2) kvs prs → KT H acc xs → KT H (mergeT acc kvs) (storedAllH xs prs)
  | _, _, _, _, .nil, r => r
  | _, _, acc, xs, .cons (a := a) (b := b) ⟨e, h, rv⟩ t, r => by
    have r2 := r.put a.1 h rv
    show KT H (mergeT (putK acc a.1 a.2) _) (storedAllH (storedH xs b.1 b.2.1 b.2.2) _)
    rw [← e]
    exact merge_KT t r2
theorem length_mergeT : ∀ (more kvs : List (List Key × V)), (mergeT kvs more).length ≤ kvs.length + more.length
  | [], kvs => Nat.le_refl _
  | p :: more, kvs => by
    have h1 := length_mergeT more (putK kvs p.1 p.2)
    have h2 := length_putK kvs p.1 p.2
    show (mergeT (putK kvs p.1 p.2) more).length ≤ _
    rw [List.length_cons]
    omega
def rDictT (K : PySem.W.Frag) : List V → Hp → VK → Prop := fun xs H Q => ∃ (a : Addr) (od : Obj) (ps : List Addr) (kvs : List (List Key × V)), xs = [.ref a] ∧ H a = some (.frz od (.tup (ps.map V.ref))) ∧ od.dict = none ∧ Paired (PrT K H) ps kvs ∧
    ∀ p, H p = none → Q (.ref p) (upd H p (.dT (mergeT [] kvs)))
theorem call_dictTT (hcalm : X.calm = true) (hu : X.A.units + 5 < cLine) : CallR X (.type "dict") (rDictT X.K) := by
  intro pins s σ H xs us Q I r h
  obtain ⟨a, od, ps, kvs, rfl, ha, hod, hp, q⟩ := h
  obtain rfl := Vals.ref1 r
  obtain ⟨hg, hz, its, rv, o', ho', hc, n, hdat⟩ := I.hok a _ ha
  rw [hg] at ho'; cases ho'
  have ei := refs_at rv
  subst ei
  obtain ⟨prs, vps, rel, hl, hl2, hpr⟩ := pairs_ofT I hp
  rw [List.length_map] at hz
  have keys : ∀ {l : List (List Key × V)} {m : List (List Key × Addr × Value)}, Paired (fun (a : List Key × V) (b : List Key × Addr × Value) => a.1 = b.1 ∧ H b.2.1 = some (.tup (a.1.map kV)) ∧ RelV a.2 b.2.2) l m → ∀ x ∈ m, (tupleKind (mixKind X.prog X.w)).is s.heap x.1 x.2.1 := by
    intro l m q
    induction q with
    | nil => intro x hx; exact nomatch hx
    | @cons p q ps qs hq t ih =>
      intro x hx
      rcases List.mem_cons.mp hx with e | hx
      · subst e
        exact key_of I.hok (by rw [← hq.1]; exact hq.2.1)
      · exact ih x hx
  refine PySem.call_dict_pairsH (knd := tupleKind (mixKind X.prog X.w)) (ps := prs) (PairArg.tuple a (ps.map Value.ref).toArray (fun j => ps.getD j 0) vps) (I.ok.hd hcalm) (show X.A.units + 1 + 1 < cLine by omega) ⟨⟨od, n, hg, hc, hod, hdat⟩, by simp [hl2], fun j u v e => ?_⟩ ⟨by rw [hl, hl2], fun j u v e => ?_⟩ (fun h' hk x hx => ?_) (by rw [hl2]; exact hz) fun h' tk hd' kp => ?_
  · obtain ⟨b, q', k, e1, e2, e3, e4⟩ := hpr j u v e
    refine ⟨by simp [e1], ?_⟩
    obtain ⟨o2, h1, h2, n2, h3⟩ := e4
    have eb : ps.getD j 0 = b := by simp [List.getD, e1]
    show PairAt s.heap (ps.getD j 0) u v
    rw [eb]
    exact .inl ⟨o2, h1, h2, n2, h3⟩
  · obtain ⟨b, q', k, e1, e2, e3, e4⟩ := hpr j u v e
    exact ⟨k, q', e2, e3⟩
  · obtain ⟨o, items, m, h1, h2⟩ := keys rel x hx
    exact ⟨o, items, m, hk _ o (Nat.ne_of_lt (Heap.lt_size h1)) (by simp) h1, h2⟩
  · have hm : (s.heap.objs.size == sysModules) = false := beq_eq_false_iff_ne.mpr (Nat.ne_of_gt I.big)
    have hlen : (mergeT [] kvs).length ≤ sizeLine := by
      refine Nat.le_trans (length_mergeT kvs []) ?_
      rw [List.length_nil, Nat.zero_add, Paired.length rel, hl]
      exact hz
    obtain ⟨o, es, ep, hq, h2, h3, h4, _, h5⟩ := hd'
    have new := I.hok.fresh (Nat.le_refl s.heap.objs.size)
    exact ⟨.ref s.heap.objs.size, upd H s.heap.objs.size (.dT (mergeT [] kvs)), I.laid (t' := tk) (fun b ob e => kp b ob (by simp) e) (Nat.le_refl _)
      (show ObjOk X.prog X.w _ _ _ (.dT (mergeT [] kvs)) from ⟨hlen, hm, storedAllH [] prs, (merge_KT rel (.nil : KT H [] [])).keeps (fun b ys e => by rw [upd_ne (ne_of_none e new)]; exact e), o, es, ep, hq, h2, h3, h4, h5⟩), rfl, q _ new⟩
end
/-! ### as mirrors -/
def dPairsT : List D → Option (List (D × D))
  | [] => some []
  | .tup _ [k, v] :: l => if keyOk true k = true then (match dPairsT l with
    | some ps => some ((k, v) :: ps)
    | none => none) else none
  | _ :: _ => none
theorem pairs_repT {K ct} {F H : Hp} (le : Le F H) : ∀ {l : List D} {ps : List (D × D)} {vs : List V}, dPairsT l = some ps → DReps K ct F l vs → ∃ (as : List Addr) (kvs : List (List Key × V)), vs = as.map V.ref ∧ Paired (PrT K H) as kvs ∧ GKv K ct F kT ps kvs
  | [], _, _, h, r => by cases h; exact ⟨[], [], r, .nil, rfl⟩
  | d :: l, ps, _, h, ⟨v, t, e, r, q⟩ => by
    unfold dPairsT at h
    split at h
    · rename_i h0; cases h0
    · rename_i kb k x l' h0
      cases h0
      split at h
      · rename_i hk
        split at h
        · rename_i ps' h1
          cases h
          obtain ⟨as, kvs, e2, pr, g⟩ := pairs_repT le h1 q
          obtain ⟨ks, rfl⟩ := keyT_of hk
          obtain ⟨a, us, rfl, ha, ⟨kv, t1, rfl, rk, xv, t2, rfl, rx, rfl⟩⟩ := r
          obtain ⟨b, rfl, hb⟩ := keyT_rep rk
          exact ⟨a :: as, (ks, xv) :: kvs, by rw [e, e2]; rfl, .cons ⟨b, le _ _ hb, le.sqt ha.sqt⟩ pr, ks, xv, kvs, rfl, rfl, rx, g⟩
        · cases h
      · cases h
    · cases h
theorem fold_GT {K ct} {F : Hp} : ∀ {ps : List (D × D)} {kvs : List (List Key × V)} {acc : List (D × D)} {av : List (List Key × V)}, GKv K ct F kT ps kvs → GKv K ct F kT acc av → GKv K ct F kT (ps.foldl (fun acc p => dPut acc p.1 p.2) acc) (mergeT av kvs)
  | [], _, _, _, r, g => by rw [show _ = [] from r]; exact g
  | (k, d) :: ps, _, acc, av, ⟨x, v, t, e, hk, rv, q⟩, g => by
    subst e hk
    exact fold_GT (acc := dPut acc (kT x) d) (av := putK av x v) q (put_G eqv_keys rv g)
def fDictT : D → Option S
  | .tup true l => (match dPairsT l with
    | some ps => some (.ds false true (dOf ps))
    | none => none)
  | _ => none
theorem k_dictT {X : Cx} {ct : Ct} : UnOk X ct (fun x H Q => rDictT X.K [x] H Q) fDictT := fun F H d c x Q le hf rx q => by
  unfold fDictT at hf
  split at hf
  · split at hf
    · rename_i l _ ps h1
      cases hf
      obtain ⟨a, vs, rfl, ⟨od, ha, ho⟩, r⟩ := rx
      obtain ⟨as, kvs, rfl, pr, g⟩ := pairs_repT le h1 r
      exact ⟨a, od, as, kvs, rfl, le _ _ ha, ho, pr, fun p hp => q _ F _ (Grw.lay le hp) ⟨rfl, p, _, rfl, hp, le.none hp, upd_same, .inr ⟨rfl, _, rfl, gkv_T.mpr (fold_GT (acc := []) g rfl)⟩⟩⟩
    · cases hf
  · cases hf
end Ev
end

section
set_option Elab.async false
set_option linter.all false
/-! EvPr: a, b = x, y where x, y may be new lists. -/
namespace Ev
open PySem PySem.Spec L2
set_option autoImplicit false
section
variable {K : PySem.W.Frag} {ct : Ct} {F H F1 H1 F2 H2 F' H' : Hp} {σV σV' : St} {σ σ1 σ2 σ' : Fr}
theorem RRep.addr : ∀ {s : S} {v : V}, RRep K ct H σV σ F' H' σV' σ' s v → s.own = true → ∀ a, v = .ref a → ¬ Own σV' σ' a ∧ (H a = none ∨ Own σV σ a)
  | .imm _, _, _, o => by cases o
  | .ls _ _, _, r, _ => r.2.2
  | .ds _ _ _, _, r, _ => r.2.2
theorem RRep.srep : ∀ {s : S} {v : V}, RRep K ct H σV σ F' H' σV' σ' s v → SRep K ct F' H' s v
  | .imm _, _, r => r
  | .ls _ _, _, r => r.2.1
  | .ds _ _ _, _, r => r.2.1
  | .prv, _, r => r.2.1
theorem Stp.setR (st : Stp K ct F H σV σ F' H' σV' σ') {i : Nat} {s : S} {v : V} (r : RRep K ct H σV σ F' H' σV' σ' s v) (h : okSet σ' i = true) : Stp K ct F H σV σ F' H' (σV'.set i (some v)) (σ'.set i (some s)) where
  w := by
    have hi := okSet_lt h
    have hv : i < σV'.length := Nat.lt_of_lt_of_le hi st.w.ln
    have sv : (σV'.set i (some v))[i]? = some (some v) := by rw [List.getElem?_set_self hv]
    have nv : ∀ j, j ≠ i → (σV'.set i (some v))[j]? = σV'[j]? := fun j hj => by rw [List.getElem?_set_ne (Ne.symm hj)]
    refine ⟨st.w.le, fun j t e => ?_, fun j k t t' a ej ek to to' aj ak => ?_, by simp; exact st.w.ln, st.w.tb, st.w.nt⟩
    · rcases set_get e with ⟨rfl, rfl⟩ | ⟨hj, e⟩
      · exact ⟨v, sv, r.srep⟩
      · obtain ⟨u, e1, q⟩ := st.w.slot j t e
        exact ⟨u, by rw [nv j hj]; exact e1, q⟩
    · rcases set_get ej with ⟨rfl, rfl⟩ | ⟨hj, fj⟩
      · rcases set_get ek with ⟨rfl, rfl⟩ | ⟨hk, fk⟩
        · rfl
        · rw [sv] at aj; cases aj
          rw [nv k hk] at ak
          exact absurd ⟨k, t', fk, to', ak⟩ (r.addr to a rfl).1
      · rcases set_get ek with ⟨rfl, rfl⟩ | ⟨hk, fk⟩
        · rw [sv] at ak; cases ak
          rw [nv j hj] at aj
          exact absurd ⟨j, t, fj, to, aj⟩ (r.addr to' a rfl).1
        · rw [nv j hj] at aj
          rw [nv k hk] at ak
          exact st.w.dis j k t t' a fj fk to to' aj ak
  le := st.le
  keep := st.keep
  there := st.there
  froz := st.froz
  own := fun a ⟨j, t, ej, to, aj⟩ => by
    rcases set_get ej with ⟨rfl, rfl⟩ | ⟨hj, ej⟩
    · rw [List.getElem?_set_self (Nat.lt_of_lt_of_le (okSet_lt h) st.w.ln)] at aj; cases aj
      exact (r.addr to a rfl).2.symm
    · rw [List.getElem?_set_ne (Ne.symm hj)] at aj
      exact st.own a ⟨j, t, ej, to, aj⟩
  io := fun j t ej tio => by
    obtain ⟨⟨t', e', o'⟩, ev⟩ := st.io j t ej tio
    have hj : j ≠ i := fun z => by subst z; rw [okSet_io h t' e'] at o'; cases o'
    exact ⟨⟨t', by rw [List.getElem?_set_ne (Ne.symm hj)]; exact e', o'⟩, by rw [List.getElem?_set_ne (Ne.symm hj)]; exact ev⟩
  len := by simp; exact st.len
/-- a fresh thing stays so -/
theorem FRep.later (st : Stp K ct F1 H1 σV σ1 F2 H2 σV σ2) : ∀ {s : S} {v : V}, FRep K ct H σV σ F1 H1 σ1 s v → FRep K ct H σV σ F2 H2 σ2 s v
  | .imm d, v, r => DRep.mono st.le d v r
  | .prv, _, ⟨h, r, k⟩ => ⟨h, r, fun a e => ⟨fun o => (by cases h), (k a e).2⟩⟩
  | .ls b l, _, ⟨hb, ⟨a, vs, e, f, h, r⟩, k⟩ => by
    subst e
    obtain ⟨k1, k2⟩ := k a rfl
    have h2 : H2 a = some (.lst vs) := (st.keep a _ h k1).eq (by intro _ z; cases z)
    have f2 : F2 a = none := by
      cases q : F2 a with
      | none => rfl
      | some o =>
        rcases st.froz a (by rw [q]; simp) with z | z | z | ⟨xs, z⟩
        · exact absurd f z
        · rw [h] at z; cases z
        · exact absurd z k1
        · rw [h] at z; cases z
    refine ⟨hb, ⟨a, vs, rfl, f2, h2, DReps.mono st.le _ _ r⟩, fun c ec => ?_⟩
    cases ec
    refine ⟨fun o => ?_, k2⟩
    rcases st.own a o with z | z
    · exact k1 z
    · rw [h] at z; cases z
  | .ds b t l, _, ⟨hb, ⟨a, u, e, f, h, r⟩, k⟩ => by
    subst e
    obtain ⟨k1, k2⟩ := k a rfl
    have nt := r.notup
    have h2 : H2 a = some u := (st.keep a _ h k1).eq nt.2.1
    have f2 : F2 a = none := by
      cases q : F2 a with
      | none => rfl
      | some o =>
        rcases st.froz a (by rw [q]; simp) with z | z | z | ⟨xs, z⟩
        · exact absurd f z
        · rw [h] at z; cases z
        · exact absurd z k1
        · rw [h] at z; cases z; exact absurd rfl (nt.1 xs)
    refine ⟨hb, ⟨a, u, rfl, f2, h2, r.mono st.le⟩, fun c ec => ?_⟩
    cases ec
    refine ⟨fun o => ?_, k2⟩
    rcases st.own a o with z | z
    · exact k1 z
    · rw [h] at z; cases z
/-- the second of two fresh things, the first one being set -/
theorem FRep.second {i : Nat} {s : S} {v : V} (i1 : i < σV.length) (st : Stp K ct F H σV σ F1 H1 σV σ1) (rs : FRep K ct H σV σ F1 H1 σ1 s v) : ∀ {t : S} {u : V}, FRep K ct H1 σV σ1 F2 H2 σ2 t u → RRep K ct H σV σ F2 H2 (σV.set i (some v)) (σ2.set i (some s)) t u := by
  have key : ∀ b, (¬ Own σV σ2 b ∧ (H1 b = none ∨ Own σV σ1 b)) → ¬ Own (σV.set i (some v)) (σ2.set i (some s)) b ∧ (H b = none ∨ Own σV σ b) := by
    rintro b ⟨n, o⟩
    refine ⟨fun ⟨j, t, ej, to, aj⟩ => ?_, ?_⟩
    · rcases set_get ej with ⟨rfl, rfl⟩ | ⟨hj, ej⟩
      · rw [List.getElem?_set_self i1] at aj; cases aj
        obtain ⟨k1, k2⟩ := rs.addr to b rfl
        obtain ⟨c, w, e, _, h, _⟩ := rs.srep.ref to
        cases e
        rcases o with o | o
        · rw [h] at o; cases o
        · exact k1 o
      · rw [List.getElem?_set_ne (Ne.symm hj)] at aj
        exact n ⟨j, t, ej, to, aj⟩
    · rcases o with o | o
      · exact .inl (st.there b o)
      · exact (st.own b o).symm
  intro t u r
  cases t with
  | imm d => exact r
  | prv => exact ⟨r.1, r.2.1, fun a e => key a (r.2.2 a e)⟩
  | ls b l => exact ⟨r.1, r.2.1, fun a e => key a (r.2.2 a e)⟩
  | ds b t l => exact ⟨r.1, r.2.1, fun a e => key a (r.2.2 a e)⟩
end
section
variable {X : Cx} {ct : Ct} {pos : Pos}
def mPar2 (i j : Nat) (ma mb : M S) : M Fl := fun σ => match ma σ with
  | some (s, σ1) => (match mb σ1 with
    | some (t, σ2) => if (okSet σ2 i && okSet σ2 j && decide (i ≠ j)) = true then some (.nx, (σ2.set i (some s)).set j (some t)) else none
    | none => none)
  | none => none
theorem okSet_set {σ : Fr} {i j : Nat} {s : Option S} (h : i ≠ j) (k : okSet σ j = true) : okSet (σ.set i s) j = true := by
  unfold okSet at k ⊢
  rw [List.length_set, List.getElem?_set_ne h]
  exact k
theorem ss_par2 {i j : Nat} {x y : Str} {a b : Expr} {ma mb : M S} {px py pt : Pos} {kt k2 pt2} (hc : X.calm = true) (hN : X.N.Nodup) (hi : X.N[i]? = some x) (hj : X.N[j]? = some y) (hij : i ≠ j)
    (hx : X.env.scope.names.lookup x = some .local) (hy : X.env.scope.names.lookup y = some .local) (h1 : SF X ct a ma) (h2 : SF X ct b mb)
    (hw : swappedStores [.Tuple [.Name x px, .Name y py] kt pt] (.Tuple [a, b] k2 pt2) X.env = pure (some [x, y]))
    (hs : swapsWithSole [.Tuple [.Name x px, .Name y py] kt pt] (.Tuple [a, b] k2 pt2) pos.line X.env = pure false := by rfl)
    (ea : starEach [a, b] X.env = (false, eval a X.env) :: starEach [b] X.env := by rfl) (eb : starEach [b] X.env = (false, eval b X.env) :: starEach [] X.env := by rfl) :
    SS X ct (.Assign [.Tuple [.Name x px, .Name y py] kt pt] (.Tuple [a, b] k2 pt2) pos) (mPar2 i j ma mb) := PSimp (ps_par hc hN hi hj hij hx hy (pa_cons h1 (pa_cons h2 pa_nil eb) ea) hw hs) fun D σV H ⟨F, σ, w, f, σ', e, q⟩ => by
  unfold mPar2 at e
  split at e
  · rename_i s σ1 e1
    split at e
    · rename_i t σ2 e2
      split at e
      · rename_i ok
        simp only [Bool.and_eq_true, decide_eq_true_eq] at ok
        cases e
        refine ⟨F, σ, w, _, _, e1, fun v H1 F1 st1 r1 => ⟨F1, σ1, st1.w, _, _, e2, fun u H2 F2 st2 r2 => ⟨v, u, rfl, ?_⟩⟩⟩
        have st := st1.trans st2
        have hi' : i < σV.length := Nat.lt_of_lt_of_le (okSet_lt ok.1.1) st.w.ln
        have sA := st.set (r1.later st2) ok.1.1
        have sB := sA.setR (FRep.second hi' st1 r1 r2) (okSet_set ok.2 ok.1.2)
        exact q .non _ H2 F2 sB rfl
      · cases e
    · cases e
  · cases e
end
end Ev
end

section
set_option Elab.async false
set_option linter.all false
/-! EvLl: list comprehensions of two clauses. -/
namespace Ev
open PySem PySem.Spec PyProof.Rows L2
set_option autoImplicit false
section
variable {K : PySem.W.Frag} {ct : Ct} {F H F' H' : Hp} {σV σV' : L2.St} {σ σ' : Fr} {vs ws : List Nat}
/-- some of the block's slots are forgotten -/
theorem Stp.forget1 (st : Stp K ct F H (wipe σV vs) (Ev.hide σ vs) F' H' σV' σ') (hs : ∀ i ∈ ws, i ∈ vs) : Stp K ct F H (wipe σV vs) (Ev.hide σ vs) F' H' (wipe σV' ws) (Ev.hide σ' ws) where
  w := st.w.hide
  le := st.le
  keep := st.keep
  there := st.there
  froz := st.froz
  own := fun a h => st.own a (Own.of_hide h)
  io := fun i s e o => by
    obtain ⟨⟨s', e', o'⟩, ev⟩ := st.io i s e o
    have hi : i ∉ ws := fun m => (hide_some e).1 (hs i m)
    exact ⟨⟨s', by rw [hide_out hi]; exact e', o'⟩, by rw [wipe_out hi]; exact ev⟩
  len := by rw [hide_len]; exact st.len
theorem wipe_in2 {σV : L2.St} (hs : ∀ i ∈ ws, i ∈ vs) : wipe (wipe σV ws) vs = wipe σV vs := by
  apply List.ext_getElem?
  intro i
  by_cases hi : i ∈ vs
  · rw [wipe_in hi, wipe_in hi, wipe_length]
  · rw [wipe_out hi, wipe_out hi, wipe_out fun m => hi (hs i m)]
end
def lpLl (T : Tg) (tt : M Bool) (it1 : MI) (T1 : Tg) (tt1 : M Bool) (te : M D) (vs ws : List Nat) : List D → Fr → Option (List D × Fr)
  | [], σ => some ([], σ)
  | d :: ds, σ => match T.put d σ with
    | some σ1 => (match tt σ1 with
      | some (true, σ2) => (match it1 σ2 with
        | some (l, σ3) => (match lpC T1 tt1 te ws l (hide σ3 ws) with
          | some (xs, σ4) => (match lpLl T tt it1 T1 tt1 te vs ws ds (hide σ4 vs) with
            | some (ys, σ5) => some (xs ++ ys, σ5)
            | none => none)
          | none => none)
        | none => none)
      | some (false, σ2) => lpLl T tt it1 T1 tt1 te vs ws ds (hide σ2 vs)
      | none => none)
    | none => none
def mLl (it : MI) (T : Tg) (tt : M Bool) (it1 : MI) (T1 : Tg) (tt1 : M Bool) (te : M D) (vs ws : List Nat) : M S := fun σ => match it σ with
  | some (ds, σ1) => (match lpLl T tt it1 T1 tt1 te vs ws ds (hide σ1 vs) with
    | some (xs, σ2) => if xs.length ≤ LIM then some (.ls false xs, shown σ2 σ1 vs) else none
    | none => none)
  | none => none
section
variable {X : Cx} {ct : Ct} {pos spos : Pos} {elt tg iter tg1 iter1 : Expr} {ifs ifs1 : List Expr} {scope : Scope} {own : List (Str × Nat)}
theorem ll_imp {σV : L2.St} {H : Hp} {Q : VK} {it it1 : MI} {T T1 : Tg} {tt tt1 : M Bool} {te : M D} {vs ws : List Nat} (hT : ∀ i ∈ T.vs, i ∈ vs) (hT1 : ∀ i ∈ T1.vs, i ∈ ws) (hws : ∀ i ∈ ws, i ∈ vs) (h : rdF X ct (mLl it T tt it1 T1 tt1 te vs ws) σV H Q) :
    tLc2 (iRd X ct it) (gRd X.K ct T) (rdT X ct tt) (iRd X ct it1) (gRd X.K ct T1) (rdT X ct tt1) (rdE X ct te) vs ws σV H Q := by
  obtain ⟨F, σ, w, s, σ', e, q⟩ := h
  unfold mLl at e
  split at e
  · rename_i ds σ1 h1
    split at e
    · rename_i all σe h2
      split at e
      · rename_i hl
        cases e
        refine ⟨F, σ, w, ds, σ1, h1, fun J H1 F1 st1 ⟨G, Y, wk, hG, hY⟩ R hR => ?_⟩
        have w1 := st1.w
        have wh : Wd X.K ct F1 H1 (wipe σV vs) (hide σ1 vs) := w1.hide
        have fR := w1.le.none hR
        have nR : ¬ Own (wipe σV vs) (hide σ1 vs) R := fun o => by obtain ⟨_, u, z, _⟩ := wh.own o; rw [hR] at z; cases z
        let Pv : Nat → Hp → Prop := fun i Hi => ∃ Fi σi accD accV xs, Stp X.K ct F1 H1 (wipe σV vs) (hide σ1 vs) Fi Hi (wipe σV vs) σi ∧ Le F1 Fi ∧ Hi R = some (.lst accV) ∧ Fi R = none ∧ ¬ Own (wipe σV vs) σi R ∧
          DReps X.K ct Fi accD accV ∧ lpLl T tt it1 T1 tt1 te vs ws (ds.drop i) σi = some (xs, σe) ∧ accD ++ xs = all
        refine ⟨fun i m Hi => m = ds.length - i ∧ i ≤ ds.length ∧ Pv i Hi, ⟨ds.length, by simp, Nat.zero_le _, F1, hide σ1 vs, [], [], all, Stp.lay wh hR, Le.refl F1, upd_same, fR, nR, rfl, h2, rfl⟩, ?_⟩
        rintro i m Hi ⟨rfl, hi', Fi, σi, accD, accV, xs, sti, lei, hRi, fRi, nRi, ra, hp, ha⟩
        by_cases hlt : i < ds.length
        · refine .inr ⟨wk.goes i Hi hlt (hG Hi (lei.trans sti.w.le)), Pv (i + 1), fun H' p' => ⟨ds.length - (i + 1), by omega, rfl, hlt, p'⟩, fun x H' y => ?_⟩
          obtain ⟨F3, d, gr, hd, rd⟩ := hY Fi i Hi x H' lei sti.w.le hlt (wk.yields i Hi x H' hlt (hG Hi (lei.trans sti.w.le)) y)
          rw [drop_at hd] at hp
          have g3 := gr.stp sti.w
          simp only [lpLl] at hp
          split at hp
          · rename_i σ2 hp2
            refine ⟨F3, σi, d, σ2, g3.w, rd, hp2, fun σV2 st2 c2 => ?_⟩
            have ew : wipe σV2 vs = wipe σV vs := by rw [wipe_chg c2 hT, wipe_wipe]
            refine ⟨ew, ?_⟩
            split at hp
            · rename_i σ3 h3
              refine ⟨F3, σ2, st2.w, _, _, h3, fun H4 F4 st4 => iteT ?_⟩
              split at hp
              · rename_i l σ4 h4
                split at hp
                · rename_i xs1 σ5 h5
                  split at hp
                  · rename_i ys σ6 h6
                    cases hp
                    refine ⟨F4, σ3, st4.w, l, σ4, h4, fun J1 H5 F5 st5 ⟨G1, Y1, wk1, hG1, hY1⟩ => ?_⟩
                    have turn := (g3.trans (st2.trans st4)).trans st5
                    obtain ⟨hR5, fR5, nR5⟩ := turn.apart hRi fRi nRi
                    have tot := (sti.trans turn).forget1 (ws := ws) hws
                    let P1 : Nat → Hp → Prop := fun j Hj => ∃ Fj σj accD1 accV1 xs2, Stp X.K ct F1 H1 (wipe σV vs) (hide σ1 vs) Fj Hj (wipe σV2 ws) σj ∧ Le F1 Fj ∧ Le F5 Fj ∧ Hj R = some (.lst accV1) ∧ Fj R = none ∧ ¬ Own (wipe σV2 ws) σj R ∧
                      DReps X.K ct Fj accD1 accV1 ∧ lpC T1 tt1 te ws (l.drop j) σj = some (xs2, σ5) ∧ accD1 ++ xs2 = accD ++ xs1
                    refine ⟨fun j m Hj => m = l.length - j ∧ j ≤ l.length ∧ P1 j Hj, ⟨l.length, by simp, Nat.zero_le _, F5, hide σ4 ws, accD, accV, xs1, tot, lei.trans turn.le, Le.refl F5, hR5, fR5, fun o => nR5 (Own.of_hide (vs := ws) o), DReps.mono turn.le _ _ ra, h5, rfl⟩, ?_⟩
                    rintro j m Hj ⟨rfl, hj', Fj, σj, accD1, accV1, xs2, stj, lej, lej5, hRj, fRj, nRj, rb, hq, hb⟩
                    by_cases hlt1 : j < l.length
                    · refine .inr ⟨wk1.goes j Hj hlt1 (hG1 Hj (lej5.trans stj.w.le)), P1 (j + 1), fun H' p' => ⟨l.length - (j + 1), by omega, rfl, hlt1, p'⟩, fun x1 H' y1 => ?_⟩
                      obtain ⟨F7, d1, gr1, hd1, rd1⟩ := hY1 Fj j Hj x1 H' lej5 stj.w.le hlt1 (wk1.yields j Hj x1 H' hlt1 (hG1 Hj (lej5.trans stj.w.le)) y1)
                      rw [drop_at hd1] at hq
                      have g7 := gr1.stp stj.w
                      simp only [lpC] at hq
                      split at hq
                      · rename_i σ7 hp7
                        refine ⟨F7, σj, d1, σ7, g7.w, rd1, hp7, fun σV7 st7 c7 => ?_⟩
                        have ew1 : wipe σV7 ws = wipe σV2 ws := by rw [wipe_chg c7 hT1, wipe_wipe]
                        refine ⟨ew1, ?_⟩
                        split at hq
                        · rename_i σ8 h8
                          refine ⟨F7, σ7, st7.w, _, _, h8, fun H9 F9 st9 => iteT ?_⟩
                          split at hq
                          · rename_i z σ9 h9
                            split at hq
                            · rename_i xs3 σ10 h10
                              cases hq
                              refine ⟨F9, σ8, st9.w, z, σ9, h9, fun v H10 F10 st10 rv => ?_⟩
                              have tn := (g7.trans (st7.trans st9)).trans st10
                              obtain ⟨hR10, fR10, nR10⟩ := tn.apart hRj fRj nRj
                              have to1 : Stp X.K ct F1 H1 (wipe σV vs) (hide σ1 vs) F10 H10 (wipe σV2 ws) (hide σ9 ws) := ew1 ▸ (stj.trans tn).forget1 (ws := ws) hws
                              have nR11 : ¬ Own (wipe σV2 ws) (hide σ9 ws) R := fun o => nR10 (Own.of_hide (vs := ws) (ew1 ▸ o))
                              refine ⟨accV1, hR10, ?_, F10, hide σ9 ws, accD1 ++ [z], accV1 ++ [v], xs3, to1.poke hR fR10 nR11 hR10 Nt.lst, lej.trans tn.le, lej5.trans tn.le, upd_same, fR10, nR11, DReps.append (DReps.mono tn.le _ _ rb) (DReps.one rv), h10, by rw [← hb]; simp⟩
                              rw [← rb.length]
                              have e1 : (accD1 ++ z :: xs3).length = (accD ++ xs1).length := congrArg List.length hb
                              have e2 : (accD ++ (xs1 ++ ys)).length = all.length := congrArg List.length ha
                              have : all.length ≤ sizeLine := by rw [← LIM_eq]; exact hl
                              simp only [List.length_append, List.length_cons] at e1 e2
                              omega
                            · cases hq
                          · cases hq
                        · rename_i σ8 h8
                          refine ⟨F7, σ7, st7.w, _, _, h8, fun H9 F9 st9 => iteF ?_⟩
                          have tn := g7.trans (st7.trans st9)
                          obtain ⟨hR10, fR10, nR10⟩ := tn.apart hRj fRj nRj
                          have to1 : Stp X.K ct F1 H1 (wipe σV vs) (hide σ1 vs) F9 H9 (wipe σV2 ws) (hide σ8 ws) := ew1 ▸ (stj.trans tn).forget1 (ws := ws) hws
                          have nR11 : ¬ Own (wipe σV2 ws) (hide σ8 ws) R := fun o => nR10 (Own.of_hide (vs := ws) (ew1 ▸ o))
                          exact ⟨F9, hide σ8 ws, accD1, accV1, xs2, to1, lej.trans tn.le, lej5.trans tn.le, hR10, fR10, nR11, DReps.mono tn.le _ _ rb, hq, hb⟩
                        · cases hq
                      · cases hq
                    · have ej : j = l.length := by omega
                      subst ej
                      refine .inl ⟨wk1.stops Hj (hG1 Hj (lej5.trans stj.w.le)), ?_⟩
                      rw [List.drop_length] at hq
                      simp only [lpC] at hq
                      cases hq
                      rw [List.append_nil] at hb
                      have ew2 : wipe (wipe σV2 ws) vs = wipe σV vs := by rw [wipe_in2 hws, ew]
                      have back := stj.forget ew2
                      have nR6 : ¬ Own (wipe σV vs) (hide σ5 vs) R := fun o => nRj (Own.of_hide (vs := vs) (ew2 ▸ o))
                      exact ⟨Fj, hide σ5 vs, accD1, accV1, ys, back, lej, hRj, fRj, nR6, rb, h6, by rw [hb, ← ha, List.append_assoc]⟩
                  · cases hp
                · cases hp
              · cases hp
            · rename_i σ3 h3
              refine ⟨F3, σ2, st2.w, _, _, h3, fun H4 F4 st4 => iteF ?_⟩
              have turn := g3.trans (st2.trans st4)
              obtain ⟨hR5, fR5, nR5⟩ := turn.apart hRi fRi nRi
              have tot := (sti.trans turn).forget ew
              have nR6 : ¬ Own (wipe σV vs) (hide σ3 vs) R := fun o => nR5 (Own.of_hide (vs := vs) (ew ▸ o))
              exact ⟨F4, hide σ3 vs, accD, accV, xs, tot, lei.trans turn.le, hR5, fR5, nR6, DReps.mono turn.le _ _ ra, hp, ha⟩
            · cases hp
          · cases hp
        · have ei : i = ds.length := by omega
          subst ei
          refine .inl ⟨wk.stops Hi (hG Hi (lei.trans sti.w.le)), ?_⟩
          rw [List.drop_length] at hp
          simp only [lpLl] at hp
          cases hp
          rw [List.append_nil] at ha
          subst ha
          have tot := Stp.show w1 sti
          refine q _ Hi Fi (st1.trans tot) ⟨rfl, ⟨R, accV, rfl, fRi, hRi, ra⟩, fun a ea => ?_⟩
          cases ea
          refine ⟨fun o => ?_, .inl (st1.there R hR)⟩
          obtain ⟨j, t, ej, to, aj⟩ := o
          by_cases hj : j ∈ vs
          · rw [shown_get (by rw [sti.len, hide_len]), if_pos (by simpa using hj)] at ej
            obtain ⟨_, u, z2, _⟩ := w1.own ⟨j, t, ej, to, aj⟩; rw [hR] at z2; cases z2
          · rw [shown_get (by rw [sti.len, hide_len]), if_neg (by simpa using hj)] at ej
            exact nRi ⟨j, t, ej, to, by rw [wipe_out hj]; exact aj⟩
      · cases e
    · cases e
  · cases e
theorem sf_ll {it it1 : MI} {T T1 : Tg} {tt tt1 : M Bool} {te : M D} {ws : List Nat} (hc : X.calm = true) (hN : X.N.Nodup) (hi : SI X ct tg iter it) (ok : BlkOk X.N X.env.scope scope own)
    (hg : ∀ (s : Shared) (H : Hp) (C : Addr) (cl : List (Str × Addr)) (fp : List Addr), SG (X.blk s H scope (compEnvC scope cl C X.env) fp) ct tg T) (ht : ∀ (s : Shared) (H : Hp) (C : Addr) (cl : List (Str × Addr)) (fp : List Addr), STs (X.blk s H scope (compEnvC scope cl C X.env) fp) ct ifs tt)
    (hi1 : ∀ (s : Shared) (H : Hp) (C : Addr) (cl : List (Str × Addr)) (fp : List Addr), SI (X.blk s H scope (compEnvC scope cl C X.env) fp) ct tg1 iter1 it1)
    (hg1 : ∀ (s : Shared) (H : Hp) (C : Addr) (cl : List (Str × Addr)) (fp : List Addr), SG (X.blk s H scope (compEnvC scope cl C X.env) fp) ct tg1 T1) (ht1 : ∀ (s : Shared) (H : Hp) (C : Addr) (cl : List (Str × Addr)) (fp : List Addr), STs (X.blk s H scope (compEnvC scope cl C X.env) fp) ct ifs1 tt1)
    (he : ∀ (s : Shared) (H : Hp) (C : Addr) (cl : List (Str × Addr)) (fp : List Addr), SE (X.blk s H scope (compEnvC scope cl C X.env) fp) ct elt te) (hT : ∀ i ∈ T.vs, i ∈ own.map (·.2) := by decide) (hT1 : ∀ i ∈ T1.vs, i ∈ ws := by decide) (hws : ∀ i ∈ ws, i ∈ own.map (·.2) := by decide)
    (hs : ∀ x, foldedSetIterable iter X.env x = pure x := by intro _; rfl) (hs1 : ∀ env x, foldedSetIterable iter1 env x = pure x := by intro _ _; rfl) :
    SF X ct (.ListComp elt [⟨tg, iter, ifs, 0⟩, ⟨tg1, iter1, ifs1, 0⟩] scope pos) (mLl it T tt it1 T1 tt1 te (own.map (·.2)) ws) := PEimp (pe_lc2 hc hN hi ok hws hg ht hi1 hg1 ht1 he hs hs1) fun σV H Q h => ll_imp hT hT1 hws h
end
end Ev
end

section
set_option Elab.async false
set_option linter.all false
/-! EvDd: dict comprehensions of two clauses, keys tuples. -/
namespace Ev
open PySem PySem.Spec PyProof.Rows L2
set_option autoImplicit false
abbrev dcl (kx vx a b c d : Expr) (fa fb : List Expr) (sc : Scope) (p : Pos) : Expr := .DictComp kx vx [⟨a, b, fa, 0⟩, ⟨c, d, fb, 0⟩] sc p
theorem turnD0 (kx vx a b c d : Expr) (fa fb : List Expr) (sc : Scope) (p : Pos) (it acc : Value) (env : Env) : compTurn (dcl kx vx a b c d fa fb sc p) 0 it acc env = (do
      standAt b.pos
      match ← pyNext it with
      | none => pure (.done .next)
      | some v =>
        letOwnedTupleGo a it v
        assign a env v
        let mut yes := true
        for t in fa do
          if yes then yes ← isTrue t env (eval t env)
        if yes then
          let x ← eval d env
          standAt d.pos
          let x ← foldedSetIterable d env x
          let _ ← runOwn (.compStart (dcl kx vx a b c d fa fb sc p) 1 (← holding [x] (pyIter x)) acc env) env
        again (.compLoop (dcl kx vx a b c d fa fb sc p) 0 it acc env)) := by rfl
theorem turnD1 (kx vx a b c d : Expr) (fa fb : List Expr) (sc : Scope) (p : Pos) (it : Value) (R : Addr) (env : Env) : compTurn (dcl kx vx a b c d fa fb sc p) 1 it (.ref R) env = (do
      standAt d.pos
      match ← pyNext it with
      | none => pure (.done .next)
      | some v =>
        letOwnedTupleGo c it v
        assign c env v
        let mut yes := true
        for t in fb do
          if yes then yes ← isTrue t env (eval t env)
        if yes then
          (do
            let u1 ← eval kx env
            let u2 ← holding [u1] (eval vx env)
            standAt { kx.pos with endLine := vx.pos.endLine, endCol := vx.pos.endCol }
            holding [u1, u2] (dictSet R u1 u2))
        again (.compLoop (dcl kx vx a b c d fa fb sc p) 1 it (.ref R) env)) := by rfl
section
variable {prog : Program} {w : World} {A : Around} {R : Result → Shared → Prop} {s : Shared} {kx vx a b c d : Expr} {fa fb : List Expr} {sc : Scope} {p : Pos} {it acc : Value} {env : Env}
abbrev Errs (prog : Program) (w : World) (A : Around) (env : Env) (R : Result → Shared → Prop) : Value → Shared → Prop := notedBy (model prog w) A env fun e s' => R (.error e) s'
theorem loopD0 (hs : ∀ x, foldedSetIterable d env x = pure x) (I : Nat → Shared → Prop)
    (turn : ∀ n s, I n s → wpAny (model prog w) A (pyNext it) (fun r s1 => match r with
      | none => R (.ok .next) s1
      | some v => wpAny (model prog w) A (letOwnedTupleGo a it v) (fun _ s2 => wpAny (model prog w) A (assign a env v) (fun _ s3 =>
          wpAny (model prog w) A (forIn fa true fun c r => if r = true then do let ok ← isTrue c env (eval c env); pure (ForInStep.yield ok) else pure (ForInStep.yield r)) (fun ok s4 =>
            if ok = true then wpAny (model prog w) A (eval d env) (fun x s5 => wpAny (model prog w) A (pyIter x) (fun it1 s6 =>
              codeAny (model prog w) A (.compStart (dcl kx vx a b c d fa fb sc p) 1 it1 acc env) (fun r s' => match r with
                | .ok _ => ∃ m, m < n ∧ I m s'
                | .error _ => False) s6) (Errs prog w A env R) s5) (Errs prog w A env R) s4
            else ∃ m, m < n ∧ I m s4) (Errs prog w A env R) s3) (Errs prog w A env R) s2) (Errs prog w A env R) s1) (Errs prog w A env R) s)
    (n : Nat) (h : I n s) : codeAny (model prog w) A (.compLoop (dcl kx vx a b c d fa fb sc p) 0 it acc env) R s := by
  refine codeAny_loop rfl I (fun n s hI => ?_) n h
  show wpAny _ A ((compTurn (dcl kx vx a b c d fa fb sc p) 0 it acc env).onRaise (fun x => do noteFrame x env; theTreesLotGoes x)) _ _ s
  refine wpAny_noted ?_
  rw [turnD0]
  refine wpAny_bind (wpAny_standAt (wpAny_bind (wpAny_mono (turn n s hI) (fun r s1 h1 => ?_) fun _ _ z => z)))
  match r, h1 with
  | none, h1 => exact wpAny_pure h1
  | some v, h1 =>
    refine wpAny_bind (wpAny_mono h1 (fun _ s2 h2 => wpAny_bind (wpAny_mono h2 (fun _ s3 h3 => wpAny_bind (wpAny_mono h3 (fun ok s4 h4 => ?_) fun _ _ z => z)) fun _ _ z => z)) fun _ _ z => z)
    match ok, h4 with
    | false, h4 => exact wpAny_pure ⟨rfl, h4⟩
    | true, h4 =>
      refine wpAny_bind (wpAny_mono h4 (fun x s5 h5 => wpAny_bind (wpAny_standAt (wpAny_bind (wpAny_of_eq (hs x) (wpAny_bind (wpAny_holding (wpAny_mono h5 (fun it1 s6 h6 => ?_) fun _ _ z => z))))))) fun _ _ z => z)
      refine wpAny_bind (wpAny_runOwn ?_)
      rw [Around.mark_none]
      refine codeAny_mono h6 fun r s' hr => ?_
      match r, hr with
      | .ok f, hr =>
        first
          | exact wpAny_pure ⟨rfl, hr⟩
          | exact wpAny_bind (wpAny_pure (wpAny_pure ⟨rfl, hr⟩))
      | .error e, hr => exact hr.elim
theorem loopD1 {D : Addr} (I : Nat → Shared → Prop)
    (turn : ∀ n s, I n s → wpAny (model prog w) A (pyNext it) (fun r s1 => match r with
      | none => R (.ok .next) s1
      | some v => wpAny (model prog w) A (letOwnedTupleGo c it v) (fun _ s2 => wpAny (model prog w) A (assign c env v) (fun _ s3 =>
          wpAny (model prog w) A (forIn fb true fun c r => if r = true then do let ok ← isTrue c env (eval c env); pure (ForInStep.yield ok) else pure (ForInStep.yield r)) (fun ok s4 =>
            if ok = true then wpAny (model prog w) A (eval kx env) (fun u1 s5 => wpAny (model prog w) A (eval vx env) (fun u2 s6 =>
              wpAny (model prog w) A (dictSet D u1 u2) (fun _ s7 => ∃ m, m < n ∧ I m s7) (Errs prog w A env R) s6) (Errs prog w A env R) s5) (Errs prog w A env R) s4
            else ∃ m, m < n ∧ I m s4) (Errs prog w A env R) s3) (Errs prog w A env R) s2) (Errs prog w A env R) s1) (Errs prog w A env R) s)
    (n : Nat) (h : I n s) : codeAny (model prog w) A (.compLoop (dcl kx vx a b c d fa fb sc p) 1 it (.ref D) env) R s := by
  refine codeAny_loop rfl I (fun n s hI => ?_) n h
  show wpAny _ A ((compTurn (dcl kx vx a b c d fa fb sc p) 1 it (.ref D) env).onRaise (fun x => do noteFrame x env; theTreesLotGoes x)) _ _ s
  refine wpAny_noted ?_
  rw [turnD1]
  refine wpAny_bind (wpAny_standAt (wpAny_bind (wpAny_mono (turn n s hI) (fun r s1 h1 => ?_) fun _ _ z => z)))
  match r, h1 with
  | none, h1 => exact wpAny_pure h1
  | some v, h1 =>
    refine wpAny_bind (wpAny_mono h1 (fun _ s2 h2 => wpAny_bind (wpAny_mono h2 (fun _ s3 h3 => wpAny_bind (wpAny_mono h3 (fun ok s4 h4 => ?_) fun _ _ z => z)) fun _ _ z => z)) fun _ _ z => z)
    match ok, h4 with
    | false, h4 => exact wpAny_pure ⟨rfl, h4⟩
    | true, h4 =>
      exact wpAny_bind (wpAny_bind (wpAny_mono h4 (fun u1 s5 h5 => wpAny_bind (wpAny_holding (wpAny_mono h5 (fun u2 s6 h6 => wpAny_bind (wpAny_standAt (wpAny_holding (wpAny_mono h6 (fun _ s7 h7 => wpAny_pure ⟨rfl, h7⟩) fun _ _ z => z)))) fun _ _ z => z))) fun _ _ z => z))
theorem startD1 (h0 : codeAny (model prog w) A (.compLoop (dcl kx vx a b c d fa fb sc p) 1 it acc env) R s)
    (h : wpAny (model prog w) A (pyIter it) (fun it' s' => codeAny (model prog w) A (.compLoop (dcl kx vx a b c d fa fb sc p) 1 it' acc env) R s') (Errs prog w A env R) s) :
    codeAny (model prog w) A (.compStart (dcl kx vx a b c d fa fb sc p) 1 it acc env) R s := by
  refine codeAny_of_tree ?_
  show wpAny _ _ ((compStart (dcl kx vx a b c d fa fb sc p) 1 it acc env).onRaise (fun x => do noteFrame x env; standAt theWindowsPlace)) _ _ s
  refine wpAny_notedAt ?_
  unfold compStart
  show wpAny _ _ (ask >>= _) _ _ s
  refine wpAny_bind (wpAny_askSetting (wpAny_ite ?_))
  split
  · first
      | exact wpAny_bind (wpAny_pure (wpAny_pure (And.intro rfl h0)))
      | exact wpAny_pure (And.intro rfl h0)
  · first
      | exact wpAny_bind (wpAny_rule (wpAny_bind (wpAny_standAt (wpAny_bind (wpAny_mono h (fun it' s' h' => wpAny_pure (And.intro rfl h')) fun _ _ x => x)))))
      | (refine wpAny_bind (wpAny_rule ?_); show wpAny _ _ (standAt d.pos >>= _) _ _ s; exact wpAny_bind (wpAny_standAt (wpAny_bind (wpAny_mono h (fun it' s' h' => wpAny_pure (And.intro rfl h')) fun _ _ x => x))))
end
section
variable {X : Cx}
/-- the reading of a dict comprehension of two clauses -/
def tDd (o0 : HO) (put : PutR) (wi : TI) (g : TG) (tt : TT) (wi1 : TI) (g1 : TG) (tt1 : TT) (tk tv : TE) (vs ws : List Nat) : TE := fun σ H Q => wi σ H fun J H1 => ∀ R, H1 R = none → ∃ W : Nat → Nat → Hp → Prop, (∃ m, W 0 m (upd H1 R o0)) ∧ ∀ i m H, W i m H →
  (J.stop i H ∧ Q (.ref R) H) ∨ (J.go i H ∧ ∃ Nx : Hp → Prop, (∀ H', Nx H' → ∃ m', m' < m ∧ W (i + 1) m' H') ∧ ∀ x H', J.yld i H x H' → g x (wipe σ vs) H' fun σ2 H2 => wipe σ2 vs = wipe σ vs ∧ tt σ2 H2 fun b H3 =>
    if b = true then wi1 σ2 H3 fun J1 H4 => ∃ W1 : Nat → Nat → Hp → Prop, (∃ m, W1 0 m H4) ∧ ∀ j k H, W1 j k H →
      (J1.stop j H ∧ Nx H) ∨ (J1.go j H ∧ ∃ Nx1 : Hp → Prop, (∀ H', Nx1 H' → ∃ k', k' < k ∧ W1 (j + 1) k' H') ∧ ∀ x H', J1.yld j H x H' → g1 x (wipe σ2 ws) H' fun σ3 H5 => wipe σ3 ws = wipe σ2 ws ∧ tt1 σ3 H5 fun b H6 =>
        if b = true then tk σ3 H6 fun y H7 => tv σ3 H7 fun z H8 => put R y z H8 Nx1 else Nx1 H6)
    else Nx H3)
theorem pe_dd {o0 : HO} {put : PutR} {kx vx tg iter tg1 iter1 : Expr} {ifs ifs1 : List Expr} {scope : Scope} {own : List (Str × Nat)} {ws : List Nat} {pos : Pos} {wi wi1 : TI} {g g1 : TG} {tt tt1 : TT} {tk tv : TE} (hc : X.calm = true) (hN : X.N.Nodup) (hi : PI X tg iter wi) (ok : BlkOk X.N X.env.scope scope own) (hws : ∀ i ∈ ws, i ∈ own.map (·.2))
    (hemp : ∀ (h : Heap) (H : Hp), sysModules < h.objs.size → ObjOk X.prog X.w H (h.push { cls := .type "dict", data := .dict #[] }) h.objs.size o0)
    (hput : ∀ (Y : Cx) (pins : List (Addr × Obj)) (σ : L2.St) (H : Hp) (s : Shared) (R : Addr) (y z : V) (u r : Value) (Nx : Hp → Prop) (Q : Unit → Shared → Prop) (E : Value → Shared → Prop), Y.prog = X.prog → Y.w = X.w → Y.A = X.A → Inv Y pins σ H s → put R y z H Nx → RelV y u → RelV z r → (∀ s' H', Inv Y pins σ H' s' → Nx H' → Q () s') → wpAny (model Y.prog Y.w) Y.A (dictSet R u r) Q E s)
    (hg : ∀ (s : Shared) (H : Hp) (C : Addr) (cl : List (Str × Addr)) (fp : List Addr), PG (X.blk s H scope (compEnvC scope cl C X.env) fp) tg g) (ht : ∀ (s : Shared) (H : Hp) (C : Addr) (cl : List (Str × Addr)) (fp : List Addr), PTs (X.blk s H scope (compEnvC scope cl C X.env) fp) ifs tt)
    (hi1 : ∀ (s : Shared) (H : Hp) (C : Addr) (cl : List (Str × Addr)) (fp : List Addr), PI (X.blk s H scope (compEnvC scope cl C X.env) fp) tg1 iter1 wi1)
    (hg1 : ∀ (s : Shared) (H : Hp) (C : Addr) (cl : List (Str × Addr)) (fp : List Addr), PG (X.blk s H scope (compEnvC scope cl C X.env) fp) tg1 g1) (ht1 : ∀ (s : Shared) (H : Hp) (C : Addr) (cl : List (Str × Addr)) (fp : List Addr), PTs (X.blk s H scope (compEnvC scope cl C X.env) fp) ifs1 tt1)
    (hk : ∀ (s : Shared) (H : Hp) (C : Addr) (cl : List (Str × Addr)) (fp : List Addr), PE (X.blk s H scope (compEnvC scope cl C X.env) fp) kx tk)
    (hv : ∀ (s : Shared) (H : Hp) (C : Addr) (cl : List (Str × Addr)) (fp : List Addr), PE (X.blk s H scope (compEnvC scope cl C X.env) fp) vx tv) (hs : ∀ x, foldedSetIterable iter X.env x = pure x) (hs1 : ∀ env x, foldedSetIterable iter1 env x = pure x) :
    PE X (.DictComp kx vx [⟨tg, iter, ifs, 0⟩, ⟨tg1, iter1, ifs1, 0⟩] scope pos) (tDd o0 put wi g tt wi1 g1 tt1 tk tv (own.map (·.2)) ws) := ⟨fun pins s σ H Q I h => by
  rw [arm_eval_DictComp]
  have cells : ∀ y ∈ scope.names, y.2 = .free → ∃ c, X.env.cells.lookup y.1 = some c := fun y hy e => (ok.free y hy e).elim (fun z => I.ok.has _ (.inl z)) fun z => I.ok.has _ (.inr z)
  refine wpAny_comprehension_free (use := none) rfl hs (closure_ok cells) ok.kind (fun y hy e => by rw [ok.uniq y hy, e]) (thn (hi.run pins s σ H _ I h) fun xv sa hx => thn hx fun itv sb hb => ?_)
  obtain ⟨it, fp, tn, J, Hb, rfl, Ib, T, tb, fb, q⟩ := hb
  refine wpAny_newObj_type (newEnv_comp ?_)
  have new0 : Hb sb.heap.objs.size = none := Ib.hok.fresh (Nat.le_refl _)
  obtain ⟨W, ⟨m0, w0⟩, turn⟩ := q _ new0
  generalize esc : ({ sb with heap := sb.heap.push { cls := .type "dict", data := .dict #[] } } : Shared) = sc
  have hc0 : sc.heap = sb.heap.push { cls := .type "dict", data := .dict #[] } := by rw [← esc]
  have Ic : Inv X pins σ (upd Hb sb.heap.objs.size o0) sc := by
    rw [← esc]
    exact Ib.laid (t' := sb.toks) (fun b o e => Heap.get?_push_of_some _ e) (Nat.le_refl _) (hemp sb.heap _ Ib.big)
  have fc : ∀ b ∈ fp, FpOk X pins (upd Hb sb.heap.objs.size o0) b ∧ b < sc.heap.objs.size := fun b hb => by
    obtain ⟨o, e, _⟩ := T.obj _ _ tb b hb
    have lt := Heap.lt_size e
    exact ⟨⟨by rw [upd_ne (Nat.ne_of_lt lt)]; exact (fb b hb).1, (fb b hb).2⟩, by rw [hc0, Heap.size_push]; exact Nat.lt_succ_of_lt lt⟩
  have tc : tn 0 sc.heap := T.keep _ _ _ tb fun b _ o e => by rw [hc0]; exact Heap.get?_push_of_some _ e
  generalize sb.heap.objs.size = R at new0 w0 turn Ic fc ⊢
  generalize upd Hb R o0 = Hc at w0 Ic fc
  have Id := block_start Ic ok hN fc
  have g1' := hg sc Hc sc.heap.objs.size (cellsFrom (sc.heap.objs.size + 1) scope.names (cloFrom X.env.cells scope.names [])) fp
  have g2 := ht sc Hc sc.heap.objs.size (cellsFrom (sc.heap.objs.size + 1) scope.names (cloFrom X.env.cells scope.names [])) fp
  have g3 := hk sc Hc sc.heap.objs.size (cellsFrom (sc.heap.objs.size + 1) scope.names (cloFrom X.env.cells scope.names [])) fp
  have g4 := hv sc Hc sc.heap.objs.size (cellsFrom (sc.heap.objs.size + 1) scope.names (cloFrom X.env.cells scope.names [])) fp
  have g5 := hi1 sc Hc sc.heap.objs.size (cellsFrom (sc.heap.objs.size + 1) scope.names (cloFrom X.env.cells scope.names [])) fp
  have g6 := hg1 sc Hc sc.heap.objs.size (cellsFrom (sc.heap.objs.size + 1) scope.names (cloFrom X.env.cells scope.names [])) fp
  have g7 := ht1 sc Hc sc.heap.objs.size (cellsFrom (sc.heap.objs.size + 1) scope.names (cloFrom X.env.cells scope.names [])) fp
  show codeAny _ _ (.compStart (dcl kx vx tg iter tg1 iter1 ifs ifs1 scope pos) 0 (.ref it) (.ref R) (compEnvC scope (cellsFrom (sc.heap.objs.size + 1) scope.names (cloFrom X.env.cells scope.names [])) sc.heap.objs.size X.env)) (compPost (model X.prog X.w) X.A X.xe none (EP X pins σ Q) (.ref R) sc.heap.objs.size) { sc with heap := pushCells (sc.heap.push { cls := .type "dict", data := .dict #[] }) scope.names }
  generalize ece : compEnvC scope (cellsFrom (sc.heap.objs.size + 1) scope.names (cloFrom X.env.cells scope.names [])) sc.heap.objs.size X.env = ce at Id g1' g2 g3 g4 g5 g6 g7 ⊢
  have locs : ce.locals = sc.heap.objs.size := by rw [← ece]; rfl
  generalize esd : ({ sc with heap := pushCells (sc.heap.push { cls := .type "dict", data := .dict #[] }) scope.names } : Shared) = sd at Id ⊢
  have td : tn 0 sd.heap := T.keep _ _ _ tc fun b _ o e => by rw [← esd]; exact pushCells_keeps _ _ _ _ (Heap.get?_push_of_some _ e)
  have own_ : ∀ {σ' : L2.St} {H' : Hp} {s' : Shared}, Inv (X.blk sc Hc scope ce fp) [] σ' H' s' → (∀ b ∈ fp, H' b = none) → ∀ b ∈ fp, FpOk (X.blk sc Hc scope ce fp) [] H' b := fun {σ' H' s'} J' n b hb =>
    ⟨n b hb, (J'.ok.exf b hb).1, J'.ok.exfs b hb, .inl hb, fun x c e => (J'.ok.exf b hb).2 x c e, fun p hp => by cases hp⟩
  have body : codeAny (model X.prog X.w) X.A (.compLoop (dcl kx vx tg iter tg1 iter1 ifs ifs1 scope pos) 0 (.ref it) (.ref R) ce) (compPost (model X.prog X.w) X.A X.xe none (EP X pins σ Q) (.ref R) sc.heap.objs.size) sd := by
    refine loopD0 (hs1 ce) (fun n s' => ∃ i H', Inv (X.blk sc Hc scope ce fp) [] (wipe σ (own.map (·.2))) H' s' ∧ tn i s'.heap ∧ (∀ b ∈ fp, H' b = none) ∧ W i n H') ?_ m0 ⟨0, Hc, Id, td, fun b hb => (fc b hb).1.1, w0⟩
    intro n s1 ⟨i, H1, I1, t1, n1, w1⟩
    rcases turn i n H1 w1 with ⟨stop, qq⟩ | ⟨go, Nx, toNx, step⟩
    · refine thnF (T.done (X.blk sc Hc scope ce fp) rfl rfl rfl hc i [] s1 _ H1 (fun _ _ => False) I1 (own_ I1 n1) t1 stop) fun r s2 ⟨er, I2⟩ => ?_
      subst er
      have back : Inv X pins σ H1 s2 := Ic.call' (ch := fp) I2.os I2.base I2.hok I2.bare fun b hb => let z := (fc b hb).1.2; ⟨z.2.2.1, z.1, z.2.2.2.1, z.2.2.2.2⟩
      have freeL : H1 sc.heap.objs.size = none := locs ▸ I2.free
      obtain ⟨m, hns, _⟩ := I2.loc
      have hns : s2.heap.Ns ce.locals m := hns
      rw [locs] at hns
      obtain ⟨f0, f1, f2, f3, f4, f5⟩ := Ic.fpOk (Nat.le_refl _) freeL
      exact ⟨m, hns, fun h'' sb' => ⟨.ref R, H1, back.turned (t' := s2.toks) (fun b o hb e => (sb'.2 b hb).trans e) f0 f1 f3 f4 f5, rfl, qq⟩⟩
    · refine thnF (T.item (X.blk sc Hc scope ce fp) rfl rfl rfl hc i [] s1 _ H1 (fun _ _ => False) I1 (own_ I1 n1) t1 go) fun r s2 ⟨u, er, h2⟩ => ?_
      subst er
      refine thnF h2 fun _ s3 ⟨x, H3, I3, r3, y3, t3, n3⟩ => ?_
      refine thnF (g1'.run _ s3 _ H3 x u _ (I3.pinned (own_ I3 n3) (T.obj _ _ t3)) r3 (step x H3 y3)) fun _ s4 ⟨σ4, H4, I4, w4, q4⟩ => ?_
      refine thnF (g2.run _ s4 σ4 H4 _ I4 q4) fun b s5 ⟨H5, I5, q5⟩ => ?_
      have over : ∀ (σ9 : L2.St) (s' : Shared) (H' : Hp), Inv (X.blk sc Hc scope ce fp) ([] ++ pinsAt fp s3.heap) σ9 H' s' → (wipe σ (own.map (·.2))).length = σ9.length → (∀ (j : Nat) v, (wipe σ (own.map (·.2)))[j]? = some (some v) → σ9[j]? = some (some v)) → Nx H' →
          ∃ m, m < n ∧ ∃ i H', Inv (X.blk sc Hc scope ce fp) [] (wipe σ (own.map (·.2))) H' s' ∧ tn i s'.heap ∧ (∀ b ∈ fp, H' b = none) ∧ W i m H' := fun σ9 s' H' J' hl hk' nx => by
        obtain ⟨m', lt, w'⟩ := toNx H' nx
        have pin' : ∀ b ∈ fp, ∀ o, s3.heap.get? b = some o → s'.heap.get? b = some o ∧ H' b = none := fun b hb o e => by
          obtain ⟨z1, z2, _⟩ := J'.pin (b, o) (List.mem_append_right _ (List.mem_append_right _ (mem_pinsAt hb e)))
          exact ⟨z1, z2⟩
        refine ⟨m', lt, i + 1, H', (J'.unpinned (pins := [])).weak hl hk', T.keep _ _ _ t3 fun b hb o e => (pin' b hb o e).1, fun b hb => ?_, w'⟩
        obtain ⟨o, e, _⟩ := T.obj _ _ t3 b hb
        exact (pin' b hb o e).2
      have l4 : (wipe σ (own.map (·.2))).length = σ4.length := by rw [← w4, wipe_length]
      have k4 : ∀ (j : Nat) v, (wipe σ (own.map (·.2)))[j]? = some (some v) → σ4[j]? = some (some v) := fun j v e => (wipe_some (w4 ▸ e)).1
      have k5 : ∀ (j : Nat) v, (wipe σ (own.map (·.2)))[j]? = some (some v) → (wipe σ4 ws)[j]? = some (some v) := fun j v e => by
        obtain ⟨e1, e2⟩ := wipe_some (w4 ▸ e)
        rw [L2.wipe_out fun z => e2 (hws j z)]
        exact e1
      cases b with
      | false => exact over _ _ _ I5 l4 k4 q5
      | true =>
        refine thnF (g5.run _ s5 σ4 H5 _ I5 q5) fun xv1 s6 hx1 => thnF hx1 fun itv1 s7 h7 => ?_
        obtain ⟨it1, fp1, tn1, J1, H7, rfl, I7, T1, t7, f7, W1, ⟨m1, w1'⟩, turn1⟩ := h7
        have stat1 : ∀ (H' : Hp), (∀ b ∈ fp1, H' b = none) → ∀ b ∈ fp1, FpOk (X.blk sc Hc scope ce fp) ([] ++ pinsAt fp s3.heap) H' b := fun H' hn b hb => ⟨hn b hb, (f7 b hb).2⟩
        have body1 : codeAny (model X.prog X.w) X.A (.compLoop (dcl kx vx tg iter tg1 iter1 ifs ifs1 scope pos) 1 (.ref it1) (.ref R) ce)
            (fun r s' => match r with
              | .ok _ => ∃ m, m < n ∧ ∃ i H', Inv (X.blk sc Hc scope ce fp) [] (wipe σ (own.map (·.2))) H' s' ∧ tn i s'.heap ∧ (∀ b ∈ fp, H' b = none) ∧ W i m H'
              | .error _ => False) s7 := by
          refine loopD1 (fun k s' => ∃ j H', Inv (X.blk sc Hc scope ce fp) ([] ++ pinsAt fp s3.heap) (wipe σ4 ws) H' s' ∧ tn1 j s'.heap ∧ (∀ b ∈ fp1, H' b = none) ∧ W1 j k H') ?_ m1 ⟨0, H7, I7.weak (wipe_length _ _) (fun j v e => (wipe_some e).1), t7, fun b hb => (f7 b hb).1, w1'⟩
          intro k s8 ⟨j, H8, I8, t8, n8, w8⟩
          rcases turn1 j k H8 w8 with ⟨stop1, nx1⟩ | ⟨go1, Nx1, toNx1, step1⟩
          · refine thnF (T1.done (X.blk sc Hc scope ce fp) rfl rfl rfl hc j _ s8 (wipe σ4 ws) H8 (fun _ _ => False) I8 (stat1 _ n8) t8 stop1) fun r s9 ⟨er, I9⟩ => ?_
            subst er
            exact over _ _ _ I9 (l4.trans (wipe_length σ4 ws).symm) k5 nx1
          · refine thnF (T1.item (X.blk sc Hc scope ce fp) rfl rfl rfl hc j _ s8 (wipe σ4 ws) H8 (fun _ _ => False) I8 (stat1 _ n8) t8 go1) fun r s9 ⟨u1, er, h9⟩ => ?_
            subst er
            refine thnF h9 fun _ s10 ⟨x1, H10, I10, r10, y10, t10, n10⟩ => ?_
            refine thnF (g6.run _ s10 (wipe σ4 ws) H10 x1 u1 _ (I10.pinned (stat1 _ n10) (T1.obj _ _ t10)) r10 (step1 x1 H10 y10)) fun _ s11 ⟨σ11, H11, I11, w11, q11⟩ => ?_
            refine thnF (g7.run _ s11 σ11 H11 _ I11 q11) fun b1 s12 ⟨H12, I12, q12⟩ => ?_
            have over1 : ∀ (s' : Shared) (H' : Hp), Inv (X.blk sc Hc scope ce fp) (([] ++ pinsAt fp s3.heap) ++ pinsAt fp1 s10.heap) σ11 H' s' → Nx1 H' → ∃ m, m < k ∧ ∃ j H', Inv (X.blk sc Hc scope ce fp) ([] ++ pinsAt fp s3.heap) (wipe σ4 ws) H' s' ∧ tn1 j s'.heap ∧ (∀ b ∈ fp1, H' b = none) ∧ W1 j m H' := fun s' H' J' nx => by
              obtain ⟨m', lt, w'⟩ := toNx1 H' nx
              have pin' : ∀ b ∈ fp1, ∀ o, s10.heap.get? b = some o → s'.heap.get? b = some o ∧ H' b = none := fun b hb o e => by
                obtain ⟨z1, z2, _⟩ := J'.pin (b, o) (List.mem_append_right _ (List.mem_append_right _ (mem_pinsAt hb e)))
                exact ⟨z1, z2⟩
              refine ⟨m', lt, j + 1, H', J'.unpinned.weak (by rw [← w11, wipe_length]) (fun j v e => (wipe_some (w11 ▸ e)).1), T1.keep _ _ _ t10 fun b hb o e => (pin' b hb o e).1, fun b hb => ?_, w'⟩
              obtain ⟨o, e, _⟩ := T1.obj _ _ t10 b hb
              exact (pin' b hb o e).2
            cases b1 with
            | false => exact over1 _ _ I12 q12
            | true =>
              refine thnF (g3.run _ s12 σ11 H12 _ I12 q12) fun k1 s13 ⟨y, H13, I13, r13, q13⟩ => ?_
              refine thnF (g4.run _ s13 σ11 H13 _ I13 q13) fun k2 s14 ⟨z, H14, I14, r14, q14⟩ => ?_
              exact hput (X.blk sc Hc scope ce fp) _ _ _ _ _ _ _ _ _ _ _ _ rfl rfl rfl I14 q14 r13 r14 over1
        exact startD1 body1 (T1.self X.A 0 _ _ _ t7 body1)
  exact codeAny_compStart_dict body (T.self X.A 0 _ _ _ td body)⟩
end
/-! ### the mirror -/
def lpDd (T : Tg) (tt : M Bool) (it1 : MI) (T1 : Tg) (tt1 : M Bool) (tk tv : M D) (vs ws : List Nat) : List D → List (D × D) → Fr → Option (List (D × D) × Fr)
  | [], acc, σ => some (acc, σ)
  | d :: ds, acc, σ => match T.put d σ with
    | some σ1 => (match tt σ1 with
      | some (true, σ2) => (match it1 σ2 with
        | some (l, σ3) => (match lpDcT T1 tt1 tk tv ws l acc (hide σ3 ws) with
          | some (acc', σ4) => lpDd T tt it1 T1 tt1 tk tv vs ws ds acc' (hide σ4 vs)
          | none => none)
        | none => none)
      | some (false, σ2) => lpDd T tt it1 T1 tt1 tk tv vs ws ds acc (hide σ2 vs)
      | none => none)
    | none => none
def mDd (it : MI) (T : Tg) (tt : M Bool) (it1 : MI) (T1 : Tg) (tt1 : M Bool) (tk tv : M D) (vs ws : List Nat) : M S := fun σ => match it σ with
  | some (ds, σ1) => (match lpDd T tt it1 T1 tt1 tk tv vs ws ds [] (hide σ1 vs) with
    | some (xs, σ2) => if xs.length < LIM then some (.ds false true xs, shown σ2 σ1 vs) else none
    | none => none)
  | none => none
theorem dPut_grow (l : List (D × D)) (k v : D) : l.length ≤ (dPut l k v).length := by
  unfold dPut
  split
  · simp
  · simp
theorem lpDcT_grow {T : Tg} {tt : M Bool} {tk tv : M D} {vs : List Nat} : ∀ {ds : List D} {acc out : List (D × D)} {σ σ' : Fr}, lpDcT T tt tk tv vs ds acc σ = some (out, σ') → acc.length ≤ out.length
  | [], acc, out, σ, σ', h => by
    simp only [lpDcT] at h
    cases h
    exact Nat.le_refl _
  | d :: ds, acc, out, σ, σ', h => by
    simp only [lpDcT] at h
    split at h
    · split at h
      · split at h
        · split at h
          · split at h
            · rename_i k _ _ _ x _ _
              exact Nat.le_trans (dPut_grow _ _ _) (lpDcT_grow h)
            · cases h
          · cases h
        · cases h
      · exact lpDcT_grow h
      · cases h
    · cases h
theorem lpDd_grow {T T1 : Tg} {tt tt1 : M Bool} {it1 : MI} {tk tv : M D} {vs ws : List Nat} : ∀ {ds : List D} {acc out : List (D × D)} {σ σ' : Fr}, lpDd T tt it1 T1 tt1 tk tv vs ws ds acc σ = some (out, σ') → acc.length ≤ out.length
  | [], acc, out, σ, σ', h => by
    simp only [lpDd] at h
    cases h
    exact Nat.le_refl _
  | d :: ds, acc, out, σ, σ', h => by
    simp only [lpDd] at h
    split at h
    · split at h
      · split at h
        · split at h
          · rename_i h4
            exact Nat.le_trans (lpDcT_grow h4) (lpDd_grow h)
          · cases h
        · cases h
      · exact lpDd_grow h
      · cases h
    · cases h
section
variable {X : Cx} {ct : Ct} {pos spos : Pos} {tg iter tg1 iter1 : Expr} {ifs ifs1 : List Expr} {scope : Scope} {own : List (Str × Nat)}
theorem dd_imp {σV : L2.St} {H : Hp} {Q : VK} {it it1 : MI} {T T1 : Tg} {tt tt1 : M Bool} {tk tv : M D} {vs ws : List Nat} (hT : ∀ i ∈ T.vs, i ∈ vs) (hT1 : ∀ i ∈ T1.vs, i ∈ ws) (hws : ∀ i ∈ ws, i ∈ vs) (h : rdF X ct (mDd it T tt it1 T1 tt1 tk tv vs ws) σV H Q) :
    tDd (.dT []) putT (iRd X ct it) (gRd X.K ct T) (rdT X ct tt) (iRd X ct it1) (gRd X.K ct T1) (rdT X ct tt1) (rdE X ct tk) (rdE X ct tv) vs ws σV H Q := by
  obtain ⟨F, σ, w, s, σ', e, q⟩ := h
  unfold mDd at e
  split at e
  · rename_i ds σ1 h1
    split at e
    · rename_i all σe h2
      split at e
      · rename_i hl
        cases e
        refine ⟨F, σ, w, ds, σ1, h1, fun J H1 F1 st1 ⟨G, Y, wk, hG, hY⟩ R hR => ?_⟩
        have w1 := st1.w
        have wh : Wd X.K ct F1 H1 (wipe σV vs) (hide σ1 vs) := w1.hide
        have fR := w1.le.none hR
        have nR : ¬ Own (wipe σV vs) (hide σ1 vs) R := fun o => by obtain ⟨_, u, z, _⟩ := wh.own o; rw [hR] at z; cases z
        let Pv : Nat → Hp → Prop := fun i Hi => ∃ Fi σi accD accV, Stp X.K ct F1 H1 (wipe σV vs) (hide σ1 vs) Fi Hi (wipe σV vs) σi ∧ Le F1 Fi ∧ Hi R = some (.dT accV) ∧ Fi R = none ∧ ¬ Own (wipe σV vs) σi R ∧
          GKv X.K ct Fi kT accD accV ∧ lpDd T tt it1 T1 tt1 tk tv vs ws (ds.drop i) accD σi = some (all, σe)
        refine ⟨fun i m Hi => m = ds.length - i ∧ i ≤ ds.length ∧ Pv i Hi, ⟨ds.length, by simp, Nat.zero_le _, F1, hide σ1 vs, [], [], Stp.lay wh hR, Le.refl F1, upd_same, fR, nR, rfl, h2⟩, ?_⟩
        rintro i m Hi ⟨rfl, hi', Fi, σi, accD, accV, sti, lei, hRi, fRi, nRi, ra, hp⟩
        by_cases hlt : i < ds.length
        · refine .inr ⟨wk.goes i Hi hlt (hG Hi (lei.trans sti.w.le)), Pv (i + 1), fun H' p' => ⟨ds.length - (i + 1), by omega, rfl, hlt, p'⟩, fun x H' y => ?_⟩
          obtain ⟨F3, d, gr, hd, rd⟩ := hY Fi i Hi x H' lei sti.w.le hlt (wk.yields i Hi x H' hlt (hG Hi (lei.trans sti.w.le)) y)
          rw [drop_at hd] at hp
          have g3 := gr.stp sti.w
          simp only [lpDd] at hp
          split at hp
          · rename_i σ2 hp2
            refine ⟨F3, σi, d, σ2, g3.w, rd, hp2, fun σV2 st2 c2 => ?_⟩
            have ew : wipe σV2 vs = wipe σV vs := by rw [wipe_chg c2 hT, wipe_wipe]
            refine ⟨ew, ?_⟩
            split at hp
            · rename_i σ3 h3
              refine ⟨F3, σ2, st2.w, _, _, h3, fun H4 F4 st4 => iteT ?_⟩
              split at hp
              · rename_i l σ4 h4
                split at hp
                · rename_i acc1 σ5 h5
                  refine ⟨F4, σ3, st4.w, l, σ4, h4, fun J1 H5 F5 st5 ⟨G1, Y1, wk1, hG1, hY1⟩ => ?_⟩
                  have turn := (g3.trans (st2.trans st4)).trans st5
                  obtain ⟨hR5, fR5, nR5⟩ := turn.apart hRi fRi nRi
                  have tot := (sti.trans turn).forget1 (ws := ws) hws
                  have big := lpDd_grow hp
                  let P1 : Nat → Hp → Prop := fun j Hj => ∃ Fj σj accD1 accV1, Stp X.K ct F1 H1 (wipe σV vs) (hide σ1 vs) Fj Hj (wipe σV2 ws) σj ∧ Le F1 Fj ∧ Le F5 Fj ∧ Hj R = some (.dT accV1) ∧ Fj R = none ∧ ¬ Own (wipe σV2 ws) σj R ∧
                    GKv X.K ct Fj kT accD1 accV1 ∧ lpDcT T1 tt1 tk tv ws (l.drop j) accD1 σj = some (acc1, σ5)
                  refine ⟨fun j m Hj => m = l.length - j ∧ j ≤ l.length ∧ P1 j Hj, ⟨l.length, by simp, Nat.zero_le _, F5, hide σ4 ws, accD, accV, tot, lei.trans turn.le, Le.refl F5, hR5, fR5, fun o => nR5 (Own.of_hide (vs := ws) o), gkv_T.mp (DTv.mono turn.le _ _ (gkv_T.mpr ra)), h5⟩, ?_⟩
                  rintro j m Hj ⟨rfl, hj', Fj, σj, accD1, accV1, stj, lej, lej5, hRj, fRj, nRj, rb, hq⟩
                  by_cases hlt1 : j < l.length
                  · refine .inr ⟨wk1.goes j Hj hlt1 (hG1 Hj (lej5.trans stj.w.le)), P1 (j + 1), fun H' p' => ⟨l.length - (j + 1), by omega, rfl, hlt1, p'⟩, fun x1 H' y1 => ?_⟩
                    obtain ⟨F7, d1, gr1, hd1, rd1⟩ := hY1 Fj j Hj x1 H' lej5 stj.w.le hlt1 (wk1.yields j Hj x1 H' hlt1 (hG1 Hj (lej5.trans stj.w.le)) y1)
                    rw [drop_at hd1] at hq
                    have g7 := gr1.stp stj.w
                    have big1 := lpDcT_grow hq
                    simp only [lpDcT] at hq
                    split at hq
                    · rename_i σ7 hp7
                      refine ⟨F7, σj, d1, σ7, g7.w, rd1, hp7, fun σV7 st7 c7 => ?_⟩
                      have ew1 : wipe σV7 ws = wipe σV2 ws := by rw [wipe_chg c7 hT1, wipe_wipe]
                      refine ⟨ew1, ?_⟩
                      split at hq
                      · rename_i σ8 h8
                        refine ⟨F7, σ7, st7.w, _, _, h8, fun H9 F9 st9 => iteT ?_⟩
                        split at hq
                        · rename_i k σ9 h9
                          split at hq
                          · rename_i hk'
                            split at hq
                            · rename_i z σ10 h10
                              refine ⟨F9, σ8, st9.w, k, σ9, h9, fun u H10 F10 st10 ru => ⟨F10, σ9, st10.w, z, σ10, h10, fun v H11 F11 st11 rv => ?_⟩⟩
                              obtain ⟨kk, rfl⟩ := keyT_of hk'
                              have tn := ((g7.trans (st7.trans st9)).trans st10).trans st11
                              obtain ⟨hR10, fR10, nR10⟩ := tn.apart hRj fRj nRj
                              have to1 : Stp X.K ct F1 H1 (wipe σV vs) (hide σ1 vs) F11 H11 (wipe σV2 ws) (hide σ10 ws) := ew1 ▸ (stj.trans tn).forget1 (ws := ws) hws
                              have nR11 : ¬ Own (wipe σV2 ws) (hide σ10 ws) R := fun o => nR10 (Own.of_hide (vs := ws) (ew1 ▸ o))
                              have rb' := gkv_T.mp (DTv.mono tn.le _ _ (gkv_T.mpr rb))
                              obtain ⟨b, rfl, hb⟩ := keyT_rep (DRep.mono st11.le _ _ ru)
                              refine ⟨accV1, kk, b, rfl, st11.w.le _ _ hb, hR10, ?_, F11, hide σ10 ws, dPut accD1 (kT kk) z, putK accV1 kk v, to1.poke hR fR10 nR11 hR10 Nt.dT, lej.trans tn.le, lej5.trans tn.le, upd_same, fR10, nR11, put_G eqv_keys rv rb', hq⟩
                              rw [← len_G rb]
                              have : all.length < sizeLine := by rw [← LIM_eq]; exact hl
                              omega
                            · cases hq
                          · cases hq
                        · cases hq
                      · rename_i σ8 h8
                        refine ⟨F7, σ7, st7.w, _, _, h8, fun H9 F9 st9 => iteF ?_⟩
                        have tn := g7.trans (st7.trans st9)
                        obtain ⟨hR10, fR10, nR10⟩ := tn.apart hRj fRj nRj
                        have to1 : Stp X.K ct F1 H1 (wipe σV vs) (hide σ1 vs) F9 H9 (wipe σV2 ws) (hide σ8 ws) := ew1 ▸ (stj.trans tn).forget1 (ws := ws) hws
                        have nR11 : ¬ Own (wipe σV2 ws) (hide σ8 ws) R := fun o => nR10 (Own.of_hide (vs := ws) (ew1 ▸ o))
                        exact ⟨F9, hide σ8 ws, accD1, accV1, to1, lej.trans tn.le, lej5.trans tn.le, hR10, fR10, nR11, gkv_T.mp (DTv.mono tn.le _ _ (gkv_T.mpr rb)), hq⟩
                      · cases hq
                    · cases hq
                  · have ej : j = l.length := by omega
                    subst ej
                    refine .inl ⟨wk1.stops Hj (hG1 Hj (lej5.trans stj.w.le)), ?_⟩
                    rw [List.drop_length] at hq
                    simp only [lpDcT] at hq
                    cases hq
                    have ew2 : wipe (wipe σV2 ws) vs = wipe σV vs := by rw [wipe_in2 hws, ew]
                    have back := stj.forget ew2
                    have nR6 : ¬ Own (wipe σV vs) (hide σ5 vs) R := fun o => nRj (Own.of_hide (vs := vs) (ew2 ▸ o))
                    exact ⟨Fj, hide σ5 vs, acc1, accV1, back, lej, hRj, fRj, nR6, rb, hp⟩
                · cases hp
              · cases hp
            · rename_i σ3 h3
              refine ⟨F3, σ2, st2.w, _, _, h3, fun H4 F4 st4 => iteF ?_⟩
              have turn := g3.trans (st2.trans st4)
              obtain ⟨hR5, fR5, nR5⟩ := turn.apart hRi fRi nRi
              have tot := (sti.trans turn).forget ew
              have nR6 : ¬ Own (wipe σV vs) (hide σ3 vs) R := fun o => nR5 (Own.of_hide (vs := vs) (ew ▸ o))
              exact ⟨F4, hide σ3 vs, accD, accV, tot, lei.trans turn.le, hR5, fR5, nR6, gkv_T.mp (DTv.mono turn.le _ _ (gkv_T.mpr ra)), hp⟩
            · cases hp
          · cases hp
        · have ei : i = ds.length := by omega
          subst ei
          refine .inl ⟨wk.stops Hi (hG Hi (lei.trans sti.w.le)), ?_⟩
          rw [List.drop_length] at hp
          simp only [lpDd] at hp
          cases hp
          have tot := Stp.show w1 sti
          refine q _ Hi Fi (st1.trans tot) ⟨rfl, ⟨R, _, rfl, fRi, hRi, .inr ⟨rfl, _, rfl, gkv_T.mpr ra⟩⟩, fun a ea => ?_⟩
          cases ea
          refine ⟨fun o => ?_, .inl (st1.there R hR)⟩
          obtain ⟨j, t, ej, to, aj⟩ := o
          by_cases hj : j ∈ vs
          · rw [shown_get (by rw [sti.len, hide_len]), if_pos (by simpa using hj)] at ej
            obtain ⟨_, u, z2, _⟩ := w1.own ⟨j, t, ej, to, aj⟩; rw [hR] at z2; cases z2
          · rw [shown_get (by rw [sti.len, hide_len]), if_neg (by simpa using hj)] at ej
            exact nRi ⟨j, t, ej, to, by rw [wipe_out hj]; exact aj⟩
      · cases e
    · cases e
  · cases e
theorem sf_dd (hu : X.A.units < cLine) {kx vx : Expr} {it it1 : MI} {T T1 : Tg} {tt tt1 : M Bool} {tk tv : M D} {ws : List Nat} (hc : X.calm = true) (hN : X.N.Nodup) (hi : SI X ct tg iter it) (ok : BlkOk X.N X.env.scope scope own)
    (hg : ∀ (s : Shared) (H : Hp) (C : Addr) (cl : List (Str × Addr)) (fp : List Addr), SG (X.blk s H scope (compEnvC scope cl C X.env) fp) ct tg T) (ht : ∀ (s : Shared) (H : Hp) (C : Addr) (cl : List (Str × Addr)) (fp : List Addr), STs (X.blk s H scope (compEnvC scope cl C X.env) fp) ct ifs tt)
    (hi1 : ∀ (s : Shared) (H : Hp) (C : Addr) (cl : List (Str × Addr)) (fp : List Addr), SI (X.blk s H scope (compEnvC scope cl C X.env) fp) ct tg1 iter1 it1)
    (hg1 : ∀ (s : Shared) (H : Hp) (C : Addr) (cl : List (Str × Addr)) (fp : List Addr), SG (X.blk s H scope (compEnvC scope cl C X.env) fp) ct tg1 T1) (ht1 : ∀ (s : Shared) (H : Hp) (C : Addr) (cl : List (Str × Addr)) (fp : List Addr), STs (X.blk s H scope (compEnvC scope cl C X.env) fp) ct ifs1 tt1)
    (hk : ∀ (s : Shared) (H : Hp) (C : Addr) (cl : List (Str × Addr)) (fp : List Addr), SE (X.blk s H scope (compEnvC scope cl C X.env) fp) ct kx tk)
    (hv : ∀ (s : Shared) (H : Hp) (C : Addr) (cl : List (Str × Addr)) (fp : List Addr), SE (X.blk s H scope (compEnvC scope cl C X.env) fp) ct vx tv) (hT : ∀ i ∈ T.vs, i ∈ own.map (·.2) := by decide) (hT1 : ∀ i ∈ T1.vs, i ∈ ws := by decide) (hws : ∀ i ∈ ws, i ∈ own.map (·.2) := by decide)
    (hs : ∀ x, foldedSetIterable iter X.env x = pure x := by intro _; rfl) (hs1 : ∀ env x, foldedSetIterable iter1 env x = pure x := by intro _ _; rfl) :
    SF X ct (.DictComp kx vx [⟨tg, iter, ifs, 0⟩, ⟨tg1, iter1, ifs1, 0⟩] scope pos) (mDd it T tt it1 T1 tt1 tk tv (own.map (·.2)) ws) := PEimp (pe_dd (o0 := .dT []) (put := putT) hc hN hi ok hws (fun h H hb => dt_empty h hb) (hputT hu) hg ht hi1 hg1 ht1 hk hv hs hs1) fun σV H Q h => dd_imp hT hT1 hws h
end
end Ev
end

section
set_option Elab.async false
set_option linter.all false
/-! EvEq: == and != of webs, by the class's own def. -/
namespace Ev
open PySem PySem.Spec PyProof.Rows L2
set_option autoImplicit false
section
variable {M : Model} {prog : Program} {w : World} {A : Around} {E : Value → Shared → Prop} {s : Shared} {K : PySem.W.Frag} {x C f : Addr} {ox : Obj} {od : Option Obj} {b : Value}
theorem neBody {Q : Fin → Shared → Prop} (hu : A.units < cLine) (X : K.In s.heap) (I : PySem.W.InstAt s.heap x ox C od) (hs : PySem.W.findIn K (.ref C) "__eq__" = some (some (.ref f))) (hf : PySem.W.isFn K (.ref f) = true)
    (h : wpAny (model prog w) A (call (.ref f) [.ref x, b]) (fun v s' => ∃ t, v = .bool t ∧ Q (.done (.ret (.bool (!t)))) s') E s) : wpAny (model prog w) A (Builtin.«object.__ne__» ⟨[.ref x, b], []⟩) Q E s := by
  unfold Builtin.«object.__ne__»
  repeat (first
    | with_reducible refine wpAny_cRoomFor hu ?_
    | (refine wpAny_bind (m := callSpecialIfBound? (.ref x) (Str.ofString "__eq__") [b]) (PySem.W.ifBound_K X I hs hf (wpAny_mono h (fun r s' z => by
          obtain ⟨t, rfl, q⟩ := z
          repeat (first | exact q | exact wpAny_pure q | exact wpAny_truthy_bool q | (refine wpAny_bind (m := truthy (.bool _)) (wpAny_truthy_bool ?_)) | wp_step)) fun _ _ z => z)))
    | wp_step)
theorem neBound {args : List Value} {Q : Option Value → Shared → Prop} (X : K.In s.heap) (I : PySem.W.InstAt s.heap x ox C od) (hs : PySem.W.findIn K (.ref C) "__ne__" = some (some (.builtin "object.__ne__")))
    (h : wpAny M A (call (.builtin "object.__ne__") (.ref x :: args)) (fun v => Q (some v)) E s) : wpAny M A (callSpecialIfBound? (.ref x) "__ne__" args) Q E s := by
  simp only [callSpecialIfBound?, bindSpecialIfBound?]
  refine wpAny_holding (wpAny_bind (wpAny_bind (wpAny_bind (I.type.here ((PySem.W.looks_findIn X hs).here ?_)))))
  refine wpAny_bind (wpAny_askSetting (wpAny_ite ?_))
  have done : wpAny M A (call (.builtin "object.__ne__") ([.ref x] ++ args) >>= fun v => pure (some v)) Q E s := wpAny_bind (wpAny_mono h (fun v s' z => wpAny_pure z) fun _ _ z => z)
  split
  · exact wpAny_bind (wpAny_of_eq (F.cmp_object.ne.bind _) (wpAny_pure (by exact done)))
  · exact wpAny_tryCatch (wpAny_bind (wpAny_of_eq (F.cmp_object.ne.bind _) (wpAny_pure (by exact done))))
theorem rcNe {Q : Value → Shared → Prop} (hu : A.units < cLine) (hu1 : A.in1.units < cLine) (X : K.In s.heap) (I : PySem.W.InstAt s.heap x ox C od) (hb : PySem.W.Looks (model prog w) s.heap (typeOf b) (.ref C)) (hm : PySem.W.mroIn K C (.type "object") = some true)
    (hn : PySem.W.findIn K (.ref C) "__ne__" = some (some (.builtin "object.__ne__"))) (hs : PySem.W.findIn K (.ref C) "__eq__" = some (some (.ref f))) (hf : PySem.W.isFn K (.ref f) = true)
    (h : wpAny (model prog w) A.in1 (call (.ref f) [.ref x, b]) (fun v s' => ∃ t, v = .bool t ∧ Q (.bool (!t)) s') E s) : wpAny (model prog w) A (richCompare .NotEq (.ref x) b) Q E s := by
  have one : wpAny (model prog w) A (tryCompare (.ref x) "__ne__" b) (fun r s' => ∃ v, r = some v ∧ Q v s') E s := by
    unfold tryCompare
    refine wpAny_bind (neBound X I hn (wpAny_call (codeAny_call_builtin F.cmp_object.ne.plain F.cmpEntry_ne (PySem.W.check_slot F.cmpKind_ne F.cmpSplit_ne (I.type.andThen (PySem.W.looks_mroIn X hm)) (F.cmpArgs_ne _ _) (neBody hu1 X I hs hf (wpAny_mono h (fun v s' z => ?_) fun _ _ z => z))))))
    obtain ⟨t, rfl, q⟩ := z
    exact ⟨t, rfl, wpAny_pure ⟨_, rfl, q⟩⟩
  unfold richCompare
  simp only [oneThing_ref]
  refine wpAny_holding (wpAny_bind (wpAny_cRoomFor hu ?_))
  refine wpAny_bind (I.type.here (wpAny_bind (hb.here ?_)))
  rw [show (Value.ref C != Value.ref C) = false by simp]
  simp only [Bool.false_eq_true, if_false]
  refine wpAny_bind (wpAny_pure ?_)
  simp only [Bool.false_eq_true, if_false]
  rw [cmpInfo_NotEq]
  refine wpAny_bind (wpAny_mono one (fun r s' z => ?_) fun _ _ z => z)
  obtain ⟨v, rfl, q⟩ := z
  exact wpAny_pure q
end
/-- the own == of a class, the inherited != -/
structure EqDef (P : Program) (w : World) (K : PySem.W.Frag) (mg : Str → Option Value) (base : Heap) (C : Addr) (T : List (Addr × Str)) (k : Nat) (g : List D → Option S) : Prop where
  ex : ∃ (f : Addr) (fd : FuncData), FnOk P w K mg base CX0 k f fd ["self", "other"] (spV K (ctW C T) 2 g) ∧ PySem.W.findIn K (.ref C) "__eq__" = some (some (.ref f)) ∧ PySem.W.isFn K (.ref f) = true ∧ Binds K fd ["self", "other"] []
  ne : PySem.W.findIn K (.ref C) "__ne__" = some (some (.builtin "object.__ne__"))
  ob : PySem.W.mroIn K C (.type "object") = some true
section
variable {X : Cx} {T : List (Addr × Str)} {C : Addr} {k j : Nat} {g : List D → Option S}
def rOwn (X : Cx) (C : Addr) (sp : Sp) (neg : Bool) : R2 := fun x y H Q => ∃ a b dx dy fs gs, x = .ref a ∧ y = .ref b ∧ H a = some (.ins C dx fs) ∧ H b = some (.ins C dy gs) ∧ sp [.ref a, .ref b] H (fun v H' => ∃ t, v = .bl t ∧ Q (.bl (neg ^^ t)) H') fun _ _ _ => False
theorem op_own (W : EqDef X.prog X.w X.K X.mg X.base C T k g) (hr : Room (k + 1) X.A) (neg : Bool) : OpR X (compareOp (if neg then .NotEq else .Eq)) (rOwn X C (spV X.K (ctW C T) 2 g) neg) := by
  obtain ⟨⟨f, fd, Fo, hs, hf, hb⟩, hn, hm⟩ := W
  intro pins s σ H x y v u Q I rx ry h
  obtain ⟨a, b, dx, dy, fs, gs, rfl, rfl, ha, hbb, hsp⟩ := h
  cases rx
  cases ry
  obtain ⟨mA, J, _⟩ := ins_get I.hok ha
  obtain ⟨mB, J', _⟩ := ins_get I.hok hbb
  obtain ⟨od, J, _⟩ := J.look
  obtain ⟨od', J', _⟩ := J'.look
  obtain ⟨m, hF⟩ := I.fr
  have runs : ∀ (B : Around), Room k B → B.frames = X.A.frames → ∀ R : Value → Shared → Prop, (∀ t s', EP X pins σ Q (.bool (neg ^^ t)) s' → R (.bool t) s') → wpAny (model X.prog X.w) B (call (.ref f) [.ref a, .ref b]) R X.xe s := fun B rB fB R hR => by
    have e0 : Env0 X.prog X.w X.K X.mg X.base B X.stack s H := by
      have e := I.env0
      exact ⟨by rw [fB]; exact e.frames, e.mod, e.bs, e.bsz, e.funs, e.frf, e.hok, e.bare⟩
    have hl := Fo.len _ _ _ _ hsp
    have r2 : Vals [V.ref a, V.ref b] [Value.ref a, Value.ref b] := .cons rfl (.cons rfl .nil)
    refine wpAny_call (codeAny_mono (Fo.run B X.stack s H ⟨[.ref a, .ref b], []⟩ [.ref a, .ref b] [.ref a, .ref b] _ _ rB e0 (by
      have := hb s [.ref a, .ref b] I.kIn (by simpa using hl)
      simpa using this) r2 hsp) fun r s' hq => ?_)
    cases r with
    | error e =>
      have bad : Passes CX0 X fun _ _ _ => False := fun _ _ _ _ _ _ _ z => z.elim
      exact bad pins σ H s e s' I hq
    | ok fl =>
      cases fl with
      | ret z =>
        obtain ⟨z, H', I', rz, t, ez, q⟩ := I.after hq
        subst ez
        cases rz
        exact hR t s' ⟨V.bl (neg ^^ t), H', I', rfl, q⟩
      | next => exact False.elim hq
      | brk => exact False.elim hq
      | cont => exact False.elim hq
  cases neg with
  | false =>
    show wpAny (model X.prog X.w) X.A (richCompare .Eq (.ref a) (.ref b)) (EP X pins σ Q) X.xe s
    refine PySem.W.cmp_K (op := .Eq) (tb := .ref C) hr.units0 hF I.ok.mod.kin J J'.type (by simp [PySem.W.notFirst]) hs hf ?_
    refine runs X.A (hr.mono (Nat.le_succ k)) rfl _ fun t s' q => ?_
    simp only [Bool.false_xor] at q
    exact q
  | true =>
    show wpAny (model X.prog X.w) X.A (richCompare .NotEq (.ref a) (.ref b)) (EP X pins σ Q) X.xe s
    refine rcNe hr.units0 hr.in1.units0 I.kIn J J'.type hm hn hs hf ?_
    refine runs X.A.in1 hr.in1 rfl _ fun t s' q => ?_
    simp only [Bool.true_xor] at q
    exact ⟨t, rfl, q⟩
def mEqO (g : List D → Option S) (neg : Bool) (ma mb : M D) : M S := fun σ => match ma σ with
  | some (.ins 0 l, σ1) => (match mb σ1 with
    | some (.ins 0 m, σ2) => (match g [.ins 0 l, .ins 0 m] with
      | some (.imm (.bl t)) => some (.imm (.bl (neg ^^ t)), σ2)
      | _ => none)
    | _ => none)
  | _ => none
theorem sf_eqO {a b : Expr} {ma mb : M D} {pos : Pos} (W : EqDef X.prog X.w X.K X.mg X.base C T k g) (hr : Room j X.A) (hj : k + 1 ≤ j) (neg : Bool) (ha : SE X (ctW C T) a ma) (hb : SE X (ctW C T) b mb) (hm : behindInMarks (if neg then .NotEq else .Eq) b = false) :
    SF X (ctW C T) (.Compare a [if neg then .NotEq else .Eq] [b] pos) (mEqO g neg ma mb) := PEimp (pe_cmpR (op_own W (hr.mono hj) neg) ha hb hm) fun σV H Q ⟨F, σ, w, s, σ', e, q⟩ => by
  unfold mEqO at e
  split at e
  · rename_i l σ1 h1
    split at e
    · rename_i m σ2 h2
      split at e
      · rename_i t h3
        cases e
        refine ⟨F, σ, w, _, _, h1, fun x H1 F1 st1 r1 => ⟨F1, σ1, st1.w, _, _, h2, fun y H2 F2 st2 r2 => ?_⟩⟩
        have r1' := DRep.mono st2.le _ _ r1
        obtain ⟨a, dx, fs, rfl, a1, a2, a3, a4⟩ := id r1'
        obtain ⟨b, dy, gs, rfl, b1, b2, b3, b4⟩ := id r2
        refine ⟨a, b, dx, dy, fs, gs, rfl, rfl, st2.w.le _ _ a1, st2.w.le _ _ b1, F2, [.ins 0 l, .ins 0 m], .imm (.bl t), st2.w.le, ⟨st2.w.tb, st2.w.nt⟩, rfl, DReps.cons r1' (DReps.cons r2 DReps.nil), h3, fun v F3 H3 gr tb rv => ?_⟩
        refine ⟨t, rv, ?_⟩
        exact q _ H3 F3 ((st1.trans st2).trans (gr.stp st2.w tb)) rfl
      · cases e
    · cases e
  · cases e
theorem st_eqO {a b : Expr} {ma mb : M D} {pos : Pos} (W : EqDef X.prog X.w X.K X.mg X.base C T k g) (hr : Room j X.A) (hj : k + 1 ≤ j) (neg : Bool) (ha : SE X (ctW C T) a ma) (hb : SE X (ctW C T) b mb) (hm : behindInMarks (if neg then .NotEq else .Eq) b = false) :
    ST X (ctW C T) (.Compare a [if neg then .NotEq else .Eq] [b] pos) (mT (mEqO g neg ma mb)) := PTimp (pt_cmpR (op_own W (hr.mono hj) neg) ha hb hm) fun σV H Q ⟨F, σ, w, s, σ', e, q⟩ => by
  unfold mT mEqO at e
  split at e
  · rename_i t0 σ0 h0
    cases e
    split at h0
    · rename_i l σ1 h1
      split at h0
      · rename_i m σ2 h2
        split at h0
        · rename_i t h3
          cases h0
          refine ⟨F, σ, w, _, _, h1, fun x H1 F1 st1 r1 => ⟨F1, σ1, st1.w, _, _, h2, fun y H2 F2 st2 r2 => ?_⟩⟩
          have r1' := DRep.mono st2.le _ _ r1
          obtain ⟨a, dx, fs, rfl, a1, a2, a3, a4⟩ := id r1'
          obtain ⟨b, dy, gs, rfl, b1, b2, b3, b4⟩ := id r2
          refine ⟨a, b, dx, dy, fs, gs, rfl, rfl, st2.w.le _ _ a1, st2.w.le _ _ b1, F2, [.ins 0 l, .ins 0 m], .imm (.bl t), st2.w.le, ⟨st2.w.tb, st2.w.nt⟩, rfl, DReps.cons r1' (DReps.cons r2 DReps.nil), h3, fun v F3 H3 gr tb rv => ?_⟩
          exact ⟨t, rv, _, rfl, q H3 F3 ((st1.trans st2).trans (gr.stp st2.w tb))⟩
        · cases h0
      · cases h0
    · cases h0
  · cases e
end
end Ev
end

section
set_option Elab.async false
set_option linter.all false
/-! EvTr: tuple(range(n)), tuple * int. -/
namespace Ev
open PySem PySem.Spec PyProof.Rows L2
set_option autoImplicit false
section
variable {X : Cx} {ct : Ct}
def mTupR (m : M D) : M S := fun σ => match m σ with
  | some (.int j, σ') => if (decide (1 ≤ j) && decide (j ≤ 1000000)) = true then some (.imm (.tup false (dRng 0 j.toNat)), σ') else none
  | _ => none
theorem rgV_rep {K : PySem.W.Frag} {F : Hp} (j : Int) : DReps K ct F (dRng 0 j.toNat) (rgV 0 j) := by
  unfold dRng rgV
  rw [Int.sub_zero]
  generalize List.range j.toNat = l
  induction l with
  | nil => exact rfl
  | cons a l ih => exact ⟨_, _, rfl, rfl, ih⟩
theorem sf_tupR {a : Expr} {m : M D} {p p2 pos pos2 : Pos} (hc : X.calm = true) (hg : Gl X "tuple") (hm : X.mg "tuple" = none) (hg2 : Gl X "range") (hm2 : X.mg "range" = none) (ha : SE X ct a m)
    (na : starEach [Expr.Call (.Name "range" p2) [a] [] pos2] X.env = (false, eval (.Call (.Name "range" p2) [a] [] pos2) X.env) :: starEach [] X.env := by rfl) (na2 : starEach [a] X.env = (false, eval a X.env) :: starEach [] X.env := by rfl) :
    SF X ct (.Call (.Name "tuple" p) [.Call (.Name "range" p2) [a] [] pos2] [] pos) (mTupR m) := PEimp (pe_tupRg hc hg hm (prg_1 hg2 hm2 ha na2) na) fun σV H Q ⟨F, σ, w, s, σ', e, q⟩ => by
  unfold mTupR at e
  split at e
  · rename_i j σ1 h1
    split at e
    · rename_i hj
      cases e
      rw [Bool.and_eq_true, decide_eq_true_eq, decide_eq_true_eq] at hj
      refine ⟨F, σ, w, _, _, h1, fun v H1 F1 st rv => ⟨j, rv, RgOk.of_le (by omega) (by omega) (by omega) (by omega), fun p hp => ?_⟩⟩
      have g := Grw.new (o := .tup (rgV 0 j)) st.w.le hp (by intro ps z; cases z)
      exact q _ _ _ (st.trans (g.stp st.w)) ⟨p, _, rfl, upd_same, rgV_rep j⟩
    · cases e
  · cases e
def fMulT (d e : D) : Option S := match d, e with
  | .tup _ l, .int k => if (decide (l ≠ []) && decide (2 ≤ k) && decide (k ≤ 1000) && decide (l.length ≤ 1000)) = true then some (.imm (.tup false (List.replicate k.toNat l).flatten)) else none
  | _, _ => none
theorem k_mulT : OpOk X ct (rRepT X.K) fMulT := fun F H d e c x y Q le hf rx ry q => by
  unfold fMulT at hf
  split at hf
  · rename_i k l n
    split at hf
    · rename_i h
      cases hf
      simp only [Bool.and_eq_true, decide_eq_true_eq] at h
      obtain ⟨⟨⟨h1, h2⟩, h3⟩, h4⟩ := h
      obtain ⟨a, vs, rfl, ha, r⟩ := rx
      have hl := r.length
      refine ⟨a, n, vs, rfl, ry, le.sqt ha.sqt, fun z => h1 (List.eq_nil_of_length_eq_zero (by rw [hl, z]; rfl)), h2, h3, by omega, fun p hp => ?_⟩
      have g := Grw.new (o := .tup (List.replicate n.toNat vs).flatten) le hp (by intro ps z; cases z)
      exact q _ _ _ g ⟨p, _, rfl, upd_same, DReps.mono g.le _ _ (reps_rep r _)⟩
    · cases hf
  · cases hf
end
end Ev
end

section
set_option Elab.async false
set_option linter.all false
/-! EvIw: isinstance(x, Web), x a web or a plain thing. -/
namespace Ev
open PySem PySem.Spec PyProof.Rows L2
set_option autoImplicit false
/-- no plain type is the class's -/
def NotC (K : PySem.W.Frag) (C : Addr) : Prop := ∀ t : Ty, PySem.W.kitOne K (.type t.name) (.ref C) = some false
def tysL : List Ty := [.non, .bl, .int, .str, .tup, .lst, .dct]
theorem tys_all (t : Ty) : t ∈ tysL := by cases t <;> decide
def fIsW2 (d : D) : Option S := match d with
  | .ins 0 _ => some (.imm (.bl true))
  | d => if d.ty.isSome = true then some (.imm (.bl false)) else none
section
variable {X : Cx} {C : Addr} {T : List (Addr × Str)}
theorem sf_isW2 {e : Expr} {p pos p2 : Pos} {y : Str} {a : A} (hn : NotC X.K C) (hg : Gl X "isinstance") (hm : X.mg "isinstance" = none) (hgy : Gl X y) (hW : C8.InsC X.K C ∧ X.mg y = some (.ref C) ∧ PySem.W.keepIn X.K (.ref C) = true) (ha : AE X (ctW C T) e a)
    (hdy : (y == ("__debug__" : Str)) = false := by decide) (hv : bootBuiltins "isinstance" = some (.builtin "isinstance") := by decide +kernel)
    (he : starEach [e, .Name y p2] X.env = (false, eval e X.env) :: starEach [.Name y p2] X.env := by rfl) (he2 : starEach [.Name y p2] X.env = (false, eval (.Name y p2) X.env) :: starEach [] X.env := by rfl) (hpl : (backTo pos (starEach [.Name y p2] X.env)).any (·.1) = false := by rfl) :
    SF X (ctW C T) (.Call (.Name "isinstance" p) [e, .Name y p2] [] pos) (m1 fIsW2 a) :=
  PEimp (pe_callB call_isi hg hm hv (pa_cons ha (pa_cons (pe_glob (v := .ref C) hgy hW.2.1 rfl hdy) pa_nil he2) he) (by decide) (by decide) he hpl) fun σV H Q ⟨F, σ, w, s, σ', e, q⟩ =>
    m1_ok (r := fun x H Q => rIsi X.K [x, .ref C] H Q) (fun F H d c x Q le hf rx q => by
      unfold fIsW2 at hf
      split at hf
      · rename_i l
        cases hf
        obtain ⟨a, dx, fs, rfl, h1, h2, h3, h4⟩ := rx
        exact ⟨_, _, _, _, _, rfl, .own C, .base (TyOf.ins (le _ _ h1) hW.1.cl hW.1.ha hW.1.hn hW.1.htk hW.1.hm), hW.1.me, q _ F H (Grw.refl le) rfl⟩
      · split at hf
        · rename_i h
          cases hf
          obtain ⟨t, h1⟩ := Option.isSome_iff_exists.mp h
          exact ⟨_, _, _, _, _, rfl, .own C, tyX_of le rx h1, hn t, q _ F H (Grw.refl le) rfl⟩
        · cases hf) w e q
end
end Ev
end

section
set_option Elab.async false
set_option linter.all false
set_option maxRecDepth 100000
set_option maxHeartbeats 0
namespace Hd
open PySem PySem.Spec PyProof.Rows L2
def top (i : Nat) : Stmt := PySem.Challenge.pw_fillorgauge_k01_whole_parts_skeletons_st.main.body.getD i (.Pass ⟨0, 0, 0, 0⟩)
abbrev s_is_integer : Stmt := top 1
def d_is_integer : He.DefD := ⟨("is_integer", none), "is_integer", "is_integer", defArgs s_is_integer, defBody s_is_integer, defScope s_is_integer, [], []⟩
abbrev s_is_number : Stmt := top 2
def d_is_number : He.DefD := ⟨("is_number", none), "is_number", "is_number", defArgs s_is_number, defBody s_is_number, defScope s_is_number, [], []⟩
abbrev s_is_from_nought : Stmt := top 3
def d_is_from_nought : He.DefD := ⟨("is_from_nought", none), "is_from_nought", "is_from_nought", defArgs s_is_from_nought, defBody s_is_from_nought, defScope s_is_from_nought, [], []⟩
abbrev s_is_ascending : Stmt := top 4
def d_is_ascending : He.DefD := ⟨("is_ascending", none), "is_ascending", "is_ascending", defArgs s_is_ascending, defBody s_is_ascending, defScope s_is_ascending, [], []⟩
abbrev s_TooMany_init : Stmt := inClass (top 10) 0
abbrev s_is_side_form : Stmt := top 15
def d_is_side_form : He.DefD := ⟨("is_side_form", none), "is_side_form", "is_side_form", defArgs s_is_side_form, defBody s_is_side_form, defScope s_is_side_form, [], []⟩
abbrev s_parts_of : Stmt := top 16
def d_parts_of : He.DefD := ⟨("parts_of", none), "parts_of", "parts_of", defArgs s_parts_of, defBody s_parts_of, defScope s_parts_of, [], []⟩
abbrev s_walls_of : Stmt := top 17
def d_walls_of : He.DefD := ⟨("walls_of", none), "walls_of", "walls_of", defArgs s_walls_of, defBody s_walls_of, defScope s_walls_of, [], []⟩
abbrev s_is_within : Stmt := top 18
def d_is_within : He.DefD := ⟨("is_within", none), "is_within", "is_within", defArgs s_is_within, defBody s_is_within, defScope s_is_within, [], []⟩
abbrev s_Web_init : Stmt := inClass (top 19) 0
def d_Web_init : He.DefD := ⟨("Web", some "__init__"), "__init__", "Web.__init__", defArgs s_Web_init, defBody s_Web_init, defScope s_Web_init, [], []⟩
abbrev s_Web_eq : Stmt := inClass (top 19) 1
def d_Web_eq : He.DefD := ⟨("Web", some "__eq__"), "__eq__", "Web.__eq__", defArgs s_Web_eq, defBody s_Web_eq, defScope s_Web_eq, [], []⟩
abbrev s_check_tops : Stmt := top 20
def d_check_tops : He.DefD := ⟨("check_tops", none), "check_tops", "check_tops", defArgs s_check_tops, defBody s_check_tops, defScope s_check_tops, [], []⟩
abbrev s_check_walls : Stmt := top 21
def d_check_walls : He.DefD := ⟨("check_walls", none), "check_walls", "check_walls", defArgs s_check_walls, defBody s_check_walls, defScope s_check_walls, [], []⟩
abbrev s_degree_asked : Stmt := top 22
def d_degree_asked : He.DefD := ⟨("degree_asked", none), "degree_asked", "degree_asked", defArgs s_degree_asked, defBody s_degree_asked, defScope s_degree_asked, [], []⟩
abbrev s_all_sides : Stmt := top 23
def d_all_sides : He.DefD := ⟨("all_sides", none), "all_sides", "all_sides", defArgs s_all_sides, defBody s_all_sides, defScope s_all_sides, [], []⟩
abbrev s_web_by : Stmt := top 24
def d_web_by : He.DefD := ⟨("web_by", none), "web_by", "web_by", defArgs s_web_by, defBody s_web_by, defScope s_web_by, [], []⟩
abbrev s_is_part : Stmt := top 25
def d_is_part : He.DefD := ⟨("is_part", none), "is_part", "is_part", defArgs s_is_part, defBody s_is_part, defScope s_is_part, [], []⟩
abbrev s_skeleton : Stmt := top 26
def d_skeleton : He.DefD := ⟨("skeleton", none), "skeleton", "skeleton", defArgs s_skeleton, defBody s_skeleton, defScope s_skeleton, [], []⟩
abbrev s_side_asked : Stmt := top 27
def d_side_asked : He.DefD := ⟨("side_asked", none), "side_asked", "side_asked", defArgs s_side_asked, defBody s_side_asked, defScope s_side_asked, [], []⟩
abbrev s_star : Stmt := top 28
def d_star : He.DefD := ⟨("star", none), "star", "star", defArgs s_star, defBody s_star, defScope s_star, [], []⟩
abbrev s_link : Stmt := top 29
def d_link : He.DefD := ⟨("link", none), "link", "link", defArgs s_link, defBody s_link, defScope s_link, [], []⟩
abbrev s_law_hand : Stmt := top 31
def d_law_hand : He.DefD := ⟨("_law_hand", none), "_law_hand", "_law_hand", defArgs s_law_hand, defBody s_law_hand, defScope s_law_hand, [], []⟩
abbrev s_law_draw : Stmt := top 32
def d_law_draw : He.DefD := ⟨("_law_draw", none), "_law_draw", "_law_draw", defArgs s_law_draw, defBody s_law_draw, defScope s_law_draw, [], []⟩
abbrev s_law_some : Stmt := top 33
def d_law_some : He.DefD := ⟨("_law_some", none), "_law_some", "_law_some", defArgs s_law_some, defBody s_law_some, defScope s_law_some, [], []⟩
abbrev s_law_is : Stmt := top 34
def d_law_is : He.DefD := ⟨("_law_is", none), "_law_is", "_law_is", defArgs s_law_is, defBody s_law_is, defScope s_law_is, [], []⟩
abbrev s_law_faces : Stmt := top 35
def d_law_faces : He.DefD := ⟨("_law_faces", none), "_law_faces", "_law_faces", defArgs s_law_faces, defBody s_law_faces, defScope s_law_faces, [], []⟩
abbrev s_law_sides : Stmt := top 36
def d_law_sides : He.DefD := ⟨("_law_sides", none), "_law_sides", "_law_sides", defArgs s_law_sides, defBody s_law_sides, defScope s_law_sides, [], []⟩
abbrev s_law_tops : Stmt := top 37
def d_law_tops : He.DefD := ⟨("_law_tops", none), "_law_tops", "_law_tops", defArgs s_law_tops, defBody s_law_tops, defScope s_law_tops, [], []⟩
abbrev s_law_corners : Stmt := top 38
def d_law_corners : He.DefD := ⟨("_law_corners", none), "_law_corners", "_law_corners", defArgs s_law_corners, defBody s_law_corners, defScope s_law_corners, [], []⟩
abbrev s_law_drawn : Stmt := top 39
def d_law_drawn : He.DefD := ⟨("_law_drawn", none), "_law_drawn", "_law_drawn", defArgs s_law_drawn, defBody s_law_drawn, defScope s_law_drawn, [], []⟩
abbrev s_law_word : Stmt := top 40
def d_law_word : He.DefD := ⟨("_law_word", none), "_law_word", "_law_word", defArgs s_law_word, defBody s_law_word, defScope s_law_word, [], []⟩
abbrev s_law_web : Stmt := top 41
def d_law_web : He.DefD := ⟨("_law_web", none), "_law_web", "_law_web", defArgs s_law_web, defBody s_law_web, defScope s_law_web, [], []⟩
abbrev s_law_is_about : Stmt := top 42
def d_law_is_about : He.DefD := ⟨("_law_is_about", none), "_law_is_about", "_law_is_about", defArgs s_law_is_about, defBody s_law_is_about, defScope s_law_is_about, [], []⟩
abbrev s_law_are_parts_right : Stmt := top 43
def d_law_are_parts_right : He.DefD := ⟨("_law_are_parts_right", none), "_law_are_parts_right", "_law_are_parts_right", defArgs s_law_are_parts_right, defBody s_law_are_parts_right, defScope s_law_are_parts_right, [], []⟩
abbrev s_law_are_skeletons_right : Stmt := top 44
def d_law_are_skeletons_right : He.DefD := ⟨("_law_are_skeletons_right", none), "_law_are_skeletons_right", "_law_are_skeletons_right", defArgs s_law_are_skeletons_right, defBody s_law_are_skeletons_right, defScope s_law_are_skeletons_right, [], []⟩
abbrev s_law_are_refused : Stmt := top 45
def d_law_are_refused : He.DefD := ⟨("_law_are_refused", none), "_law_are_refused", "_law_are_refused", defArgs s_law_are_refused, defBody s_law_are_refused, defScope s_law_are_refused, [], []⟩
abbrev s_law : Stmt := top 46
def d_law : He.DefD := ⟨("law", none), "law", "law", defArgs s_law, defBody s_law, defScope s_law, [], []⟩
def fn : List He.DefD := [d_is_integer, d_is_number, d_is_from_nought, d_is_ascending, d_is_side_form, d_parts_of, d_walls_of, d_is_within, d_Web_init, d_Web_eq, d_check_tops, d_check_walls, d_degree_asked, d_all_sides, d_web_by, d_is_part, d_skeleton, d_side_asked, d_star, d_link, d_law_hand, d_law_draw, d_law_some, d_law_is, d_law_faces, d_law_sides, d_law_tops, d_law_corners, d_law_drawn, d_law_word, d_law_web, d_law_is_about, d_law_are_parts_right, d_law_are_skeletons_right, d_law_are_refused, d_law]
def fa : List He.Fa := [.glo "is_integer", .glo "is_number", .glo "is_from_nought", .glo "is_ascending", .int "MOST_CORNER" 999, .int "MOST_CORNERS" 7, .int "MOST_SIDES" 600, .glo "is_side_form", .glo "parts_of", .glo "walls_of", .glo "is_within", .glo "check_tops", .glo "check_walls", .glo "degree_asked", .glo "all_sides", .glo "web_by", .glo "is_part", .glo "skeleton", .glo "side_asked", .glo "star", .glo "link", .glo "_law_hand", .glo "_law_draw", .glo "_law_some", .glo "_law_is", .glo "_law_faces", .glo "_law_sides", .glo "_law_tops", .glo "_law_corners", .glo "_law_drawn", .glo "_law_word", .glo "_law_web", .glo "_law_is_about", .glo "_law_are_parts_right", .glo "_law_are_skeletons_right", .glo "_law_are_refused", .glo "law", .free "ValueError", .free "abs", .free "all", .free "any", .free "bool", .free "int", .free "isinstance", .free "len", .free "list", .free "min", .free "range", .free "repr", .free "sorted", .free "super", .free "tuple", .glo "Web", .cls "Web", .mkr "Web", .noat "Web" "tops", .noat "Web" "lots", .noat "Web" "known", .glo "NoDegree", .glo "NoSide", .exc "NoDegree", .exc "NoSide", .exm "NoDegree" "WebError" true, .exm "NoSide" "WebError" true, .glo "WebError"]
def lo0 : List PySem.Str := ["is_integer", "is_number", "is_from_nought", "is_ascending", "WebError", "BadWeb", "NoDegree", "NoSide", "TooMany", "MOST_CORNER", "MOST_CORNERS", "MOST_SIDES", "is_side_form", "parts_of", "walls_of", "is_within", "Web", "check_tops", "check_walls", "degree_asked", "all_sides", "web_by", "is_part", "skeleton", "side_asked", "star", "link", "_law_hand", "_law_draw", "_law_some"]
def lo1 : List PySem.Str := ["_law_is", "_law_faces", "_law_sides", "_law_tops", "_law_corners", "_law_drawn", "_law_word", "_law_web", "_law_is_about", "_law_are_parts_right", "_law_are_skeletons_right", "_law_are_refused"]
def loose : List PySem.Str := lo0 ++ lo1
abbrev R : PySem.W.OpenRow := PySem.W.OpenLaw.row PySem.Challenge.rw_fillorgauge_k01_whole_parts_skeletons_st
def exB0 (K : PySem.W.Frag) : Bool := He.eqO (PySem.W.findIn K (.ref (He.ga K "Web")) "__class__") (some (some (.builtin "object.__class__"))) && (He.eqO (PySem.W.specialIn K (.builtin "object.__class__") "__get__") (some (some (.builtin "getset_descriptor.__get__"))) &&
  (decide (PySem.W.takesIn K (.builtin "object.__class__") = some true) && (decide (PySem.W.mroIn K (He.ga K "Web") (.type "object") = some true) && decide (PySem.W.kitOne K (.ref (He.ga K "Web")) (.ref (He.ga K "Web")) = some true))))
def errL : List PySem.Str := ["NoDegree", "NoSide"]
def excB (K : PySem.W.Frag) (C : Addr) : Bool := He.eqO (PySem.W.findIn K (.ref C) "__getattribute__") (some (some (.builtin "BaseException.__getattribute__"))) && (He.eqO (PySem.W.findIn K (.ref C) "__getattr__") (some none) &&
  (decide (PySem.W.hasDictIn K C = true) && (He.eqO (PySem.W.findIn K (.ref C) "__class__") (some (some (.builtin "object.__class__"))) && (decide (PySem.W.mroIn K C (.type "object") = some true) && decide (PySem.W.kitOne K (.ref C) (.type "ValueError") = some true)))))
def kitsB (K : PySem.W.Frag) : Bool := (List.range errL.length).all fun i => (List.range errL.length).all fun j => decide (PySem.W.kitOne K (.ref (He.ga K (errL.getD i PySem.Str.empty))) (.ref (He.ga K (errL.getD j PySem.Str.empty))) = some (i == j))
def tf : List He.Defn := [("_law_are_refused", none)]
def exBB (K : PySem.W.Frag) : Bool := exB0 K && (kitsB K && (decide ((tf.map fun p => (He.cT K p).2).Nodup) && errL.all fun x => excB K (He.ga K x)))
def eqA (K : PySem.W.Frag) : Addr := He.fAd K ("Web", some "__eq__")
def eqB (K : PySem.W.Frag) : Bool := He.eqO (PySem.W.findIn K (.ref (He.ga K "Web")) "__eq__") (some (some (.ref (eqA K)))) && (PySem.W.isFn K (.ref (eqA K)) && He.eqO (PySem.W.findIn K (.ref (He.ga K "Web")) "__ne__") (some (some (.builtin "object.__ne__"))))
def notB (K : PySem.W.Frag) : Bool := ["NoneType", "bool", "int", "str", "tuple", "list", "dict"].all fun t => decide (PySem.W.kitOne K (.type t) (.ref (He.ga K "Web")) = some false)
def exB (K : PySem.W.Frag) : Bool := eqB K && (notB K && exBB K)
abbrev hk : PySem.W.Hook := He.hookX 5 fa fn [] tf exB
def ob (s : PySem.W.SharedT) : He.AlX := He.obsX 5 fa fn [] tf exB (HandSHeadRun.getT s)
theorem ob_eq (s : PySem.W.SharedT) : ob s = hk.obs s.abs := He.obsX_eq (HandSHeadRun.getT_eq s)
theorem run (w : World) : HandSHeadRun.RunEq R (PySem.W.view R.prog [46]) hk ob 4000 loose w := by
  intro os
  kernel_rfl
end Hd
end

section
set_option Elab.async false
set_option linter.all false
set_option maxRecDepth 100000
set_option maxHeartbeats 0
namespace Wk
open PySem PySem.Spec L2 Ev Hd
def errN : List Str := ["NoDegree", "NoSide"]
/-! ### what the program text gives -/
structure Fx (K : PySem.W.Frag) (mg : Str → Option Value) (C : Addr) (ea : Nat → Addr) (CS : Addr) : Prop where
  n_ValueError : mg "ValueError" = none
  n_abs : mg "abs" = none
  n_all : mg "all" = none
  n_any : mg "any" = none
  n_bool : mg "bool" = none
  n_int : mg "int" = none
  n_isinstance : mg "isinstance" = none
  n_len : mg "len" = none
  n_list : mg "list" = none
  n_min : mg "min" = none
  n_range : mg "range" = none
  n_repr : mg "repr" = none
  n_sorted : mg "sorted" = none
  n_tuple : mg "tuple" = none
  i_MOST_CORNER : ∃ t, mg "MOST_CORNER" = some (.int 999 t)
  i_MOST_CORNERS : ∃ t, mg "MOST_CORNERS" = some (.int 7 t)
  i_MOST_SIDES : ∃ t, mg "MOST_SIDES" = some (.int 600 t)
  cls : Cls K C
  er : ErrF K mg ea CS "WebError" errN
  no_tops : NoAttr K C "tops"
  no_lots : NoAttr K C "lots"
  no_known : NoAttr K C "known"
  notW : NotC K C
  Web : C8.InsC K C ∧ mg "Web" = some (.ref C) ∧ PySem.W.keepIn K (.ref C) = true
/-! ### Web.__eq__ -/
def m_Web_eq : M Fl :=
  (mRet (mAnd (m1 fIsW2 (.pk 1)) (m2 fEq (.val (mFld 0 0 (mV 0))) (.val (mFld 0 0 (mV 1))))))
def g_Web_eq : List D → Option S := runV 2 m_Web_eq
theorem sc_Web_eq : FnScope ["self", "other"] ["self", "other"] (defScope s_Web_eq) := ⟨rfl, rfl, rfl, by decide +kernel, rfl, by decide +kernel, by decide +kernel⟩
theorem ok_Web_eq {P : Program} {w : World} {K : PySem.W.Frag} {mg : Str → Option Value} {base : Heap} {C f : Addr} {ea : Nat → Addr} {CS : Addr} {T : List (Addr × Str)} {fd : FuncData} (U : Fx K mg C ea CS) (F : FunD K "__eq__" "Web.__eq__" (defArgs s_Web_eq) (defBody s_Web_eq) (defScope s_Web_eq) [] [] f fd)
    (he : PySem.W.findIn K (.ref C) "__eq__" = some (some (.ref f)) ∧ PySem.W.isFn K (.ref f) = true ∧ PySem.W.findIn K (.ref C) "__ne__" = some (some (.builtin "object.__ne__"))) :
    EqDef P w K mg base C T 1 g_Web_eq := by
  have S := sc_Web_eq
  exact ⟨⟨f, fd, fokV (k := 0) F S rfl fun cdv A outer s H E hr =>
    (sss_one (ss_ret (sf_and (sf_isW2 U.notW rfl U.n_isinstance rfl U.Web (ae_p (pv 1))) (sf_one (sf_cmp (op_eqD (roomU64 hr)) k_eq (ae_v (se_fld (i := 0) (j := 0) U.cls U.no_tops rfl (ctw_lt (by decide)) (se_var (pv 0)))) (ae_v (se_fld (i := 0) (j := 0) U.cls U.no_tops rfl (ctw_lt (by decide)) (se_var (pv 1)))) rfl))))), he.1, he.2.1, F.bindsN fun _ _ _ _ _ _ us hl => match us, hl with | [_, _], _ => rfl⟩, he.2.2, U.Web.1.hm⟩
/-! ### walls_of -/
def m_walls_of : M Fl :=
  (mSeq (mIf (mT (m2 fEq (.val (mFz (m1 fLen (.pk 0)))) (.val (mC (.int 1))))) (mRet (mLst [])) mNx) (mRet (mLc (itR1 (mFz (m1 fLen (.pk 0)))) (.nm 1) mYes (mFz (m2 fAdd (.val (mFz (mSl (.pk 0) .no (.at_ (mV 1))))) (.val (mFz (mSl (.pk 0) (.at_ (mFz (m2 fAdd (.pk 1) (.val (mC (.int 1)))))) .no))))) [1])))
def g_walls_of : List D → Option S := runV 2 m_walls_of
theorem sc_walls_of : FnScope ["side", "at"] ["side"] (defScope s_walls_of) := ⟨rfl, rfl, rfl, by decide +kernel, rfl, by decide +kernel, by decide +kernel⟩
theorem ok_walls_of {P : Program} {w : World} {K : PySem.W.Frag} {mg : Str → Option Value} {base : Heap} {C f : Addr} {ea : Nat → Addr} {CS : Addr} {T : List (Addr × Str)} {fd : FuncData} (U : Fx K mg C ea CS) (F : FunD K "walls_of" "walls_of" (defArgs s_walls_of) (defBody s_walls_of) (defScope s_walls_of) [] [] f fd) (hm : mg "walls_of" = some (.ref f)) :
    CalV P w K mg base (ctW C T) 1 "walls_of" 1 g_walls_of := by
  have S := sc_walls_of
  exact mkV (k := 0) F hm S rfl (fun _ _ _ _ _ _ us hl => match us, hl with | [_], _ => rfl) fun cdv A outer s H E hr =>
    (sss_cons (ss_if (st_cmp (op_eqD (roomU64 hr)) k_eq (ae_v (SF.toE (sf_b1 cr_len k_len rfl U.n_len (by decide +kernel) (ae_p (pv 0))))) (ae_v se_int) rfl) (sss_one (ss_ret (sf_lst ses_nil))) sss_nil) (sss_one (ss_ret (sf_lc (own := [("at", 1)]) rfl S.nd (si_r1 rfl U.n_range (SF.toE (sf_b1 cr_len k_len rfl U.n_len (by decide +kernel) (ae_p (pv 0))))) (blkOk_by (by kernel_rfl)) (fun _ _ _ _ _ => (sg_nm (i := 1) S.nd rfl (by first | exact .inl rfl | exact .inr rfl))) (fun _ _ _ _ _ => sts_nil) (fun _ _ _ _ _ => (SF.toE (sf_bin op_addAny k_add (ae_v (SF.toE (sf_sl (ae_p (pv 0)) so_no (so_at (se_var (pv 1)))))) (ae_v (SF.toE (sf_sl (ae_p (pv 0)) (so_at (SF.toE (sf_bin op_addAny k_add (ae_p (pv 1)) (ae_v se_int)))) so_no))))))))))
/-! ### check_walls -/
def m_check_walls : M Fl :=
  (mSeq (mSet 1 (mDcT (itD (mFld 0 0 (mV 0))) (.nm 3) mYes (mV 3) (mC (.bl true)) [3])) (mFor (itD (mFld 0 2 (mV 0))) (.nm 2) (mIf (mTru (.val (mFz (m1 fAny (.val (mFz (mLc (itD (mFz (mCall 1 g_walls_of [(mV 2)]))) (.nm 4) mYes (mFz (m2 (fInA false) (.pk 4) (.pk 1))) [4]))))))) mNo mNx)))
def g_check_walls : List D → Option S := runV 5 m_check_walls
theorem sc_check_walls : FnScope ["web", "tops", "side", "top", "wall"] ["web"] (defScope s_check_walls) := ⟨rfl, rfl, rfl, by decide +kernel, rfl, by decide +kernel, by decide +kernel⟩
theorem ok_check_walls {P : Program} {w : World} {K : PySem.W.Frag} {mg : Str → Option Value} {base : Heap} {C f : Addr} {ea : Nat → Addr} {CS : Addr} {T : List (Addr × Str)} {fd : FuncData} (U : Fx K mg C ea CS) (F : FunD K "check_walls" "check_walls" (defArgs s_check_walls) (defBody s_check_walls) (defScope s_check_walls) [] [] f fd) (hm : mg "check_walls" = some (.ref f)) (c_walls_of : CalV P w K mg base (ctW C T) 1 "walls_of" 1 g_walls_of) :
    CalV P w K mg base (ctW C T) 2 "check_walls" 1 g_check_walls := by
  have S := sc_check_walls
  exact mkV (k := 1) F hm S rfl (fun _ _ _ _ _ _ us hl => match us, hl with | [_], _ => rfl) fun cdv A outer s H E hr =>
    (sss_cons (ss_set (i := 1) S.nd rfl (by first | exact .inl rfl | exact .inr rfl) (sf_dcT (own := [("top", 3)]) hr.units0 rfl S.nd (si_d (se_fld (i := 0) (j := 0) U.cls U.no_tops rfl (ctw_lt (by decide)) (se_var (pv 0)))) (blkOk_by (by kernel_rfl)) (fun _ _ _ _ _ => (sg_nm (i := 3) S.nd rfl (by first | exact .inl rfl | exact .inr rfl))) (fun _ _ _ _ _ => sts_nil) (fun _ _ _ _ _ => (se_var (pv 3))) (fun _ _ _ _ _ => se_bl))) (sss_one (ss_for PassesOwn.never rfl (si_d (se_fld (i := 0) (j := 2) U.cls U.no_known rfl (ctw_lt (by decide)) (se_var (pv 0)))) (sg_nm (i := 2) S.nd rfl (by first | exact .inl rfl | exact .inr rfl)) (sss_one (ss_if (st_tru (ae_v (SF.toE (sf_b1 (cr_any rfl) k_any rfl U.n_any (by decide +kernel) (ae_v (SF.toE (sf_lc (own := [("wall", 4)]) rfl S.nd (si_d (SF.toE (sf_cl c_walls_of hr (by decide) rfl (ses_cons (se_var (pv 2)) ses_nil)))) (blkOk_by (by kernel_rfl)) (fun _ _ _ _ _ => (sg_nm (i := 4) S.nd rfl (by first | exact .inl rfl | exact .inr rfl))) (fun _ _ _ _ _ => sts_nil) (fun _ _ _ _ _ => (SF.toE (sf_cmp (op_inAny (roomU hr)) k_in (ae_p (pv 4)) (ae_p (pv 1)) rfl)))))))))) (sss_one ss_no) sss_nil)))))
/-! ### is_ascending -/
def m_is_ascending : M Fl :=
  (mRet (m1 fAll (.val (mFz (mLc (itR2 (mC (.int 1)) (mFz (m1 fLen (.pk 0)))) (.nm 1) mYes (mFz (m2 fLt (.val (mFz (m2 fIx (.pk 0) (.val (mFz (m2 (fI2 fun i j => .int (i - j)) (.pk 1) (.val (mC (.int 1))))))))) (.val (mFz (m2 fIx (.pk 0) (.pk 1)))))) [1])))))
def g_is_ascending : List D → Option S := runV 2 m_is_ascending
theorem sc_is_ascending : FnScope ["thing", "at"] ["thing"] (defScope s_is_ascending) := ⟨rfl, rfl, rfl, by decide +kernel, rfl, by decide +kernel, by decide +kernel⟩
theorem ok_is_ascending {P : Program} {w : World} {K : PySem.W.Frag} {mg : Str → Option Value} {base : Heap} {C f : Addr} {ea : Nat → Addr} {CS : Addr} {T : List (Addr × Str)} {fd : FuncData} (U : Fx K mg C ea CS) (F : FunD K "is_ascending" "is_ascending" (defArgs s_is_ascending) (defBody s_is_ascending) (defScope s_is_ascending) [] [] f fd) (hm : mg "is_ascending" = some (.ref f)) :
    CalV P w K mg base (ctW C T) 1 "is_ascending" 1 g_is_ascending := by
  have S := sc_is_ascending
  exact mkV (k := 0) F hm S rfl (fun _ _ _ _ _ _ us hl => match us, hl with | [_], _ => rfl) fun cdv A outer s H E hr =>
    (sss_one (ss_ret (sf_b1 (cr_all rfl) k_all rfl U.n_all (by decide +kernel) (ae_v (SF.toE (sf_lc (own := [("at", 1)]) rfl S.nd (si_r2 rfl U.n_range se_int (SF.toE (sf_b1 cr_len k_len rfl U.n_len (by decide +kernel) (ae_p (pv 0))))) (blkOk_by (by kernel_rfl)) (fun _ _ _ _ _ => (sg_nm (i := 1) S.nd rfl (by first | exact .inl rfl | exact .inr rfl))) (fun _ _ _ _ _ => sts_nil) (fun _ _ _ _ _ => (SF.toE (sf_cmp (op_ltAny hr.units0) k_ltA (ae_v (SF.toE (sf_ix (ix_any (roomU1 hr)) k_ix (ae_p (pv 0)) (ae_v (SF.toE (sf_bin op_sub k_sub (ae_p (pv 1)) (ae_v se_int)))) fun _ _ => rfl))) (ae_v (SF.toE (sf_ix (ix_any (roomU1 hr)) k_ix (ae_p (pv 0)) (ae_p (pv 1)) fun _ _ => rfl))) rfl)))))))))
/-! ### parts_of -/
def m_parts_of : M Fl :=
  (mSeq (mSet 1 (mLst [(mFz (mTup []))])) (mSeq (mFor (itD (mV 0)) (.nm 2) (mSet 1 (m2 fAdd (.pk 1) (.val (mFz (mLc (itD (mV 1)) (.nm 3) mYes (mFz (m2 fAdd (.pk 3) (.val (mFz (mTup [(mV 2)]))))) [3])))))) (mRet (mLc (itD (mV 1)) (.nm 3) (mTru (.pk 3)) (mV 3) [3]))))
def g_parts_of : List D → Option S := runV 4 m_parts_of
theorem sc_parts_of : FnScope ["side", "found", "corner", "part"] ["side"] (defScope s_parts_of) := ⟨rfl, rfl, rfl, by decide +kernel, rfl, by decide +kernel, by decide +kernel⟩
theorem ok_parts_of {P : Program} {w : World} {K : PySem.W.Frag} {mg : Str → Option Value} {base : Heap} {C f : Addr} {ea : Nat → Addr} {CS : Addr} {T : List (Addr × Str)} {fd : FuncData} (U : Fx K mg C ea CS) (F : FunD K "parts_of" "parts_of" (defArgs s_parts_of) (defBody s_parts_of) (defScope s_parts_of) [] [] f fd) (hm : mg "parts_of" = some (.ref f)) :
    CalV P w K mg base (ctW C T) 1 "parts_of" 1 g_parts_of := by
  have S := sc_parts_of
  exact mkV (k := 0) F hm S rfl (fun _ _ _ _ _ _ us hl => match us, hl with | [_], _ => rfl) fun cdv A outer s H E hr =>
    (sss_cons (ss_set (i := 1) S.nd rfl (by first | exact .inl rfl | exact .inr rfl) (sf_lst (ses_cons (SF.toE (sf_tup ses_nil)) ses_nil))) (sss_cons (ss_for PassesOwn.never rfl (si_d (se_var (pv 0))) (sg_nm (i := 2) S.nd rfl (by first | exact .inl rfl | exact .inr rfl)) (sss_one (ss_set (i := 1) S.nd rfl (by first | exact .inl rfl | exact .inr rfl) (sf_bin op_addAny k_add (ae_p (pv 1)) (ae_v (SF.toE (sf_lc (own := [("part", 3)]) rfl S.nd (si_d (se_var (pv 1))) (blkOk_by (by kernel_rfl)) (fun _ _ _ _ _ => (sg_nm (i := 3) S.nd rfl (by first | exact .inl rfl | exact .inr rfl))) (fun _ _ _ _ _ => sts_nil) (fun _ _ _ _ _ => (SF.toE (sf_bin op_addAny k_add (ae_p (pv 3)) (ae_v (SF.toE (sf_tup (ses_cons (se_var (pv 2)) ses_nil)))))))))))))) (sss_one (ss_ret (sf_lc (own := [("part", 3)]) rfl S.nd (si_d (se_var (pv 1))) (blkOk_by (by kernel_rfl)) (fun _ _ _ _ _ => (sg_nm (i := 3) S.nd rfl (by first | exact .inl rfl | exact .inr rfl))) (fun _ _ _ _ _ => (sts_one (st_tru (ae_p (pv 3))))) (fun _ _ _ _ _ => (se_var (pv 3))))))))
/-! ### is_integer -/
def m_is_integer : M Fl :=
  (mRet (mAnd (m1 (fun d => fIsi .int d d) (.pk 0)) (mNot (m1 (fun d => fIsi .bl d d) (.pk 0)))))
def g_is_integer : List D → Option S := runV 1 m_is_integer
theorem sc_is_integer : FnScope ["thing"] ["thing"] (defScope s_is_integer) := ⟨rfl, rfl, rfl, by decide +kernel, rfl, by decide +kernel, by decide +kernel⟩
theorem ok_is_integer {P : Program} {w : World} {K : PySem.W.Frag} {mg : Str → Option Value} {base : Heap} {C f : Addr} {ea : Nat → Addr} {CS : Addr} {T : List (Addr × Str)} {fd : FuncData} (U : Fx K mg C ea CS) (F : FunD K "is_integer" "is_integer" (defArgs s_is_integer) (defBody s_is_integer) (defScope s_is_integer) [] [] f fd) (hm : mg "is_integer" = some (.ref f)) :
    CalV P w K mg base (ctW C T) 1 "is_integer" 1 g_is_integer := by
  have S := sc_is_integer
  exact mkV (k := 0) F hm S rfl (fun _ _ _ _ _ _ us hl => match us, hl with | [_], _ => rfl) fun cdv A outer s H E hr =>
    (sss_one (ss_ret (sf_and (sf_isi rfl U.n_isinstance rfl U.n_int (by decide +kernel) (ae_p (pv 0))) (sf_one (sf_not (sf_isi rfl U.n_isinstance rfl U.n_bool (by decide +kernel) (ae_p (pv 0))))))))
/-! ### is_number -/
def m_is_number : M Fl :=
  (mRet (mAnd (mCall 1 g_is_integer [(mV 0)]) (mChn (fI2 fun i j => .bl (decide (i ≤ j))) (fI2 fun i j => .bl (decide (i ≤ j))) (mC (.int 0)) (mV 0) (mV 1))))
def g_is_number : List D → Option S := runV 2 m_is_number
theorem sc_is_number : FnScope ["thing", "most"] ["thing", "most"] (defScope s_is_number) := ⟨rfl, rfl, rfl, by decide +kernel, rfl, by decide +kernel, by decide +kernel⟩
theorem ok_is_number {P : Program} {w : World} {K : PySem.W.Frag} {mg : Str → Option Value} {base : Heap} {C f : Addr} {ea : Nat → Addr} {CS : Addr} {T : List (Addr × Str)} {fd : FuncData} (U : Fx K mg C ea CS) (F : FunD K "is_number" "is_number" (defArgs s_is_number) (defBody s_is_number) (defScope s_is_number) [] [] f fd) (hm : mg "is_number" = some (.ref f)) (c_is_integer : CalV P w K mg base (ctW C T) 1 "is_integer" 1 g_is_integer) :
    CalV P w K mg base (ctW C T) 2 "is_number" 2 g_is_number := by
  have S := sc_is_number
  exact mkV (k := 1) F hm S rfl (fun _ _ _ _ _ _ us hl => match us, hl with | [_, _], _ => rfl) fun cdv A outer s H E hr =>
    (sss_one (ss_ret (sf_and (sf_cl c_is_integer hr (by decide) rfl (ses_cons (se_var (pv 0)) ses_nil)) (sf_one (sf_chn op_le op_le k_le k_le se_int (se_var (pv 0)) (se_var (pv 1)))))))
/-! ### is_side_form -/
def m_is_side_form : M Fl :=
  (mSeq (mIf (bOr (bNot (mTru (.val (mFz (m1 (fun d => fIsi .tup d d) (.pk 0)))))) (bNot (mT (mChn (fI2 fun i j => .bl (decide (i ≤ j))) (fI2 fun i j => .bl (decide (i ≤ j))) (mC (.int 1)) (mFz (m1 fLen (.pk 0))) (mC (.int 7)))))) (mRet (mIm (mC (.bl false)))) mNx) (mRet (mAnd (m1 fAll (.val (mFz (mLc (itD (mV 0)) (.nm 1) mYes (mFz (mCall 2 g_is_number [(mV 1), (mC (.int 999))])) [1])))) (mCall 1 g_is_ascending [(mV 0)]))))
def g_is_side_form : List D → Option S := runV 2 m_is_side_form
theorem sc_is_side_form : FnScope ["thing", "corner"] ["thing"] (defScope s_is_side_form) := ⟨rfl, rfl, rfl, by decide +kernel, rfl, by decide +kernel, by decide +kernel⟩
theorem ok_is_side_form {P : Program} {w : World} {K : PySem.W.Frag} {mg : Str → Option Value} {base : Heap} {C f : Addr} {ea : Nat → Addr} {CS : Addr} {T : List (Addr × Str)} {fd : FuncData} (U : Fx K mg C ea CS) (F : FunD K "is_side_form" "is_side_form" (defArgs s_is_side_form) (defBody s_is_side_form) (defScope s_is_side_form) [] [] f fd) (hm : mg "is_side_form" = some (.ref f)) (c_is_ascending : CalV P w K mg base (ctW C T) 1 "is_ascending" 1 g_is_ascending) (c_is_number : CalV P w K mg base (ctW C T) 2 "is_number" 2 g_is_number) :
    CalV P w K mg base (ctW C T) 3 "is_side_form" 1 g_is_side_form := by
  have S := sc_is_side_form
  exact mkV (k := 2) F hm S rfl (fun _ _ _ _ _ _ us hl => match us, hl with | [_], _ => rfl) fun cdv A outer s H E hr =>
    (sss_cons (ss_if (SW.t (sw_or (st_not (st_tru (ae_v (SF.toE (sf_isi rfl U.n_isinstance rfl U.n_tuple (by decide +kernel) (ae_p (pv 0))))))) (sw_or1 (st_not (st_chn op_le op_le k_le k_le se_int (SF.toE (sf_b1 cr_len k_len rfl U.n_len (by decide +kernel) (ae_p (pv 0)))) (se_gint rfl U.i_MOST_CORNERS)))))) (sss_one (ss_ret (SE.toF se_bl))) sss_nil) (sss_one (ss_ret (sf_and (sf_b1 (cr_all rfl) k_all rfl U.n_all (by decide +kernel) (ae_v (SF.toE (sf_lc (own := [("corner", 1)]) rfl S.nd (si_d (se_var (pv 0))) (blkOk_by (by kernel_rfl)) (fun _ _ _ _ _ => (sg_nm (i := 1) S.nd rfl (by first | exact .inl rfl | exact .inr rfl))) (fun _ _ _ _ _ => sts_nil) (fun _ _ _ _ _ => (SF.toE (sf_cl c_is_number hr (by decide) rfl (ses_cons (se_var (pv 1)) (ses_cons (se_gint rfl U.i_MOST_CORNER) ses_nil))))))))) (sf_one (sf_cl c_is_ascending hr (by decide) rfl (ses_cons (se_var (pv 0)) ses_nil)))))))
/-! ### is_within -/
def m_is_within : M Fl :=
  (mRet (m1 fAll (.val (mFz (mLc (itD (mV 0)) (.nm 2) mYes (mFz (m2 (fInA false) (.pk 2) (.pk 1))) [2])))))
def g_is_within : List D → Option S := runV 3 m_is_within
theorem sc_is_within : FnScope ["part", "side", "corner"] ["part", "side"] (defScope s_is_within) := ⟨rfl, rfl, rfl, by decide +kernel, rfl, by decide +kernel, by decide +kernel⟩
theorem ok_is_within {P : Program} {w : World} {K : PySem.W.Frag} {mg : Str → Option Value} {base : Heap} {C f : Addr} {ea : Nat → Addr} {CS : Addr} {T : List (Addr × Str)} {fd : FuncData} (U : Fx K mg C ea CS) (F : FunD K "is_within" "is_within" (defArgs s_is_within) (defBody s_is_within) (defScope s_is_within) [] [] f fd) (hm : mg "is_within" = some (.ref f)) :
    CalV P w K mg base (ctW C T) 1 "is_within" 2 g_is_within := by
  have S := sc_is_within
  exact mkV (k := 0) F hm S rfl (fun _ _ _ _ _ _ us hl => match us, hl with | [_, _], _ => rfl) fun cdv A outer s H E hr =>
    (sss_one (ss_ret (sf_b1 (cr_all rfl) k_all rfl U.n_all (by decide +kernel) (ae_v (SF.toE (sf_lc (own := [("corner", 2)]) rfl S.nd (si_d (se_var (pv 0))) (blkOk_by (by kernel_rfl)) (fun _ _ _ _ _ => (sg_nm (i := 2) S.nd rfl (by first | exact .inl rfl | exact .inr rfl))) (fun _ _ _ _ _ => sts_nil) (fun _ _ _ _ _ => (SF.toE (sf_cmp (op_inAny (roomU hr)) k_in (ae_p (pv 2)) (ae_p (pv 1)) rfl)))))))))
/-! ### check_tops -/
def m_check_tops : M Fl :=
  (mFor (itD (mV 0)) (.nm 1) (mFor (itD (mV 0)) (.nm 2) (mIf (bAnd (mT (m2 fLt (.val (mFz (m1 fLen (.pk 1)))) (.val (mFz (m1 fLen (.pk 2)))))) (mTru (.val (mFz (mCall 2 g_is_within [(mV 1), (mV 2)]))))) mNo mNx)))
def g_check_tops : List D → Option S := runV 3 m_check_tops
theorem sc_check_tops : FnScope ["tops", "top", "other"] ["tops"] (defScope s_check_tops) := ⟨rfl, rfl, rfl, by decide +kernel, rfl, by decide +kernel, by decide +kernel⟩
theorem ok_check_tops {P : Program} {w : World} {K : PySem.W.Frag} {mg : Str → Option Value} {base : Heap} {C f : Addr} {ea : Nat → Addr} {CS : Addr} {T : List (Addr × Str)} {fd : FuncData} (U : Fx K mg C ea CS) (F : FunD K "check_tops" "check_tops" (defArgs s_check_tops) (defBody s_check_tops) (defScope s_check_tops) [] [] f fd) (hm : mg "check_tops" = some (.ref f)) (c_is_within : CalV P w K mg base (ctW C T) 1 "is_within" 2 g_is_within) :
    CalV P w K mg base (ctW C T) 2 "check_tops" 1 g_check_tops := by
  have S := sc_check_tops
  exact mkV (k := 1) F hm S rfl (fun _ _ _ _ _ _ us hl => match us, hl with | [_], _ => rfl) fun cdv A outer s H E hr =>
    (sss_one (ss_for PassesOwn.never rfl (si_d (se_var (pv 0))) (sg_nm (i := 1) S.nd rfl (by first | exact .inl rfl | exact .inr rfl)) (sss_one (ss_for PassesOwn.never rfl (si_d (se_var (pv 0))) (sg_nm (i := 2) S.nd rfl (by first | exact .inl rfl | exact .inr rfl)) (sss_one (ss_if (SW.t (sw_and (st_cmp (op_ltAny hr.units0) k_ltA (ae_v (SF.toE (sf_b1 cr_len k_len rfl U.n_len (by decide +kernel) (ae_p (pv 1))))) (ae_v (SF.toE (sf_b1 cr_len k_len rfl U.n_len (by decide +kernel) (ae_p (pv 2))))) rfl) (sw_and1 (st_tru (ae_v (SF.toE (sf_cl c_is_within hr (by decide) rfl (ses_cons (se_var (pv 1)) (ses_cons (se_var (pv 2)) ses_nil))))))))) (sss_one ss_no) sss_nil))))))
/-! ### Web.__init__ -/
def m_Web : Fr → Unit → Option D :=
  (wSeq (uL (mIf (bOr (bNot (mTru (.val (mFz (m1 (fun d => fIsi .tup d d) (.pk 1)))))) (bOr (bNot (mTru (.val (mFz (m1 fAll (.val (mFz (mLc (itD (mV 1)) (.nm 3) mYes (mFz (mCall 1 g_is_side_form [(mV 3)])) [3])))))))) (bNot (mTru (.val (mFz (mCall 1 g_is_ascending [(mV 1)]))))))) mNo mNx)) (wSeq (uL (mSet 2 (mNew true))) (wSeq (uL (mFor (itD (mV 1)) (.nm 3) (mFor (itD (mFz (mCall 1 g_parts_of [(mV 3)]))) (.nm 5) (mSeq (mPut 2 (mV 5) (mC (.bl true))) (mIf (mT (m2 (fI2 fun i j => .bl (decide (j < i))) (.val (mFz (m1 fLen (.pk 2)))) (.val (mC (.int 600))))) (mSeq (mDrop (mCall 1 g_check_tops [(mV 1)])) mNo) mNx))))) (wTops (mV 1) (wLots (itR1 (mC (.int 7))) (.nm 6) [6] fun d => (wSeq (uFor (itD (mFz (m1 fSort (.pk 2)))) (.nm 4) (uApp (mFz (m2 (fI2 fun i j => .int (i - j)) (.val (mFz (m1 fLen (.pk 4)))) (.val (mC (.int 1))))) (mV 4))) (wKnown (mV 2) fun k => wFz d k (mDrop (mCall 1 g_check_walls [(mV 0)])))))))))
def w_Web : List D → Option D := runW 7 m_Web
def g_Web : List D → Option S := fun ds => (w_Web ds).map .imm
theorem sc_Web : FnScope ["self", "tops", "found", "top", "side", "part", "degree"] ["self", "tops"] (defScope s_Web_init) := ⟨rfl, rfl, rfl, by decide +kernel, rfl, by decide +kernel, by decide +kernel⟩
theorem ok_Web {P : Program} {w : World} {K : PySem.W.Frag} {mg : Str → Option Value} {base : Heap} {C f : Addr} {ea : Nat → Addr} {CS : Addr} {T : List (Addr × Str)} {fd : FuncData} (U : Fx K mg C ea CS) (M : Mk K C f) (F : FunD K "__init__" "Web.__init__" (defArgs s_Web_init) (defBody s_Web_init) (defScope s_Web_init) [] [] f fd) (c_check_tops : CalV P w K mg base (ctW C T) 2 "check_tops" 1 g_check_tops) (c_check_walls : CalV P w K mg base (ctW C T) 2 "check_walls" 1 g_check_walls) (c_is_ascending : CalV P w K mg base (ctW C T) 1 "is_ascending" 1 g_is_ascending) (c_is_side_form : CalV P w K mg base (ctW C T) 3 "is_side_form" 1 g_is_side_form) (c_parts_of : CalV P w K mg base (ctW C T) 1 "parts_of" 1 g_parts_of) :
    WebOk P w K mg base C T 4 w_Web := by
  have S := sc_Web
  exact ⟨f, fd, M, fokW (k := 3) F S fun cdv A outer s H E x dx hxd hr =>
    (uws_cons (us_lift W0.mono (ss_if (SW.t (sw_or (st_not (st_tru (ae_v (SF.toE (sf_isi rfl U.n_isinstance rfl U.n_tuple (by decide +kernel) (ae_p (pv 1))))))) (sw_or (st_not (st_tru (ae_v (SF.toE (sf_b1 (cr_all rfl) k_all rfl U.n_all (by decide +kernel) (ae_v (SF.toE (sf_lc (own := [("top", 3)]) rfl S.nd (si_d (se_var (pv 1))) (blkOk_by (by kernel_rfl)) (fun _ _ _ _ _ => (sg_nm (i := 3) S.nd rfl (by first | exact .inl rfl | exact .inr rfl))) (fun _ _ _ _ _ => sts_nil) (fun _ _ _ _ _ => (SF.toE (sf_cl c_is_side_form hr (by decide) rfl (ses_cons (se_var (pv 3)) ses_nil)))))))))))) (sw_or1 (st_not (st_tru (ae_v (SF.toE (sf_cl c_is_ascending hr (by decide) rfl (ses_cons (se_var (pv 1)) ses_nil)))))))))) (sss_one ss_no) sss_nil)) (uws_cons (us_lift W0.mono (ss_set (i := 2) S.nd rfl (by first | exact .inl rfl | exact .inr rfl) (sf_new (t := true)))) (uws_cons (us_lift W0.mono (ss_for PassesOwn.never rfl (si_d (se_var (pv 1))) (sg_nm (i := 3) S.nd rfl (by first | exact .inl rfl | exact .inr rfl)) (sss_one (ss_for PassesOwn.never rfl (si_d (SF.toE (sf_cl c_parts_of hr (by decide) rfl (ses_cons (se_var (pv 3)) ses_nil)))) (sg_nm (i := 5) S.nd rfl (by first | exact .inl rfl | exact .inr rfl)) (sss_cons (ss_put (roomU1 hr) (pv 2) (se_var (pv 5)) se_bl) (sss_one (ss_if (st_cmp op_gt k_gt (ae_v (SF.toE (sf_b1 cr_len k_len rfl U.n_len (by decide +kernel) (ae_p (pv 2))))) (ae_v (se_gint rfl U.i_MOST_SIDES)) rfl) (sss_cons (ss_expr (sf_cl c_check_tops hr (by decide) rfl (ses_cons (se_var (pv 1)) ses_nil))) (sss_one ss_no)) sss_nil))))))) (uws_tops' U.cls U.no_tops (pv 0) (se_var (pv 1)) hxd (uws_lots' (own := [("degree", 6)]) U.cls U.no_lots (pv 0) rfl S.nd (si_r1 rfl U.n_range (se_gint rfl U.i_MOST_CORNERS)) (blkOk_by (by kernel_rfl)) (fun _ _ _ _ _ => (sg_nm (i := 6) S.nd rfl (by first | exact .inl rfl | exact .inr rfl))) (fun d => (uws_cons (us_for (IR.mono W2.mono) PassesOwn.never rfl (si_d (SF.toE (sf_b1 (cr_sort rfl (roomU64 hr)) k_sort rfl U.n_sorted (by decide +kernel) (ae_p (pv 2))))) (sg_nm (i := 4) S.nd rfl (by first | exact .inl rfl | exact .inr rfl)) (uss_one (us_app (j := 0) W2.mono (pe_fld (pv 0) rfl) (hrdW U.cls U.no_lots) (SF.toE (sf_bin op_sub k_sub (ae_v (SF.toE (sf_b1 cr_len k_len rfl U.n_len (by decide +kernel) (ae_p (pv 4))))) (ae_v se_int))) (se_var (pv 4)) fun _ _ => rfl))) (uws_known' U.cls U.no_known (pv 0) (se_var (pv 2)) fun k => uws_fz (sss_one (ss_expr (sf_cl c_check_walls hr (by decide) rfl (ses_cons (se_var (pv 0)) ses_nil)))) rfl))) hxd))))), U.Web.2.1, F.bindsN fun _ _ _ _ _ _ us hl => match us, hl with | [_, _], _ => rfl⟩
/-! ### is_from_nought -/
def m_is_from_nought : M Fl :=
  (mRet (mAnd (mCall 1 g_is_integer [(mV 0)]) (m2 (fI2 fun i j => .bl (decide (j ≤ i))) (.pk 0) (.val (mC (.int 0))))))
def g_is_from_nought : List D → Option S := runV 1 m_is_from_nought
theorem sc_is_from_nought : FnScope ["thing"] ["thing"] (defScope s_is_from_nought) := ⟨rfl, rfl, rfl, by decide +kernel, rfl, by decide +kernel, by decide +kernel⟩
theorem ok_is_from_nought {P : Program} {w : World} {K : PySem.W.Frag} {mg : Str → Option Value} {base : Heap} {C f : Addr} {ea : Nat → Addr} {CS : Addr} {T : List (Addr × Str)} {fd : FuncData} (U : Fx K mg C ea CS) (F : FunD K "is_from_nought" "is_from_nought" (defArgs s_is_from_nought) (defBody s_is_from_nought) (defScope s_is_from_nought) [] [] f fd) (hm : mg "is_from_nought" = some (.ref f)) (c_is_integer : CalV P w K mg base (ctW C T) 1 "is_integer" 1 g_is_integer) :
    CalV P w K mg base (ctW C T) 2 "is_from_nought" 1 g_is_from_nought := by
  have S := sc_is_from_nought
  exact mkV (k := 1) F hm S rfl (fun _ _ _ _ _ _ us hl => match us, hl with | [_], _ => rfl) fun cdv A outer s H E hr =>
    (sss_one (ss_ret (sf_and (sf_cl c_is_integer hr (by decide) rfl (ses_cons (se_var (pv 0)) ses_nil)) (sf_one (sf_cmp op_ge k_ge (ae_p (pv 0)) (ae_v se_int) rfl)))))
/-! ### degree_asked -/
def m_degree_asked : M Fl :=
  (mIf (bNot (mTru (.val (mFz (mCall 1 g_is_from_nought [(mV 0)]))))) mNo mNx)
def g_degree_asked : List D → Option S := runV 1 m_degree_asked
theorem sc_degree_asked : FnScope ["degree"] ["degree"] (defScope s_degree_asked) := ⟨rfl, rfl, rfl, by decide +kernel, rfl, by decide +kernel, by decide +kernel⟩
theorem ok_degree_asked {P : Program} {w : World} {K : PySem.W.Frag} {mg : Str → Option Value} {base : Heap} {C f : Addr} {ea : Nat → Addr} {CS : Addr} {T : List (Addr × Str)} {fd : FuncData} (U : Fx K mg C ea CS) (F : FunD K "degree_asked" "degree_asked" (defArgs s_degree_asked) (defBody s_degree_asked) (defScope s_degree_asked) [] [] f fd) (hm : mg "degree_asked" = some (.ref f)) (c_is_from_nought : CalV P w K mg base (ctW C T) 2 "is_from_nought" 1 g_is_from_nought) :
    CalV P w K mg base (ctW C T) 3 "degree_asked" 1 g_degree_asked := by
  have S := sc_degree_asked
  exact mkV (k := 2) F hm S rfl (fun _ _ _ _ _ _ us hl => match us, hl with | [_], _ => rfl) fun cdv A outer s H E hr =>
    (sss_one (ss_if (st_not (st_tru (ae_v (SF.toE (sf_cl c_is_from_nought hr (by decide) rfl (ses_cons (se_var (pv 0)) ses_nil)))))) (sss_one ss_no) sss_nil))
def x_degree_asked : MX :=
  (xIf (bNot (mTru (.val (mFz (mCall 1 g_is_from_nought [(mV 0)]))))) (xRaise 0))
def gx_degree_asked : List D → Option Nat := runX 1 x_degree_asked
theorem okx_degree_asked {P : Program} {w : World} {K : PySem.W.Frag} {mg : Str → Option Value} {base : Heap} {C f : Addr} {ea : Nat → Addr} {CS : Addr} {T : List (Addr × Str)} {fd : FuncData} (U : Fx K mg C ea CS) (F : FunD K "degree_asked" "degree_asked" (defArgs s_degree_asked) (defBody s_degree_asked) (defScope s_degree_asked) [] [] f fd) (hm : mg "degree_asked" = some (.ref f)) (c_is_from_nought : CalV P w K mg base (ctW C T) 2 "is_from_nought" 1 g_is_from_nought) :
    CalX P w K mg base (ctW C T) (evs ea) 3 "degree_asked" 1 gx_degree_asked := by
  have S := sc_degree_asked
  exact mkX (k := 2) F hm S rfl (fun _ _ _ _ _ _ us hl => match us, hl with | [_], _ => rfl) fun cdv A outer s H E hr =>
    (xss_first (xs_if (st_not (st_tru (ae_v (SF.toE (sf_cl c_is_from_nought hr (by decide) rfl (ses_cons (se_var (pv 0)) ses_nil)))))) (xss_one (xs_raise rfl (takes_of rfl rfl rfl rfl) (U.er.er 0 "NoDegree" rfl) rfl rfl))))
/-! ### all_sides -/
def m_all_sides : M Fl :=
  (mRet (m1 fTup (.val (mFz (mLl (itD (mFld 0 1 (mV 0))) (.nm 1) mYes (itD (mV 1)) (.nm 2) mYes (mV 2) [1, 2] [2])))))
def g_all_sides : List D → Option S := runV 3 m_all_sides
theorem sc_all_sides : FnScope ["web", "lot", "side"] ["web"] (defScope s_all_sides) := ⟨rfl, rfl, rfl, by decide +kernel, rfl, by decide +kernel, by decide +kernel⟩
theorem ok_all_sides {P : Program} {w : World} {K : PySem.W.Frag} {mg : Str → Option Value} {base : Heap} {C f : Addr} {ea : Nat → Addr} {CS : Addr} {T : List (Addr × Str)} {fd : FuncData} (U : Fx K mg C ea CS) (F : FunD K "all_sides" "all_sides" (defArgs s_all_sides) (defBody s_all_sides) (defScope s_all_sides) [] [] f fd) (hm : mg "all_sides" = some (.ref f)) :
    CalV P w K mg base (ctW C T) 1 "all_sides" 1 g_all_sides := by
  have S := sc_all_sides
  exact mkV (k := 0) F hm S rfl (fun _ _ _ _ _ _ us hl => match us, hl with | [_], _ => rfl) fun cdv A outer s H E hr =>
    (sss_one (ss_ret (sf_t1 cr_tup k_tup rfl U.n_tuple (by decide +kernel) (ae_v (SF.toE (sf_ll (own := [("lot", 1), ("side", 2)]) (ws := [2]) rfl S.nd (si_d (se_fld (i := 0) (j := 1) U.cls U.no_lots rfl (ctw_lt (by decide)) (se_var (pv 0)))) (blkOk_by (by kernel_rfl)) (fun _ _ _ _ _ => (sg_nm (i := 1) S.nd rfl (by first | exact .inl rfl | exact .inr rfl))) (fun _ _ _ _ _ => sts_nil) (fun _ _ _ _ _ => (si_d (se_var (pv 1)))) (fun _ _ _ _ _ => (sg_nm (i := 2) S.nd rfl (by first | exact .inl rfl | exact .inr rfl))) (fun _ _ _ _ _ => sts_nil) (fun _ _ _ _ _ => (se_var (pv 2)))))))))
/-! ### web_by -/
def m_web_by : M Fl :=
  (mSeq (mSet 1 (mNew true)) (mSeq (mFor (itD (mV 0)) (.nm 2) (mFor (itD (mFz (mCall 1 g_parts_of [(mV 2)]))) (.nm 4) (mSeq (mPut 1 (mV 4) (mC (.bl true))) (mIf (mT (m2 (fI2 fun i j => .bl (decide (j < i))) (.val (mFz (m1 fLen (.pk 1)))) (.val (mC (.int 600))))) mNo mNx)))) (mSeq (mSet 3 (mDd (itD (mV 1)) (.nm 2) mYes (itD (mFz (mCall 1 g_walls_of [(mV 2)]))) (.nm 5) mYes (mV 5) (mC (.bl true)) [2, 5] [5])) (mRet (mCall 1 g_Web [(mFz (m1 fTup (.val (mFz (m1 fSort (.val (mFz (mLc (itD (mV 1)) (.nm 2) (mT (m2 (fInA true) (.pk 2) (.pk 3))) (mV 2) [2]))))))))])))))
def g_web_by : List D → Option S := runV 6 m_web_by
theorem sc_web_by : FnScope ["some", "found", "side", "covered", "part", "wall"] ["some"] (defScope s_web_by) := ⟨rfl, rfl, rfl, by decide +kernel, rfl, by decide +kernel, by decide +kernel⟩
theorem ok_web_by {P : Program} {w : World} {K : PySem.W.Frag} {mg : Str → Option Value} {base : Heap} {C f : Addr} {ea : Nat → Addr} {CS : Addr} {T : List (Addr × Str)} {fd : FuncData} (U : Fx K mg C ea CS) (F : FunD K "web_by" "web_by" (defArgs s_web_by) (defBody s_web_by) (defScope s_web_by) [] [] f fd) (hm : mg "web_by" = some (.ref f)) (c_Web : WebOk P w K mg base C T 4 w_Web) (c_parts_of : CalV P w K mg base (ctW C T) 1 "parts_of" 1 g_parts_of) (c_walls_of : CalV P w K mg base (ctW C T) 1 "walls_of" 1 g_walls_of) :
    CalV P w K mg base (ctW C T) 6 "web_by" 1 g_web_by := by
  have S := sc_web_by
  exact mkV (k := 5) F hm S rfl (fun _ _ _ _ _ _ us hl => match us, hl with | [_], _ => rfl) fun cdv A outer s H E hr =>
    (sss_cons (ss_set (i := 1) S.nd rfl (by first | exact .inl rfl | exact .inr rfl) (sf_new (t := true))) (sss_cons (ss_for PassesOwn.never rfl (si_d (se_var (pv 0))) (sg_nm (i := 2) S.nd rfl (by first | exact .inl rfl | exact .inr rfl)) (sss_one (ss_for PassesOwn.never rfl (si_d (SF.toE (sf_cl c_parts_of hr (by decide) rfl (ses_cons (se_var (pv 2)) ses_nil)))) (sg_nm (i := 4) S.nd rfl (by first | exact .inl rfl | exact .inr rfl)) (sss_cons (ss_put (roomU1 hr) (pv 1) (se_var (pv 4)) se_bl) (sss_one (ss_if (st_cmp op_gt k_gt (ae_v (SF.toE (sf_b1 cr_len k_len rfl U.n_len (by decide +kernel) (ae_p (pv 1))))) (ae_v (se_gint rfl U.i_MOST_SIDES)) rfl) (sss_one ss_no) sss_nil)))))) (sss_cons (ss_set (i := 3) S.nd rfl (by first | exact .inl rfl | exact .inr rfl) (sf_dd (own := [("side", 2), ("wall", 5)]) (ws := [5]) hr.units0 rfl S.nd (si_d (se_var (pv 1))) (blkOk_by (by kernel_rfl)) (fun _ _ _ _ _ => (sg_nm (i := 2) S.nd rfl (by first | exact .inl rfl | exact .inr rfl))) (fun _ _ _ _ _ => sts_nil) (fun _ _ _ _ _ => (si_d (SF.toE (sf_cl c_walls_of hr (by decide) rfl (ses_cons (se_var (pv 2)) ses_nil))))) (fun _ _ _ _ _ => (sg_nm (i := 5) S.nd rfl (by first | exact .inl rfl | exact .inr rfl))) (fun _ _ _ _ _ => sts_nil) (fun _ _ _ _ _ => (se_var (pv 5))) (fun _ _ _ _ _ => se_bl))) (sss_one (ss_ret (sf_web c_Web hr (by decide) rfl (ses_cons (SF.toE (sf_t1 cr_tup k_tup rfl U.n_tuple (by decide +kernel) (ae_v (SF.toE (sf_b1 (cr_sort rfl (roomU64 hr)) k_sort rfl U.n_sorted (by decide +kernel) (ae_v (SF.toE (sf_lc (own := [("side", 2)]) rfl S.nd (si_d (se_var (pv 1))) (blkOk_by (by kernel_rfl)) (fun _ _ _ _ _ => (sg_nm (i := 2) S.nd rfl (by first | exact .inl rfl | exact .inr rfl))) (fun _ _ _ _ _ => (sts_one (st_cmp (op_ninAny (roomU hr)) k_nin (ae_p (pv 2)) (ae_p (pv 3)) rfl))) (fun _ _ _ _ _ => (se_var (pv 2))))))))))) ses_nil)))))))
/-! ### is_part -/
def m_is_part : M Fl :=
  (mRet (mAnd (m1 fIsW2 (.pk 1)) (m1 fAll (.val (mFz (mLc (itD (mFld 0 0 (mV 1))) (.nm 2) mYes (mFz (m2 (fInA false) (.pk 2) (.val (mFld 0 2 (mV 0))))) [2]))))))
def g_is_part : List D → Option S := runV 3 m_is_part
theorem sc_is_part : FnScope ["web", "other", "top"] ["web", "other"] (defScope s_is_part) := ⟨rfl, rfl, rfl, by decide +kernel, rfl, by decide +kernel, by decide +kernel⟩
theorem ok_is_part {P : Program} {w : World} {K : PySem.W.Frag} {mg : Str → Option Value} {base : Heap} {C f : Addr} {ea : Nat → Addr} {CS : Addr} {T : List (Addr × Str)} {fd : FuncData} (U : Fx K mg C ea CS) (F : FunD K "is_part" "is_part" (defArgs s_is_part) (defBody s_is_part) (defScope s_is_part) [] [] f fd) (hm : mg "is_part" = some (.ref f)) :
    CalV P w K mg base (ctW C T) 1 "is_part" 2 g_is_part := by
  have S := sc_is_part
  exact mkV (k := 0) F hm S rfl (fun _ _ _ _ _ _ us hl => match us, hl with | [_, _], _ => rfl) fun cdv A outer s H E hr =>
    (sss_one (ss_ret (sf_and (sf_isW2 U.notW rfl U.n_isinstance rfl U.Web (ae_p (pv 1))) (sf_one (sf_b1 (cr_all rfl) k_all rfl U.n_all (by decide +kernel) (ae_v (SF.toE (sf_lc (own := [("top", 2)]) rfl S.nd (si_d (se_fld (i := 0) (j := 0) U.cls U.no_tops rfl (ctw_lt (by decide)) (se_var (pv 1)))) (blkOk_by (by kernel_rfl)) (fun _ _ _ _ _ => (sg_nm (i := 2) S.nd rfl (by first | exact .inl rfl | exact .inr rfl))) (fun _ _ _ _ _ => sts_nil) (fun _ _ _ _ _ => (SF.toE (sf_cmp (op_inAny (roomU hr)) k_in (ae_p (pv 2)) (ae_v (se_fld (i := 0) (j := 2) U.cls U.no_known rfl (ctw_lt (by decide)) (se_var (pv 0)))) rfl)))))))))))
/-! ### skeleton -/
def m_skeleton : M Fl :=
  (mSeq (mDrop (mCall 1 g_degree_asked [(mV 1)])) (mRet (mCall 1 g_web_by [(mFz (mLc (itD (mFld 0 2 (mV 0))) (.nm 2) (mT (m2 (fI2 fun i j => .bl (decide (i ≤ j))) (.val (mFz (m1 fLen (.pk 2)))) (.val (mFz (m2 fAdd (.pk 1) (.val (mC (.int 1)))))))) (mV 2) [2]))])))
def g_skeleton : List D → Option S := runV 3 m_skeleton
theorem sc_skeleton : FnScope ["web", "degree", "side"] ["web", "degree"] (defScope s_skeleton) := ⟨rfl, rfl, rfl, by decide +kernel, rfl, by decide +kernel, by decide +kernel⟩
theorem ok_skeleton {P : Program} {w : World} {K : PySem.W.Frag} {mg : Str → Option Value} {base : Heap} {C f : Addr} {ea : Nat → Addr} {CS : Addr} {T : List (Addr × Str)} {fd : FuncData} (U : Fx K mg C ea CS) (F : FunD K "skeleton" "skeleton" (defArgs s_skeleton) (defBody s_skeleton) (defScope s_skeleton) [] [] f fd) (hm : mg "skeleton" = some (.ref f)) (c_degree_asked : CalV P w K mg base (ctW C T) 3 "degree_asked" 1 g_degree_asked) (c_web_by : CalV P w K mg base (ctW C T) 6 "web_by" 1 g_web_by) :
    CalV P w K mg base (ctW C T) 7 "skeleton" 2 g_skeleton := by
  have S := sc_skeleton
  exact mkV (k := 6) F hm S rfl (fun _ _ _ _ _ _ us hl => match us, hl with | [_, _], _ => rfl) fun cdv A outer s H E hr =>
    (sss_cons (ss_expr (sf_cl c_degree_asked hr (by decide) rfl (ses_cons (se_var (pv 1)) ses_nil))) (sss_one (ss_ret (sf_cl c_web_by hr (by decide) rfl (ses_cons (SF.toE (sf_lc (own := [("side", 2)]) rfl S.nd (si_d (se_fld (i := 0) (j := 2) U.cls U.no_known rfl (ctw_lt (by decide)) (se_var (pv 0)))) (blkOk_by (by kernel_rfl)) (fun _ _ _ _ _ => (sg_nm (i := 2) S.nd rfl (by first | exact .inl rfl | exact .inr rfl))) (fun _ _ _ _ _ => (sts_one (st_cmp op_le k_le (ae_v (SF.toE (sf_b1 cr_len k_len rfl U.n_len (by decide +kernel) (ae_p (pv 2))))) (ae_v (SF.toE (sf_bin op_addAny k_add (ae_p (pv 1)) (ae_v se_int)))) rfl))) (fun _ _ _ _ _ => (se_var (pv 2))))) ses_nil)))))
def x_skeleton : MX :=
  (xCall 1 gx_degree_asked [(mV 1)])
def gx_skeleton : List D → Option Nat := runX 3 x_skeleton
theorem okx_skeleton {P : Program} {w : World} {K : PySem.W.Frag} {mg : Str → Option Value} {base : Heap} {C f : Addr} {ea : Nat → Addr} {CS : Addr} {T : List (Addr × Str)} {fd : FuncData} (U : Fx K mg C ea CS) (F : FunD K "skeleton" "skeleton" (defArgs s_skeleton) (defBody s_skeleton) (defScope s_skeleton) [] [] f fd) (hm : mg "skeleton" = some (.ref f)) (c_degree_asked : CalV P w K mg base (ctW C T) 3 "degree_asked" 1 g_degree_asked) (y_degree_asked : CalX P w K mg base (ctW C T) (evs ea) 3 "degree_asked" 1 gx_degree_asked) :
    CalX P w K mg base (ctW C T) (evs ea) 7 "skeleton" 2 gx_skeleton := by
  have S := sc_skeleton
  exact mkX (k := 6) F hm S rfl (fun _ _ _ _ _ _ us hl => match us, hl with | [_, _], _ => rfl) fun cdv A outer s H E hr =>
    (xss_first (xs_call y_degree_asked hr (by decide) rfl (takes_of rfl rfl rfl rfl) (ses_cons (se_var (pv 1)) ses_nil)))
/-! ### side_asked -/
def m_side_asked : M Fl :=
  (mIf (bOr (bNot (mTru (.val (mFz (mCall 1 g_is_side_form [(mV 1)]))))) (mT (m2 (fInA true) (.pk 1) (.val (mFld 0 2 (mV 0)))))) mNo mNx)
def g_side_asked : List D → Option S := runV 2 m_side_asked
theorem sc_side_asked : FnScope ["web", "side"] ["web", "side"] (defScope s_side_asked) := ⟨rfl, rfl, rfl, by decide +kernel, rfl, by decide +kernel, by decide +kernel⟩
theorem ok_side_asked {P : Program} {w : World} {K : PySem.W.Frag} {mg : Str → Option Value} {base : Heap} {C f : Addr} {ea : Nat → Addr} {CS : Addr} {T : List (Addr × Str)} {fd : FuncData} (U : Fx K mg C ea CS) (F : FunD K "side_asked" "side_asked" (defArgs s_side_asked) (defBody s_side_asked) (defScope s_side_asked) [] [] f fd) (hm : mg "side_asked" = some (.ref f)) (c_is_side_form : CalV P w K mg base (ctW C T) 3 "is_side_form" 1 g_is_side_form) :
    CalV P w K mg base (ctW C T) 4 "side_asked" 2 g_side_asked := by
  have S := sc_side_asked
  exact mkV (k := 3) F hm S rfl (fun _ _ _ _ _ _ us hl => match us, hl with | [_, _], _ => rfl) fun cdv A outer s H E hr =>
    (sss_one (ss_if (SW.t (sw_or (st_not (st_tru (ae_v (SF.toE (sf_cl c_is_side_form hr (by decide) rfl (ses_cons (se_var (pv 1)) ses_nil)))))) (sw_or1 (st_cmp (op_ninAny (roomU hr)) k_nin (ae_p (pv 1)) (ae_v (se_fld (i := 0) (j := 2) U.cls U.no_known rfl (ctw_lt (by decide)) (se_var (pv 0)))) rfl)))) (sss_one ss_no) sss_nil))
def x_side_asked : MX :=
  (xIf (bOr (bNot (mTru (.val (mFz (mCall 1 g_is_side_form [(mV 1)]))))) (mT (m2 (fInA true) (.pk 1) (.val (mFld 0 2 (mV 0)))))) (xRaise 1))
def gx_side_asked : List D → Option Nat := runX 2 x_side_asked
theorem okx_side_asked {P : Program} {w : World} {K : PySem.W.Frag} {mg : Str → Option Value} {base : Heap} {C f : Addr} {ea : Nat → Addr} {CS : Addr} {T : List (Addr × Str)} {fd : FuncData} (U : Fx K mg C ea CS) (F : FunD K "side_asked" "side_asked" (defArgs s_side_asked) (defBody s_side_asked) (defScope s_side_asked) [] [] f fd) (hm : mg "side_asked" = some (.ref f)) (c_is_side_form : CalV P w K mg base (ctW C T) 3 "is_side_form" 1 g_is_side_form) :
    CalX P w K mg base (ctW C T) (evs ea) 4 "side_asked" 2 gx_side_asked := by
  have S := sc_side_asked
  exact mkX (k := 3) F hm S rfl (fun _ _ _ _ _ _ us hl => match us, hl with | [_, _], _ => rfl) fun cdv A outer s H E hr =>
    (xss_first (xs_if (SW.t (sw_or (st_not (st_tru (ae_v (SF.toE (sf_cl c_is_side_form hr (by decide) rfl (ses_cons (se_var (pv 1)) ses_nil)))))) (sw_or1 (st_cmp (op_ninAny (roomU hr)) k_nin (ae_p (pv 1)) (ae_v (se_fld (i := 0) (j := 2) U.cls U.no_known rfl (ctw_lt (by decide)) (se_var (pv 0)))) rfl)))) (xss_one (xs_raise rfl (takes_of rfl rfl rfl rfl) (U.er.er 1 "NoSide" rfl) rfl rfl))))
/-! ### star -/
def m_star : M Fl :=
  (mSeq (mDrop (mCall 2 g_side_asked [(mV 0), (mV 1)])) (mRet (mCall 1 g_web_by [(mFz (mLc (itD (mFld 0 0 (mV 0))) (.nm 2) (mTru (.val (mFz (mCall 2 g_is_within [(mV 1), (mV 2)])))) (mV 2) [2]))])))
def g_star : List D → Option S := runV 3 m_star
theorem sc_star : FnScope ["web", "side", "other"] ["web", "side"] (defScope s_star) := ⟨rfl, rfl, rfl, by decide +kernel, rfl, by decide +kernel, by decide +kernel⟩
theorem ok_star {P : Program} {w : World} {K : PySem.W.Frag} {mg : Str → Option Value} {base : Heap} {C f : Addr} {ea : Nat → Addr} {CS : Addr} {T : List (Addr × Str)} {fd : FuncData} (U : Fx K mg C ea CS) (F : FunD K "star" "star" (defArgs s_star) (defBody s_star) (defScope s_star) [] [] f fd) (hm : mg "star" = some (.ref f)) (c_is_within : CalV P w K mg base (ctW C T) 1 "is_within" 2 g_is_within) (c_side_asked : CalV P w K mg base (ctW C T) 4 "side_asked" 2 g_side_asked) (c_web_by : CalV P w K mg base (ctW C T) 6 "web_by" 1 g_web_by) :
    CalV P w K mg base (ctW C T) 7 "star" 2 g_star := by
  have S := sc_star
  exact mkV (k := 6) F hm S rfl (fun _ _ _ _ _ _ us hl => match us, hl with | [_, _], _ => rfl) fun cdv A outer s H E hr =>
    (sss_cons (ss_expr (sf_cl c_side_asked hr (by decide) rfl (ses_cons (se_var (pv 0)) (ses_cons (se_var (pv 1)) ses_nil)))) (sss_one (ss_ret (sf_cl c_web_by hr (by decide) rfl (ses_cons (SF.toE (sf_lc (own := [("other", 2)]) rfl S.nd (si_d (se_fld (i := 0) (j := 0) U.cls U.no_tops rfl (ctw_lt (by decide)) (se_var (pv 0)))) (blkOk_by (by kernel_rfl)) (fun _ _ _ _ _ => (sg_nm (i := 2) S.nd rfl (by first | exact .inl rfl | exact .inr rfl))) (fun _ _ _ _ _ => (sts_one (st_tru (ae_v (SF.toE (sf_cl c_is_within hr (by decide) rfl (ses_cons (se_var (pv 1)) (ses_cons (se_var (pv 2)) ses_nil)))))))) (fun _ _ _ _ _ => (se_var (pv 2))))) ses_nil)))))
def x_star : MX :=
  (xCall 2 gx_side_asked [(mV 0), (mV 1)])
def gx_star : List D → Option Nat := runX 3 x_star
theorem okx_star {P : Program} {w : World} {K : PySem.W.Frag} {mg : Str → Option Value} {base : Heap} {C f : Addr} {ea : Nat → Addr} {CS : Addr} {T : List (Addr × Str)} {fd : FuncData} (U : Fx K mg C ea CS) (F : FunD K "star" "star" (defArgs s_star) (defBody s_star) (defScope s_star) [] [] f fd) (hm : mg "star" = some (.ref f)) (c_side_asked : CalV P w K mg base (ctW C T) 4 "side_asked" 2 g_side_asked) (y_side_asked : CalX P w K mg base (ctW C T) (evs ea) 4 "side_asked" 2 gx_side_asked) :
    CalX P w K mg base (ctW C T) (evs ea) 7 "star" 2 gx_star := by
  have S := sc_star
  exact mkX (k := 6) F hm S rfl (fun _ _ _ _ _ _ us hl => match us, hl with | [_, _], _ => rfl) fun cdv A outer s H E hr =>
    (xss_first (xs_call y_side_asked hr (by decide) rfl (takes_of rfl rfl rfl rfl) (ses_cons (se_var (pv 0)) (ses_cons (se_var (pv 1)) ses_nil))))
/-! ### link -/
def m_link : M Fl :=
  (mSeq (mDrop (mCall 2 g_side_asked [(mV 0), (mV 1)])) (mSeq (mSet 2 (mLc (itD (mFld 0 0 (mV 0))) (.nm 3) (mTru (.val (mFz (mCall 2 g_is_within [(mV 1), (mV 3)])))) (mFz (m1 fTup (.val (mFz (mLc (itD (mV 3)) (.nm 5) (mT (m2 (fInA true) (.pk 5) (.pk 1))) (mV 5) [5]))))) [3])) (mRet (mCall 1 g_web_by [(mFz (mLc (itD (mV 2)) (.nm 4) (mTru (.pk 4)) (mV 4) [4]))]))))
def g_link : List D → Option S := runV 6 m_link
theorem sc_link : FnScope ["web", "side", "rests", "other", "rest", "corner"] ["web", "side"] (defScope s_link) := ⟨rfl, rfl, rfl, by decide +kernel, rfl, by decide +kernel, by decide +kernel⟩
theorem ok_link {P : Program} {w : World} {K : PySem.W.Frag} {mg : Str → Option Value} {base : Heap} {C f : Addr} {ea : Nat → Addr} {CS : Addr} {T : List (Addr × Str)} {fd : FuncData} (U : Fx K mg C ea CS) (F : FunD K "link" "link" (defArgs s_link) (defBody s_link) (defScope s_link) [] [] f fd) (hm : mg "link" = some (.ref f)) (c_is_within : CalV P w K mg base (ctW C T) 1 "is_within" 2 g_is_within) (c_side_asked : CalV P w K mg base (ctW C T) 4 "side_asked" 2 g_side_asked) (c_web_by : CalV P w K mg base (ctW C T) 6 "web_by" 1 g_web_by) :
    CalV P w K mg base (ctW C T) 7 "link" 2 g_link := by
  have S := sc_link
  exact mkV (k := 6) F hm S rfl (fun _ _ _ _ _ _ us hl => match us, hl with | [_, _], _ => rfl) fun cdv A outer s H E hr =>
    (sss_cons (ss_expr (sf_cl c_side_asked hr (by decide) rfl (ses_cons (se_var (pv 0)) (ses_cons (se_var (pv 1)) ses_nil)))) (sss_cons (ss_setLc (i := 2) (own := [("other", 3)]) rfl S.nd rfl rfl rfl (si_d (se_fld (i := 0) (j := 0) U.cls U.no_tops rfl (ctw_lt (by decide)) (se_var (pv 0)))) (blkOk_by (by kernel_rfl)) (fun _ _ _ _ _ => (sg_nm (i := 3) S.nd rfl (by first | exact .inl rfl | exact .inr rfl))) (fun _ _ _ _ _ => (sts_one (st_tru (ae_v (SF.toE (sf_cl c_is_within hr (by decide) rfl (ses_cons (se_var (pv 1)) (ses_cons (se_var (pv 3)) ses_nil)))))))) (fun _ _ _ _ _ => (SF.toE (sf_t1 cr_tup k_tup rfl U.n_tuple (by decide +kernel) (ae_v (SF.toE (sf_lc (own := [("corner", 5)]) rfl S.nd (si_d (se_var (pv 3))) (blkOk_by (by kernel_rfl)) (fun _ _ _ _ _ => (sg_nm (i := 5) S.nd rfl (by first | exact .inl rfl | exact .inr rfl))) (fun _ _ _ _ _ => (sts_one (st_cmp (op_ninAny (roomU hr)) k_nin (ae_p (pv 5)) (ae_p (pv 1)) rfl))) (fun _ _ _ _ _ => (se_var (pv 5)))))))))) (sss_one (ss_ret (sf_cl c_web_by hr (by decide) rfl (ses_cons (SF.toE (sf_lc (own := [("rest", 4)]) rfl S.nd (si_d (se_var (pv 2))) (blkOk_by (by kernel_rfl)) (fun _ _ _ _ _ => (sg_nm (i := 4) S.nd rfl (by first | exact .inl rfl | exact .inr rfl))) (fun _ _ _ _ _ => (sts_one (st_tru (ae_p (pv 4))))) (fun _ _ _ _ _ => (se_var (pv 4))))) ses_nil))))))
def x_link : MX :=
  (xCall 2 gx_side_asked [(mV 0), (mV 1)])
def gx_link : List D → Option Nat := runX 6 x_link
theorem okx_link {P : Program} {w : World} {K : PySem.W.Frag} {mg : Str → Option Value} {base : Heap} {C f : Addr} {ea : Nat → Addr} {CS : Addr} {T : List (Addr × Str)} {fd : FuncData} (U : Fx K mg C ea CS) (F : FunD K "link" "link" (defArgs s_link) (defBody s_link) (defScope s_link) [] [] f fd) (hm : mg "link" = some (.ref f)) (c_side_asked : CalV P w K mg base (ctW C T) 4 "side_asked" 2 g_side_asked) (y_side_asked : CalX P w K mg base (ctW C T) (evs ea) 4 "side_asked" 2 gx_side_asked) :
    CalX P w K mg base (ctW C T) (evs ea) 7 "link" 2 gx_link := by
  have S := sc_link
  exact mkX (k := 6) F hm S rfl (fun _ _ _ _ _ _ us hl => match us, hl with | [_, _], _ => rfl) fun cdv A outer s H E hr =>
    (xss_first (xs_call y_side_asked hr (by decide) rfl (takes_of rfl rfl rfl rfl) (ses_cons (se_var (pv 0)) (ses_cons (se_var (pv 1)) ses_nil))))
/-! ### _law_hand -/
def m_law_hand : M Fl :=
  (mSeq (mSet 1 (mLc (itD (mFz (mSl (.pk 0) .no (.at_ (mC (.int 63)))))) (.nm 2) mYes (mFz (m1 fAbs (.val (mFz (m1 fInt (.pk 2)))))) [2])) (mRet (mLst [(mV 1), (mC (.int 0)), (mC (.int 0)), (mFz (m2 fAdd (.val (mC (.int 5011))) (.val (mFz (m2 fMul (.val (mC (.int 7))) (.val (mFz (m1 fLen (.pk 1))))))))), (mC (.int 0))])))
def g_law_hand : List D → Option S := runV 3 m_law_hand
theorem sc_law_hand : FnScope ["script", "cells", "cell"] ["script"] (defScope s_law_hand) := ⟨rfl, rfl, rfl, by decide +kernel, rfl, by decide +kernel, by decide +kernel⟩
theorem ok_law_hand {P : Program} {w : World} {K : PySem.W.Frag} {mg : Str → Option Value} {base : Heap} {C f : Addr} {ea : Nat → Addr} {CS : Addr} {T : List (Addr × Str)} {fd : FuncData} (U : Fx K mg C ea CS) (F : FunD K "_law_hand" "_law_hand" (defArgs s_law_hand) (defBody s_law_hand) (defScope s_law_hand) [] [] f fd) (hm : mg "_law_hand" = some (.ref f)) :
    CalV P w K mg base (ctW C T) 1 "_law_hand" 1 g_law_hand := by
  have S := sc_law_hand
  exact mkV (k := 0) F hm S rfl (fun _ _ _ _ _ _ us hl => match us, hl with | [_], _ => rfl) fun cdv A outer s H E hr =>
    (sss_cons (ss_setLc (i := 1) (own := [("cell", 2)]) rfl S.nd rfl rfl rfl (si_d (SF.toE (sf_sl (ae_p (pv 0)) so_no (so_at se_int)))) (blkOk_by (by kernel_rfl)) (fun _ _ _ _ _ => (sg_nm (i := 2) S.nd rfl (by first | exact .inl rfl | exact .inr rfl))) (fun _ _ _ _ _ => sts_nil) (fun _ _ _ _ _ => (SF.toE (sf_b1 call_abs k_abs rfl U.n_abs (by decide +kernel) (ae_v (SF.toE (sf_t1 call_int1 k_int1 rfl U.n_int (by decide +kernel) (ae_p (pv 2))))))))) (sss_one (ss_ret (sf_lst (ses_cons (se_var (pv 1)) (ses_cons se_int (ses_cons se_int (ses_cons (SF.toE (sf_bin op_addAny k_add (ae_v se_int) (ae_v (SF.toE (sf_bin op_mulAny k_mulA (ae_v se_int) (ae_v (SF.toE (sf_b1 cr_len k_len rfl U.n_len (by decide +kernel) (ae_p (pv 1)))))))))) (ses_cons se_int ses_nil)))))))))
/-! ### _law_draw -/
def m_law_draw : M Fl :=
  (mSeq (mIf (bAnd (mT (m2 fEq (.val (mFz (m2 fIx (.pk 0) (.val (mC (.int 2)))))) (.val (mC (.int 0))))) (mT (m2 fLt (.val (mFz (m2 fIx (.pk 0) (.val (mC (.int 1)))))) (.val (mFz (m1 fLen (.val (mFz (m2 fIx (.pk 0) (.val (mC (.int 0)))))))))))) (mSeq (mSet 3 (m2 fIx (.val (mFz (m2 fIx (.pk 0) (.val (mC (.int 0)))))) (.val (mFz (m2 fIx (.pk 0) (.val (mC (.int 1)))))))) (mSeq (mPut 0 (mC (.int 1)) (mFz (m2 fAdd (.val (mFz (m2 fIx (.pk 0) (.val (mC (.int 1)))))) (.val (mC (.int 1)))))) (mSeq (mPut 0 (mC (.int 3)) (mFz (m2 (fI2c cPos fun i j => .int (i % j)) (.val (mFz (m1 fInt (.val (mFz (m2 fAdd (.val (mFz (m2 fAdd (.val (mFz (m2 fMul (.val (mFz (m2 fIx (.pk 0) (.val (mC (.int 3)))))) (.val (mC (.int 69621)))))) (.pk 3)))) (.val (mC (.int 31))))))))) (.val (mC (.int 2147483629)))))) (mIf (mT (m2 (fI2 fun i j => .bl (decide (j ≤ i))) (.pk 3) (.val (mFz (m2 (fI2c cPw fun i j => .int (i ^ j.toNat)) (.val (mC (.int 10))) (.val (mC (.int 18)))))))) (mPut 0 (mC (.int 2)) (mV 3)) mNx)))) mNx) (mSeq (mIf (mT (m2 (fI2 fun i j => .bl (decide (j < i))) (.val (mFz (m2 fIx (.pk 0) (.val (mC (.int 2)))))) (.val (mC (.int 0))))) (mSeq (mSet 4 (m2 (fI2c cPos fun i j => .int (i % j)) (.val (mFz (m1 fInt (.val (mFz (m2 fIx (.pk 0) (.val (mC (.int 2))))))))) (.pk 1))) (mSeq (mPut 0 (mC (.int 2)) (mFz (m2 (fI2c cDv fun i j => .int (i / j)) (.val (mFz (m2 fIx (.pk 0) (.val (mC (.int 2)))))) (.pk 1)))) (mRet (mMv 4)))) mNx) (mSeq (mPut 0 (mC (.int 4)) (mFz (m2 fAdd (.val (mFz (m2 fIx (.pk 0) (.val (mC (.int 4)))))) (.val (mC (.int 1)))))) (mSeq (mSet 2 (m2 (fI2c cPos fun i j => .int (i % j)) (.val (mFz (m1 fInt (.val (mFz (m2 fMul (.val (mFz (m1 fInt (.val (mFz (m2 fAdd (.val (mFz (m2 fIx (.pk 0) (.val (mC (.int 3)))))) (.val (mFz (m2 fMul (.val (mC (.int 7919))) (.val (mFz (m2 fIx (.pk 0) (.val (mC (.int 4))))))))))))))) (.val (mC (.int 48271))))))))) (.val (mC (.int 2147483647))))) (mSeq (mSet 2 (m2 (fI2c cPos fun i j => .int (i % j)) (.val (mFz (m1 fInt (.val (mFz (m2 fMul (.pk 2) (.val (mFz (m2 fAdd (.val (mFz (m2 (fI2c cDv fun i j => .int (i / j)) (.pk 2) (.val (mC (.int 1009)))))) (.val (mC (.int 69621)))))))))))) (.val (mC (.int 2147483647))))) (mSeq (mSet 2 (m2 (fI2c cPos fun i j => .int (i % j)) (.val (mFz (m1 fInt (.val (mFz (m2 fMul (.pk 2) (.val (mFz (m2 fAdd (.val (mFz (m2 (fI2c cDv fun i j => .int (i / j)) (.pk 2) (.val (mC (.int 2003)))))) (.val (mC (.int 40692)))))))))))) (.val (mC (.int 2147483399))))) (mRet (m2 (fI2c cPos fun i j => .int (i % j)) (.val (mFz (m1 fInt (.val (mFz (m2 (fI2c cDv fun i j => .int (i / j)) (.pk 2) (.val (mC (.int 16))))))))) (.pk 1)))))))))
def g_law_draw : S → List D → Option (S × S) := runI 5 m_law_draw
theorem sc_law_draw : FnScope ["hand", "many", "number", "cell", "digit"] ["hand", "many"] (defScope s_law_draw) := ⟨rfl, rfl, rfl, by decide +kernel, rfl, by decide +kernel, by decide +kernel⟩
theorem ok_law_draw {P : Program} {w : World} {K : PySem.W.Frag} {mg : Str → Option Value} {base : Heap} {C f : Addr} {ea : Nat → Addr} {CS : Addr} {T : List (Addr × Str)} {fd : FuncData} (U : Fx K mg C ea CS) (F : FunD K "_law_draw" "_law_draw" (defArgs s_law_draw) (defBody s_law_draw) (defScope s_law_draw) [] [] f fd) (hm : mg "_law_draw" = some (.ref f)) :
    CalI P w K mg base (ctW C T) 1 "_law_draw" 2 g_law_draw := by
  have S := sc_law_draw
  exact mkI (k := 0) F hm S rfl (fun _ _ _ _ _ _ us hl => match us, hl with | [_, _], _ => rfl) fun cdv A outer s H E hr =>
    (sss_cons (ss_if (SW.t (sw_and (st_cmp (op_eqD (roomU64 hr)) k_eq (ae_v (SF.toE (sf_ix (ix_any (roomU1 hr)) k_ix (ae_p (pv 0)) (ae_v se_int) fun _ _ => rfl))) (ae_v se_int) rfl) (sw_and1 (st_cmp (op_ltAny hr.units0) k_ltA (ae_v (SF.toE (sf_ix (ix_any (roomU1 hr)) k_ix (ae_p (pv 0)) (ae_v se_int) fun _ _ => rfl))) (ae_v (SF.toE (sf_b1 cr_len k_len rfl U.n_len (by decide +kernel) (ae_v (SF.toE (sf_ix (ix_any (roomU1 hr)) k_ix (ae_p (pv 0)) (ae_v se_int) fun _ _ => rfl)))))) rfl)))) (sss_cons (ss_set (i := 3) S.nd rfl (by first | exact .inl rfl | exact .inr rfl) (sf_ix (ix_any (roomU1 hr)) k_ix (ae_v (SF.toE (sf_ix (ix_any (roomU1 hr)) k_ix (ae_p (pv 0)) (ae_v se_int) fun _ _ => rfl))) (ae_v (SF.toE (sf_ix (ix_any (roomU1 hr)) k_ix (ae_p (pv 0)) (ae_v se_int) fun _ _ => rfl))) fun _ _ => rfl)) (sss_cons (ss_put (roomU1 hr) (pv 0) se_int (SF.toE (sf_bin op_addAny k_add (ae_v (SF.toE (sf_ix (ix_any (roomU1 hr)) k_ix (ae_p (pv 0)) (ae_v se_int) fun _ _ => rfl))) (ae_v se_int)))) (sss_cons (ss_put (roomU1 hr) (pv 0) se_int (SF.toE (sf_bin op_mod k_mod (ae_v (SF.toE (sf_t1 call_int1 k_int1 rfl U.n_int (by decide +kernel) (ae_v (SF.toE (sf_bin op_addAny k_add (ae_v (SF.toE (sf_bin op_addAny k_add (ae_v (SF.toE (sf_bin op_mulAny k_mulA (ae_v (SF.toE (sf_ix (ix_any (roomU1 hr)) k_ix (ae_p (pv 0)) (ae_v se_int) fun _ _ => rfl))) (ae_v se_int)))) (ae_p (pv 3))))) (ae_v se_int))))))) (ae_v se_int)))) (sss_one (ss_if (st_cmp op_ge k_ge (ae_p (pv 3)) (ae_v (SF.toE (sf_bin op_pow k_pow (ae_v se_int) (ae_v se_int)))) rfl) (sss_one (ss_put (roomU1 hr) (pv 0) se_int (se_var (pv 3)))) sss_nil))))) sss_nil) (sss_cons (ss_if (st_cmp op_gt k_gt (ae_v (SF.toE (sf_ix (ix_any (roomU1 hr)) k_ix (ae_p (pv 0)) (ae_v se_int) fun _ _ => rfl))) (ae_v se_int) rfl) (sss_cons (ss_set (i := 4) S.nd rfl (by first | exact .inl rfl | exact .inr rfl) (sf_bin op_mod k_mod (ae_v (SF.toE (sf_t1 call_int1 k_int1 rfl U.n_int (by decide +kernel) (ae_v (SF.toE (sf_ix (ix_any (roomU1 hr)) k_ix (ae_p (pv 0)) (ae_v se_int) fun _ _ => rfl)))))) (ae_p (pv 1)))) (sss_cons (ss_put (roomU1 hr) (pv 0) se_int (SF.toE (sf_bin op_fdiv k_fdiv (ae_v (SF.toE (sf_ix (ix_any (roomU1 hr)) k_ix (ae_p (pv 0)) (ae_v se_int) fun _ _ => rfl))) (ae_p (pv 1))))) (sss_one (ss_ret (sf_mv (pv 4)))))) sss_nil) (sss_cons (ss_put (roomU1 hr) (pv 0) se_int (SF.toE (sf_bin op_addAny k_add (ae_v (SF.toE (sf_ix (ix_any (roomU1 hr)) k_ix (ae_p (pv 0)) (ae_v se_int) fun _ _ => rfl))) (ae_v se_int)))) (sss_cons (ss_set (i := 2) S.nd rfl (by first | exact .inl rfl | exact .inr rfl) (sf_bin op_mod k_mod (ae_v (SF.toE (sf_t1 call_int1 k_int1 rfl U.n_int (by decide +kernel) (ae_v (SF.toE (sf_bin op_mulAny k_mulA (ae_v (SF.toE (sf_t1 call_int1 k_int1 rfl U.n_int (by decide +kernel) (ae_v (SF.toE (sf_bin op_addAny k_add (ae_v (SF.toE (sf_ix (ix_any (roomU1 hr)) k_ix (ae_p (pv 0)) (ae_v se_int) fun _ _ => rfl))) (ae_v (SF.toE (sf_bin op_mulAny k_mulA (ae_v se_int) (ae_v (SF.toE (sf_ix (ix_any (roomU1 hr)) k_ix (ae_p (pv 0)) (ae_v se_int) fun _ _ => rfl)))))))))))) (ae_v se_int))))))) (ae_v se_int))) (sss_cons (ss_set (i := 2) S.nd rfl (by first | exact .inl rfl | exact .inr rfl) (sf_bin op_mod k_mod (ae_v (SF.toE (sf_t1 call_int1 k_int1 rfl U.n_int (by decide +kernel) (ae_v (SF.toE (sf_bin op_mulAny k_mulA (ae_p (pv 2)) (ae_v (SF.toE (sf_bin op_addAny k_add (ae_v (SF.toE (sf_bin op_fdiv k_fdiv (ae_p (pv 2)) (ae_v se_int)))) (ae_v se_int)))))))))) (ae_v se_int))) (sss_cons (ss_set (i := 2) S.nd rfl (by first | exact .inl rfl | exact .inr rfl) (sf_bin op_mod k_mod (ae_v (SF.toE (sf_t1 call_int1 k_int1 rfl U.n_int (by decide +kernel) (ae_v (SF.toE (sf_bin op_mulAny k_mulA (ae_p (pv 2)) (ae_v (SF.toE (sf_bin op_addAny k_add (ae_v (SF.toE (sf_bin op_fdiv k_fdiv (ae_p (pv 2)) (ae_v se_int)))) (ae_v se_int)))))))))) (ae_v se_int))) (sss_one (ss_ret (sf_bin op_mod k_mod (ae_v (SF.toE (sf_t1 call_int1 k_int1 rfl U.n_int (by decide +kernel) (ae_v (SF.toE (sf_bin op_fdiv k_fdiv (ae_p (pv 2)) (ae_v se_int))))))) (ae_p (pv 1)))))))))))
/-! ### _law_some -/
def m_law_some : M Fl :=
  (mRet (m2 fIx (.pk 1) (.val (mFz (mCallI 0 2 g_law_draw [(mFz (m1 fLen (.pk 1)))])))))
def g_law_some : S → List D → Option (S × S) := runI 2 m_law_some
theorem sc_law_some : FnScope ["hand", "things"] ["hand", "things"] (defScope s_law_some) := ⟨rfl, rfl, rfl, by decide +kernel, rfl, by decide +kernel, by decide +kernel⟩
theorem ok_law_some {P : Program} {w : World} {K : PySem.W.Frag} {mg : Str → Option Value} {base : Heap} {C f : Addr} {ea : Nat → Addr} {CS : Addr} {T : List (Addr × Str)} {fd : FuncData} (U : Fx K mg C ea CS) (F : FunD K "_law_some" "_law_some" (defArgs s_law_some) (defBody s_law_some) (defScope s_law_some) [] [] f fd) (hm : mg "_law_some" = some (.ref f)) (c_law_draw : CalI P w K mg base (ctW C T) 1 "_law_draw" 2 g_law_draw) :
    CalI P w K mg base (ctW C T) 2 "_law_some" 2 g_law_some := by
  have S := sc_law_some
  exact mkI (k := 1) F hm S rfl (fun _ _ _ _ _ _ us hl => match us, hl with | [_, _], _ => rfl) fun cdv A outer s H E hr =>
    (sss_one (ss_ret (sf_ix (ix_any (roomU1 hr)) k_ix (ae_p (pv 1)) (ae_v (SF.toE (sf_clI c_law_draw hr (by decide) rfl (pv 0) (ses_cons (SF.toE (sf_b1 cr_len k_len rfl U.n_len (by decide +kernel) (ae_p (pv 1)))) ses_nil)))) fun _ _ => rfl)))
/-! ### _law_is -/
def m_law_is : M Fl :=
  (mRet (m2 fEqS (.val (mFz (m1 fRepr (.pk 0)))) (.val (mFz (m1 fRepr (.pk 1))))))
def g_law_is : List D → Option S := runV 2 m_law_is
theorem sc_law_is : FnScope ["one", "other"] ["one", "other"] (defScope s_law_is) := ⟨rfl, rfl, rfl, by decide +kernel, rfl, by decide +kernel, by decide +kernel⟩
theorem ok_law_is {P : Program} {w : World} {K : PySem.W.Frag} {mg : Str → Option Value} {base : Heap} {C f : Addr} {ea : Nat → Addr} {CS : Addr} {T : List (Addr × Str)} {fd : FuncData} (U : Fx K mg C ea CS) (F : FunD K "_law_is" "_law_is" (defArgs s_law_is) (defBody s_law_is) (defScope s_law_is) [] [] f fd) (hm : mg "_law_is" = some (.ref f)) :
    CalG P w K mg base (ctW C T) 1 "_law_is" 2 g_law_is := by
  have S := sc_law_is
  exact mkG (k := 0) F hm S rfl (fun _ _ _ _ _ _ us hl => match us, hl with | [_, _], _ => rfl) fun cdv A outer s H E hcd hrG =>
    have hr := hrG.toRoom
   
    (sss_one (ss_ret (sf_cmp op_eq k_eqS (ae_v (SF.toE (sf_b1 (cr_repr hrG.gd (room120 hr)) k_repr rfl U.n_repr (by decide +kernel) (ae_p (pv 0))))) (ae_v (SF.toE (sf_b1 (cr_repr hrG.gd (room120 hr)) k_repr rfl U.n_repr (by decide +kernel) (ae_p (pv 1))))) rfl)))
/-! ### _law_faces -/
def m_law_faces : M Fl :=
  (mSeq (mIf (mT (m2 fEq (.val (mFz (m1 fLen (.pk 0)))) (.val (mC (.int 1))))) (mRet (mLst [])) mNx) (mRet (mLc (itR1 (mFz (m1 fLen (.pk 0)))) (.nm 1) mYes (mFz (mTup [(mFz (m2 fAdd (.val (mFz (mSl (.pk 0) .no (.at_ (mV 1))))) (.val (mFz (mSl (.pk 0) (.at_ (mFz (m2 fAdd (.pk 1) (.val (mC (.int 1)))))) .no))))), (mFz (m2 fIx (.val (mFz (mLst [(mC (.int 1)), (mFz (m1 fNeg (.val (mC (.int 1)))))]))) (.val (mFz (m2 (fI2c cPos fun i j => .int (i % j)) (.val (mFz (m1 fInt (.pk 1)))) (.val (mC (.int 2))))))))])) [1])))
def g_law_faces : List D → Option S := runV 2 m_law_faces
theorem sc_law_faces : FnScope ["side", "at"] ["side"] (defScope s_law_faces) := ⟨rfl, rfl, rfl, by decide +kernel, rfl, by decide +kernel, by decide +kernel⟩
theorem ok_law_faces {P : Program} {w : World} {K : PySem.W.Frag} {mg : Str → Option Value} {base : Heap} {C f : Addr} {ea : Nat → Addr} {CS : Addr} {T : List (Addr × Str)} {fd : FuncData} (U : Fx K mg C ea CS) (F : FunD K "_law_faces" "_law_faces" (defArgs s_law_faces) (defBody s_law_faces) (defScope s_law_faces) [] [] f fd) (hm : mg "_law_faces" = some (.ref f)) :
    CalV P w K mg base (ctW C T) 1 "_law_faces" 1 g_law_faces := by
  have S := sc_law_faces
  exact mkV (k := 0) F hm S rfl (fun _ _ _ _ _ _ us hl => match us, hl with | [_], _ => rfl) fun cdv A outer s H E hr =>
    (sss_cons (ss_if (st_cmp (op_eqD (roomU64 hr)) k_eq (ae_v (SF.toE (sf_b1 cr_len k_len rfl U.n_len (by decide +kernel) (ae_p (pv 0))))) (ae_v se_int) rfl) (sss_one (ss_ret (sf_lst ses_nil))) sss_nil) (sss_one (ss_ret (sf_lc (own := [("at", 1)]) rfl S.nd (si_r1 rfl U.n_range (SF.toE (sf_b1 cr_len k_len rfl U.n_len (by decide +kernel) (ae_p (pv 0))))) (blkOk_by (by kernel_rfl)) (fun _ _ _ _ _ => (sg_nm (i := 1) S.nd rfl (by first | exact .inl rfl | exact .inr rfl))) (fun _ _ _ _ _ => sts_nil) (fun _ _ _ _ _ => (SF.toE (sf_tup (ses_cons (SF.toE (sf_bin op_addAny k_add (ae_v (SF.toE (sf_sl (ae_p (pv 0)) so_no (so_at (se_var (pv 1)))))) (ae_v (SF.toE (sf_sl (ae_p (pv 0)) (so_at (SF.toE (sf_bin op_addAny k_add (ae_p (pv 1)) (ae_v se_int)))) so_no))))) (ses_cons (SF.toE (sf_ix (ix_any (roomU1 hr)) k_ix (ae_v (SF.toE (sf_lst (ses_cons se_int (ses_cons (SF.toE (sf_un un_neg k_neg (ae_v se_int))) ses_nil))))) (ae_v (SF.toE (sf_bin op_mod k_mod (ae_v (SF.toE (sf_t1 call_int1 k_int1 rfl U.n_int (by decide +kernel) (ae_p (pv 1))))) (ae_v se_int)))) fun _ _ => rfl)) ses_nil)))))))))
/-! ### _law_sides -/
def m_law_sides : M Fl :=
  (mSeq (mPar2 3 4 (mLst []) (m1 fList (.pk 0))) (mSeq (lpW (mT (m2 (fI2 fun i j => .bl (decide (j < i))) (.val (mFz (m1 fLen (.pk 4)))) (.val (mC (.int 0))))) (mSeq (mSet 5 (mPop 4)) (mIf (mT (m2 (fInA true) (.pk 5) (.pk 3))) (mSeq (mDrop (mApp 3 (mV 5))) (mDrop (mExt 4 (mFz (mLc (itD (mFz (mCall 1 g_law_faces [(mV 5)]))) (.tp [(.nm 7), (.nm 8)]) mYes (mV 7) [7, 8]))))) mNx)) 1000) (mSeq (mSet 1 (mLst [])) (mSeq (mFor (itR2 (mC (.int 1)) (mC (.int 8))) (.nm 2) (mSet 1 (m2 fAdd (.pk 1) (.val (mFz (m1 fSort (.val (mFz (mLc (itD (mV 3)) (.nm 6) (mT (m2 fEq (.val (mFz (m1 fLen (.pk 6)))) (.pk 2))) (mV 6) [6]))))))))) (mRet (mMv 1))))))
def g_law_sides : List D → Option S := runV 9 m_law_sides
theorem sc_law_sides : FnScope ["tops", "found", "size", "seen", "waiting", "here", "side", "wall", "sign"] ["tops"] (defScope s_law_sides) := ⟨rfl, rfl, rfl, by decide +kernel, rfl, by decide +kernel, by decide +kernel⟩
theorem ok_law_sides {P : Program} {w : World} {K : PySem.W.Frag} {mg : Str → Option Value} {base : Heap} {C f : Addr} {ea : Nat → Addr} {CS : Addr} {T : List (Addr × Str)} {fd : FuncData} (U : Fx K mg C ea CS) (F : FunD K "_law_sides" "_law_sides" (defArgs s_law_sides) (defBody s_law_sides) (defScope s_law_sides) [] [] f fd) (hm : mg "_law_sides" = some (.ref f)) (c_law_faces : CalV P w K mg base (ctW C T) 1 "_law_faces" 1 g_law_faces) :
    CalV P w K mg base (ctW C T) 2 "_law_sides" 1 g_law_sides := by
  have S := sc_law_sides
  exact mkV (k := 1) F hm S rfl (fun _ _ _ _ _ _ us hl => match us, hl with | [_], _ => rfl) fun cdv A outer s H E hr =>
    (sss_cons (ss_par2 (i := 3) (j := 4) rfl S.nd rfl rfl (by decide) rfl rfl (sf_lst ses_nil) (sf_t1 call_list_of k_list rfl U.n_list (by decide +kernel) (ae_p (pv 0))) rfl) (sss_cons (ss_while (n := 1000) PassesOwn.never (st_cmp op_gt k_gt (ae_v (SF.toE (sf_b1 cr_len k_len rfl U.n_len (by decide +kernel) (ae_p (pv 4))))) (ae_v se_int) rfl) (sss_cons (ss_set (i := 5) S.nd rfl (by first | exact .inl rfl | exact .inr rfl) (sf_pop (pv 4))) (sss_one (ss_if (st_cmp (op_ninAny (roomU hr)) k_nin (ae_p (pv 5)) (ae_p (pv 3)) rfl) (sss_cons (ss_expr (sf_app (pv 3) (se_var (pv 5)))) (sss_one (ss_expr (sf_ext (pv 4) (SF.toE (sf_lc (own := [("wall", 7), ("sign", 8)]) rfl S.nd (si_d (SF.toE (sf_cl c_law_faces hr (by decide) rfl (ses_cons (se_var (pv 5)) ses_nil)))) (blkOk_by (by kernel_rfl)) (fun _ _ _ _ _ => (sg_tp rfl (sgs_cons (sg_nm (i := 7) S.nd rfl (by first | exact .inl rfl | exact .inr rfl)) (sgs_cons (sg_nm (i := 8) S.nd rfl (by first | exact .inl rfl | exact .inr rfl)) sgs_nil)))) (fun _ _ _ _ _ => sts_nil) (fun _ _ _ _ _ => (se_var (pv 7))))))))) sss_nil)))) (sss_cons (ss_set (i := 1) S.nd rfl (by first | exact .inl rfl | exact .inr rfl) (sf_lst ses_nil)) (sss_cons (ss_for PassesOwn.never rfl (si_r2 rfl U.n_range se_int se_int) (sg_nm (i := 2) S.nd rfl (by first | exact .inl rfl | exact .inr rfl)) (sss_one (ss_set (i := 1) S.nd rfl (by first | exact .inl rfl | exact .inr rfl) (sf_bin op_addAny k_add (ae_p (pv 1)) (ae_v (SF.toE (sf_b1 (cr_sort rfl (roomU64 hr)) k_sort rfl U.n_sorted (by decide +kernel) (ae_v (SF.toE (sf_lc (own := [("side", 6)]) rfl S.nd (si_d (se_var (pv 3))) (blkOk_by (by kernel_rfl)) (fun _ _ _ _ _ => (sg_nm (i := 6) S.nd rfl (by first | exact .inl rfl | exact .inr rfl))) (fun _ _ _ _ _ => (sts_one (st_cmp (op_eqD (roomU64 hr)) k_eq (ae_v (SF.toE (sf_b1 cr_len k_len rfl U.n_len (by decide +kernel) (ae_p (pv 6))))) (ae_p (pv 2)) rfl))) (fun _ _ _ _ _ => (se_var (pv 6))))))))))))) (sss_one (ss_ret (sf_mv (pv 1))))))))
/-! ### _law_tops -/
def m_law_tops : M Fl :=
  (mSeq (mSet 1 (mLst [])) (mSeq (mFor (itD (mV 0)) (.nm 2) (mDrop (mExt 1 (mFz (mLc (itD (mFz (mCall 1 g_law_faces [(mV 2)]))) (.tp [(.nm 3), (.nm 4)]) mYes (mV 3) [3, 4]))))) (mRet (m1 fTup (.val (mFz (m1 fSort (.val (mFz (mLc (itD (mV 0)) (.nm 2) (mT (m2 (fInA true) (.pk 2) (.pk 1))) (mV 2) [2]))))))))))
def g_law_tops : List D → Option S := runV 5 m_law_tops
theorem sc_law_tops : FnScope ["sides_all", "covered", "side", "wall", "sign"] ["sides_all"] (defScope s_law_tops) := ⟨rfl, rfl, rfl, by decide +kernel, rfl, by decide +kernel, by decide +kernel⟩
theorem ok_law_tops {P : Program} {w : World} {K : PySem.W.Frag} {mg : Str → Option Value} {base : Heap} {C f : Addr} {ea : Nat → Addr} {CS : Addr} {T : List (Addr × Str)} {fd : FuncData} (U : Fx K mg C ea CS) (F : FunD K "_law_tops" "_law_tops" (defArgs s_law_tops) (defBody s_law_tops) (defScope s_law_tops) [] [] f fd) (hm : mg "_law_tops" = some (.ref f)) (c_law_faces : CalV P w K mg base (ctW C T) 1 "_law_faces" 1 g_law_faces) :
    CalV P w K mg base (ctW C T) 2 "_law_tops" 1 g_law_tops := by
  have S := sc_law_tops
  exact mkV (k := 1) F hm S rfl (fun _ _ _ _ _ _ us hl => match us, hl with | [_], _ => rfl) fun cdv A outer s H E hr =>
    (sss_cons (ss_set (i := 1) S.nd rfl (by first | exact .inl rfl | exact .inr rfl) (sf_lst ses_nil)) (sss_cons (ss_for PassesOwn.never rfl (si_d (se_var (pv 0))) (sg_nm (i := 2) S.nd rfl (by first | exact .inl rfl | exact .inr rfl)) (sss_one (ss_expr (sf_ext (pv 1) (SF.toE (sf_lc (own := [("wall", 3), ("sign", 4)]) rfl S.nd (si_d (SF.toE (sf_cl c_law_faces hr (by decide) rfl (ses_cons (se_var (pv 2)) ses_nil)))) (blkOk_by (by kernel_rfl)) (fun _ _ _ _ _ => (sg_tp rfl (sgs_cons (sg_nm (i := 3) S.nd rfl (by first | exact .inl rfl | exact .inr rfl)) (sgs_cons (sg_nm (i := 4) S.nd rfl (by first | exact .inl rfl | exact .inr rfl)) sgs_nil)))) (fun _ _ _ _ _ => sts_nil) (fun _ _ _ _ _ => (se_var (pv 3))))))))) (sss_one (ss_ret (sf_t1 cr_tup k_tup rfl U.n_tuple (by decide +kernel) (ae_v (SF.toE (sf_b1 (cr_sort rfl (roomU64 hr)) k_sort rfl U.n_sorted (by decide +kernel) (ae_v (SF.toE (sf_lc (own := [("side", 2)]) rfl S.nd (si_d (se_var (pv 0))) (blkOk_by (by kernel_rfl)) (fun _ _ _ _ _ => (sg_nm (i := 2) S.nd rfl (by first | exact .inl rfl | exact .inr rfl))) (fun _ _ _ _ _ => (sts_one (st_cmp (op_ninAny (roomU hr)) k_nin (ae_p (pv 2)) (ae_p (pv 1)) rfl))) (fun _ _ _ _ _ => (se_var (pv 2))))))))))))))
/-! ### _law_corners -/
def m_law_corners : M Fl :=
  (mSeq (mSet 2 (mCallI 0 2 g_law_some [(mFz (mLst [(mC (.int 1)), (mC (.int 1)), (mC (.int 1)), (mC (.int 3)), (mC (.int 100))]))])) (mRet (mLc (itR1 (mV 1)) (.nm 3) mYes (mFz (m2 fAdd (.val (mFz (m2 fMul (.pk 2) (.pk 3)))) (.val (mFz (mCallI 0 2 g_law_draw [(mV 2)]))))) [3])))
def g_law_corners : S → List D → Option (S × S) := runI 4 m_law_corners
theorem sc_law_corners : FnScope ["hand", "many", "wide", "at"] ["hand", "many"] (defScope s_law_corners) := ⟨rfl, rfl, rfl, by decide +kernel, rfl, by decide +kernel, by decide +kernel⟩
theorem ok_law_corners {P : Program} {w : World} {K : PySem.W.Frag} {mg : Str → Option Value} {base : Heap} {C f : Addr} {ea : Nat → Addr} {CS : Addr} {T : List (Addr × Str)} {fd : FuncData} (U : Fx K mg C ea CS) (F : FunD K "_law_corners" "_law_corners" (defArgs s_law_corners) (defBody s_law_corners) (defScope s_law_corners) [] [] f fd) (hm : mg "_law_corners" = some (.ref f)) (c_law_draw : CalI P w K mg base (ctW C T) 1 "_law_draw" 2 g_law_draw) (c_law_some : CalI P w K mg base (ctW C T) 2 "_law_some" 2 g_law_some) :
    CalI P w K mg base (ctW C T) 3 "_law_corners" 2 g_law_corners := by
  have S := sc_law_corners
  exact mkI (k := 2) F hm S rfl (fun _ _ _ _ _ _ us hl => match us, hl with | [_, _], _ => rfl) fun cdv A outer s H E hr =>
    (sss_cons (ss_set (i := 2) S.nd rfl (by first | exact .inl rfl | exact .inr rfl) (sf_clI c_law_some hr (by decide) rfl (pv 0) (ses_cons (SF.toE (sf_lst (ses_cons se_int (ses_cons se_int (ses_cons se_int (ses_cons se_int (ses_cons se_int ses_nil))))))) ses_nil))) (sss_one (ss_ret (sf_lc (own := [("at", 3)]) rfl S.nd (si_r1 rfl U.n_range (se_var (pv 1))) (blkOk_by (by kernel_rfl)) (fun _ _ _ _ _ => (sg_nm (i := 3) S.nd rfl (by first | exact .inl rfl | exact .inr rfl))) (fun _ _ _ _ _ => sts_nil) (fun _ _ _ _ _ => (SF.toE (sf_bin op_addAny k_add (ae_v (SF.toE (sf_bin op_mulAny k_mulA (ae_p (pv 2)) (ae_p (pv 3))))) (ae_v (SF.toE (sf_clI c_law_draw hr (by decide) rfl (pv 0) (ses_cons (se_var (pv 2)) ses_nil)))))))))))
/-! ### _law_drawn -/
def m_law_drawn : M Fl :=
  (mSeq (mSet 4 (mLst [])) (mSeq (mFor (itR1 (mFz (mCallI 0 2 g_law_draw [(mFz (m2 fAdd (.pk 2) (.val (mC (.int 1)))))]))) (.nm 5) (mSeq (mPar2 7 8 (m1 fList (.pk 1)) (mLst [])) (mSeq (mFor (itR1 (mFz (m2 fAdd (.val (mC (.int 1))) (.val (mFz (mCallI 0 2 g_law_draw [(mFz (m2 fMin2 (.pk 3) (.val (mFz (m1 fLen (.pk 1))))))])))))) (.nm 6) (mDrop (mApp 8 (mFz (mPopAt 7 (mFz (mCallI 0 2 g_law_draw [(mFz (m1 fLen (.pk 7)))]))))))) (mDrop (mApp 4 (mFz (m1 fTup (.val (mFz (m1 fSort (.pk 8))))))))))) (mRet (mCall 1 g_law_tops [(mFz (mCall 1 g_law_sides [(mV 4)]))]))))
def g_law_drawn : S → List D → Option (S × S) := runI 9 m_law_drawn
theorem sc_law_drawn : FnScope ["hand", "corners", "most", "size", "found", "turn", "more", "left", "top"] ["hand", "corners", "most", "size"] (defScope s_law_drawn) := ⟨rfl, rfl, rfl, by decide +kernel, rfl, by decide +kernel, by decide +kernel⟩
theorem ok_law_drawn {P : Program} {w : World} {K : PySem.W.Frag} {mg : Str → Option Value} {base : Heap} {C f : Addr} {ea : Nat → Addr} {CS : Addr} {T : List (Addr × Str)} {fd : FuncData} (U : Fx K mg C ea CS) (F : FunD K "_law_drawn" "_law_drawn" (defArgs s_law_drawn) (defBody s_law_drawn) (defScope s_law_drawn) [] [] f fd) (hm : mg "_law_drawn" = some (.ref f)) (c_law_draw : CalI P w K mg base (ctW C T) 1 "_law_draw" 2 g_law_draw) (c_law_sides : CalV P w K mg base (ctW C T) 2 "_law_sides" 1 g_law_sides) (c_law_tops : CalV P w K mg base (ctW C T) 2 "_law_tops" 1 g_law_tops) :
    CalI P w K mg base (ctW C T) 3 "_law_drawn" 4 g_law_drawn := by
  have S := sc_law_drawn
  exact mkI (k := 2) F hm S rfl (fun _ _ _ _ _ _ us hl => match us, hl with | [_, _, _, _], _ => rfl) fun cdv A outer s H E hr =>
    (sss_cons (ss_set (i := 4) S.nd rfl (by first | exact .inl rfl | exact .inr rfl) (sf_lst ses_nil)) (sss_cons (ss_for PassesOwn.never rfl (si_r1 rfl U.n_range (SF.toE (sf_clI c_law_draw hr (by decide) rfl (pv 0) (ses_cons (SF.toE (sf_bin op_addAny k_add (ae_p (pv 2)) (ae_v se_int))) ses_nil)))) (sg_nm (i := 5) S.nd rfl (by first | exact .inl rfl | exact .inr rfl)) (sss_cons (ss_par2 (i := 7) (j := 8) rfl S.nd rfl rfl (by decide) rfl rfl (sf_t1 call_list_of k_list rfl U.n_list (by decide +kernel) (ae_p (pv 1))) (sf_lst ses_nil) rfl) (sss_cons (ss_for PassesOwn.never rfl (si_r1 rfl U.n_range (SF.toE (sf_bin op_addAny k_add (ae_v se_int) (ae_v (SF.toE (sf_clI c_law_draw hr (by decide) rfl (pv 0) (ses_cons (SF.toE (sf_b2 (call_min2 rfl) k_min2 rfl U.n_min (by decide +kernel) (ae_p (pv 3)) (ae_v (SF.toE (sf_b1 cr_len k_len rfl U.n_len (by decide +kernel) (ae_p (pv 1))))))) ses_nil))))))) (sg_nm (i := 6) S.nd rfl (by first | exact .inl rfl | exact .inr rfl)) (sss_one (ss_expr (sf_app (pv 8) (SF.toE (sf_popAt (pv 7) (SF.toE (sf_clI c_law_draw hr (by decide) rfl (pv 0) (ses_cons (SF.toE (sf_b1 cr_len k_len rfl U.n_len (by decide +kernel) (ae_p (pv 7)))) ses_nil))))))))) (sss_one (ss_expr (sf_app (pv 4) (SF.toE (sf_t1 cr_tup k_tup rfl U.n_tuple (by decide +kernel) (ae_v (SF.toE (sf_b1 (cr_sort rfl (roomU64 hr)) k_sort rfl U.n_sorted (by decide +kernel) (ae_p (pv 8))))))))))))) (sss_one (ss_ret (sf_cl c_law_tops hr (by decide) rfl (ses_cons (SF.toE (sf_cl c_law_sides hr (by decide) rfl (ses_cons (se_var (pv 4)) ses_nil))) ses_nil))))))
/-! ### _law_word -/
def wdN (k : Nat) : Str := match k with | 0 => "degree" | _ => "side"
theorem isE_at (b : Bool) (c : Addr) (x y z : Option Ev.S) : mFz (mIsE (mV 2) c b) [x, y, some (.imm (.at_ c)), z] = some (.bl b, [x, y, some (.imm (.at_ c)), z]) := by
  have e : mIsE (mV 2) c b [x, y, some (.imm (.at_ c)), z] = some (.imm (.bl b), [x, y, some (.imm (.at_ c)), z]) := by
    show (if c = c then some (S.imm (.bl b), [x, y, some (.imm (.at_ c)), z]) else none) = _
    rw [if_pos rfl]
  unfold mFz
  rw [e]; rfl

def mh_law_word (k : Nat) (c : Addr) : M Fl :=
  (mSeq (mSet 3 (mLst [(mFz (mIsE (mV 2) c (k == 0))), (mFz (mIsE (mV 2) c (k == 1)))])) (mSeq (mSet 1 (mIm (mC (.str "odd")))) (mIf (bAnd (mT (m2 fEq (.val (mCnt (.pk 3) (mC (.bl true)))) (.val (mC (.int 1))))) (mTru (.val (mFz (mIsE (mV 2) c true))))) (mSet 1 (m2 fIx (.val (mFz (mLst [(mC (.str "degree")), (mC (.str "side"))]))) (.val (mIdx (mV 3) (mC (.bl true)))))) mNx)))
theorem sc_law_word : FnScope ["call", "found", "error", "some"] ["call"] (defScope s_law_word) := ⟨rfl, rfl, rfl, by decide +kernel, rfl, by decide +kernel, by decide +kernel⟩
theorem mh_ok (k : Nat) (hk : k < 2) (c : Addr) : ∃ σ', mh_law_word k c (wfr 4 2 c) = some (.nx, σ') ∧ σ'[1]? = some (some (.imm (.str (wdN k)))) := by
  have w : wfr 4 2 c = [none, none, some (.imm (.at_ c)), none] := rfl
  have h1 : ∀ b0 b1, mLst [(mFz (mIsE (mV 2) c b0)), (mFz (mIsE (mV 2) c b1))] [none, none, some (.imm (.at_ c)), none] = some (.ls false [.bl b0, .bl b1], [none, none, some (.imm (.at_ c)), none]) := fun b0 b1 => by
    unfold mLst
    simp only [mL, isE_at]
    rfl
  refine ⟨[none, some (.imm (.str (wdN k))), some (.imm (.at_ c)), some (.imm (.lst [.bl (k == 0), .bl (k == 1)]))], ?_, rfl⟩
  rw [w]
  unfold mh_law_word
  have s1 : mSet 3 (mLst [(mFz (mIsE (mV 2) c (k == 0))), (mFz (mIsE (mV 2) c (k == 1)))]) [none, none, some (.imm (.at_ c)), none] = some (.nx, [none, none, some (.imm (.at_ c)), some (.ls false [.bl (k == 0), .bl (k == 1)])]) := by
    unfold mSet; rw [h1]; rfl
  have s4 : (mIf (bAnd (mT (m2 fEq (.val (mCnt (.pk 3) (mC (.bl true)))) (.val (mC (.int 1))))) (mTru (.val (mFz (mIsE (mV 2) c true))))) (mSet 1 (m2 fIx (.val (mFz (mLst [(mC (.str "degree")), (mC (.str "side"))]))) (.val (mIdx (mV 3) (mC (.bl true)))))) mNx) [none, some (.imm (.str "odd")), some (.imm (.at_ c)), some (.ls false [.bl (k == 0), .bl (k == 1)])] = some (.nx, [none, some (.imm (.str (wdN k))), some (.imm (.at_ c)), some (.imm (.lst [.bl (k == 0), .bl (k == 1)]))]) := by
    have q1 : mT (m2 fEq (.val (mCnt (.pk 3) (mC (.bl true)))) (.val (mC (.int 1)))) [none, some (.imm (.str "odd")), some (.imm (.at_ c)), some (.ls false [.bl (k == 0), .bl (k == 1)])] = some (true, [none, some (.imm (.str "odd")), some (.imm (.at_ c)), some (.ls false [.bl (k == 0), .bl (k == 1)])]) := by
      match k, hk with
      | 0, _ => kernel_rfl
      | 1, _ => kernel_rfl
    have q2 : ∀ z, mTru (.val (mFz (mIsE (mV 2) c true))) [none, some (.imm (.str "odd")), some (.imm (.at_ c)), z] = some (true, [none, some (.imm (.str "odd")), some (.imm (.at_ c)), z]) := fun z => by
      have e := isE_at true c none (some (.imm (.str "odd"))) z
      simp [mTru, A.one, A.go, A.fin, e]
      try rfl
    unfold mIf bAnd
    rw [q1]
    dsimp only
    rw [q2]
    dsimp only
    match k, hk with
    | 0, _ => kernel_rfl
    | 1, _ => kernel_rfl
  unfold mSeq
  rw [s1]
  dsimp only
  have s3 : ∀ z, mSet 1 (mIm (mC (.str "odd"))) [none, none, some (.imm (.at_ c)), z] = some (.nx, [none, some (.imm (.str "odd")), some (.imm (.at_ c)), z]) := fun z => rfl
  rw [s3]
  dsimp only
  rw [s4]
theorem ok_law_word {P : Program} {w : World} {K : PySem.W.Frag} {mg : Str → Option Value} {base : Heap} {C f : Addr} {ea : Nat → Addr} {CS : Addr} {T : List (Addr × Str)} {fd : FuncData} (U : Fx K mg C ea CS) (F : FunD K "_law_word" "_law_word" (defArgs s_law_word) (defBody s_law_word) (defScope s_law_word) [] [] f fd) (hm : mg "_law_word" = some (.ref f)) :
    CalW P w K mg base (ctW C T) (evs ea) 2 wdN 2 "_law_word" := by
  have S := sc_law_word
  refine mkWd (k := 1) F hm S (fun _ _ _ _ _ _ us hl => match us, hl with | [_], _ => rfl) rfl (by first | exact .inl rfl | exact .inr (.inl rfl)) rfl rfl fun cdv X qq e1 e2 e3 e4 e5 hr => ?_
  subst e1 e2 e3 e4 e5
  have hU : X.A.units + 68 < cLine := by have := hr.un; omega
  refine word_gives (mh := mh_law_word) (i := 1) (j := 2) (n := 2) (wd := wdN) S.nd rfl rfl rfl rfl (by decide) (by decide) rfl rfl rfl rfl U.er.cs (fun k hk => U.er.ex k hk) (fun k hk c oe s H pn hz hf => ?_) mh_ok
  have hU : (X.A.deeper (PyProof.Rows.envOfC "_law_word" (defScope s_law_word) s.heap.objs.size f cdv)).units + 65 < cLine := by show X.A.units + 3 + 65 < cLine; omega
  have hU1 : (X.A.deeper (PyProof.Rows.envOfC "_law_word" (defScope s_law_word) s.heap.objs.size f cdv)).units + 1 < cLine := by omega
  have hU64 : (X.A.deeper (PyProof.Rows.envOfC "_law_word" (defScope s_law_word) s.heap.objs.size f cdv)).units + 64 < cLine := by omega
  have hU0 : (X.A.deeper (PyProof.Rows.envOfC "_law_word" (defScope s_law_word) s.heap.objs.size f cdv)).units < cLine := by omega
  exact (sss_cons (ss_set (i := 3) S.nd rfl (by first | exact .inl rfl | exact .inr rfl) (sf_lst (ses_cons (SF.toE (isE_ok (v := .ref (ea 0)) (U.er.ec k hk) hz hf (U.er.kit k 0 hk (by decide)) (fun _ r => r) rfl U.n_isinstance (pe_glob (v := .ref (ea 0)) rfl (U.er.er 0 "NoDegree" rfl).m rfl (by decide)) (se_var (pv 2)))) (ses_cons (SF.toE (isE_ok (v := .ref (ea 1)) (U.er.ec k hk) hz hf (U.er.kit k 1 hk (by decide)) (fun _ r => r) rfl U.n_isinstance (pe_glob (v := .ref (ea 1)) rfl (U.er.er 1 "NoSide" rfl).m rfl (by decide)) (se_var (pv 2)))) ses_nil)))) (sss_cons (ss_set (i := 1) S.nd rfl (by first | exact .inl rfl | exact .inr rfl) (SE.toF se_str)) (sss_one (ss_if (SW.t (sw_and (st_cmp (op_eqD hU64) k_eq (ae_v (se_cnt hU (ae_p (pv 3)) se_bl)) (ae_v se_int) rfl) (sw_and1 (st_tru (ae_v (SF.toE (isE_ok (v := .ty "ValueError") (U.er.ec k hk) hz hf (U.er.kv k hk) (fun _ r => r) rfl U.n_isinstance (pe_bltn (v := .ty "ValueError") rfl U.n_ValueError (by decide +kernel) rfl (by decide) (by decide)) (se_var (pv 2))))))))) (sss_one (ss_set (i := 1) S.nd rfl (by first | exact .inl rfl | exact .inr rfl) (sf_ix (ix_any hU1) k_ix (ae_v (SF.toE (sf_lst (ses_cons se_str (ses_cons se_str ses_nil))))) (ae_v (se_idx hU (se_var (pv 3)) se_bl)) fun _ _ => rfl))) sss_nil))))
/-! ### _law_web -/
def m_law_web : M Fl :=
  (mRet (mCall 1 g_Web [(mFz (mCall 1 g_law_tops [(mFz (mCall 1 g_law_sides [(mV 0)]))]))]))
def g_law_web : List D → Option S := runV 1 m_law_web
theorem sc_law_web : FnScope ["some"] ["some"] (defScope s_law_web) := ⟨rfl, rfl, rfl, by decide +kernel, rfl, by decide +kernel, by decide +kernel⟩
theorem ok_law_web {P : Program} {w : World} {K : PySem.W.Frag} {mg : Str → Option Value} {base : Heap} {C f : Addr} {ea : Nat → Addr} {CS : Addr} {T : List (Addr × Str)} {fd : FuncData} (U : Fx K mg C ea CS) (F : FunD K "_law_web" "_law_web" (defArgs s_law_web) (defBody s_law_web) (defScope s_law_web) [] [] f fd) (hm : mg "_law_web" = some (.ref f)) (c_Web : WebOk P w K mg base C T 4 w_Web) (c_law_sides : CalV P w K mg base (ctW C T) 2 "_law_sides" 1 g_law_sides) (c_law_tops : CalV P w K mg base (ctW C T) 2 "_law_tops" 1 g_law_tops) :
    CalV P w K mg base (ctW C T) 6 "_law_web" 1 g_law_web := by
  have S := sc_law_web
  exact mkV (k := 5) F hm S rfl (fun _ _ _ _ _ _ us hl => match us, hl with | [_], _ => rfl) fun cdv A outer s H E hr =>
    (sss_one (ss_ret (sf_web c_Web hr (by decide) rfl (ses_cons (SF.toE (sf_cl c_law_tops hr (by decide) rfl (ses_cons (SF.toE (sf_cl c_law_sides hr (by decide) rfl (ses_cons (se_var (pv 0)) ses_nil))) ses_nil))) ses_nil))))
/-! ### _law_is_about -/
def m_law_is_about : M Fl :=
  (mSeq (mSet 3 (mLc (itD (mV 0)) (.nm 5) (mTru (.val (mFz (m1 fAll (.val (mFz (mLc (itD (mV 2)) (.nm 9) mYes (mFz (m2 (fInA false) (.pk 9) (.pk 5))) [9]))))))) (mV 5) [5])) (mSeq (mSet 4 (mLst [])) (mSeq (mFor (itD (mV 0)) (.nm 5) (mSeq (mSet 6 (m1 fTup (.val (mFz (m1 fSort (.val (mFz (m2 fAdd (.pk 5) (.pk 2))))))))) (mIf (bAnd (bNot (mTru (.val (mFz (m1 fAny (.val (mFz (mLc (itD (mV 5)) (.nm 9) mYes (mFz (m2 (fInA false) (.pk 9) (.pk 2))) [9])))))))) (mT (m2 (fInA false) (.pk 6) (.pk 0)))) (mDrop (mApp 4 (mV 5))) mNx))) (mSeq (mPar 7 8 [(mFz (mCall 2 g_star [(mV 1), (mV 2)])), (mFz (mCall 2 g_link [(mV 1), (mV 2)]))]) (mSeq (mIf (bOr (mT (mEqO g_Web_eq true (mV 7) (mFz (mCall 1 g_law_web [(mV 3)])))) (mT (mEqO g_Web_eq true (mV 8) (mFz (mCall 1 g_law_web [(mV 4)]))))) (mRet (mIm (mC (.bl false)))) mNx) (mSeq (mIf (bNot (mTru (.val (mFz (mCall 2 g_law_is [(mFz (mCall 1 g_all_sides [(mV 8)])), (mFz (m1 fTup (.val (mFz (mLc (itD (mV 0)) (.nm 5) (mT (m2 (fInA false) (.pk 5) (.pk 4))) (mV 5) [5])))))]))))) (mRet (mIm (mC (.bl false)))) mNx) (mRet (mAnd (m2 (fIsB false) (.val (mFz (mCall 2 g_is_part [(mV 1), (mV 7)]))) (.val (mC (.bl true)))) (m2 (fIsB false) (.val (mFz (mCall 2 g_is_part [(mV 7), (mV 8)]))) (.val (mC (.bl true))))))))))))
def g_law_is_about : List D → Option S := runV 10 m_law_is_about
theorem sc_law_is_about : FnScope ["whole", "web", "side", "stars", "links", "other", "both", "about", "around", "corner"] ["whole", "web", "side"] (defScope s_law_is_about) := ⟨rfl, rfl, rfl, by decide +kernel, rfl, by decide +kernel, by decide +kernel⟩
theorem ok_law_is_about {P : Program} {w : World} {K : PySem.W.Frag} {mg : Str → Option Value} {base : Heap} {C f : Addr} {ea : Nat → Addr} {CS : Addr} {T : List (Addr × Str)} {fd : FuncData} (U : Fx K mg C ea CS) (F : FunD K "_law_is_about" "_law_is_about" (defArgs s_law_is_about) (defBody s_law_is_about) (defScope s_law_is_about) [] [] f fd) (hm : mg "_law_is_about" = some (.ref f)) (e_Web : EqDef P w K mg base C T 1 g_Web_eq) (c_law_is : CalG P w K mg base (ctW C T) 1 "_law_is" 2 g_law_is) (c_law_web : CalV P w K mg base (ctW C T) 6 "_law_web" 1 g_law_web) (c_all_sides : CalV P w K mg base (ctW C T) 1 "all_sides" 1 g_all_sides) (c_is_part : CalV P w K mg base (ctW C T) 1 "is_part" 2 g_is_part) (c_link : CalV P w K mg base (ctW C T) 7 "link" 2 g_link) (c_star : CalV P w K mg base (ctW C T) 7 "star" 2 g_star) :
    CalG P w K mg base (ctW C T) 8 "_law_is_about" 3 g_law_is_about := by
  have S := sc_law_is_about
  exact mkG (k := 7) F hm S rfl (fun _ _ _ _ _ _ us hl => match us, hl with | [_, _, _], _ => rfl) fun cdv A outer s H E hcd hrG =>
    have hr := hrG.toRoom
   
    (sss_cons (ss_setLc (i := 3) (own := [("other", 5)]) rfl S.nd rfl rfl rfl (si_d (se_var (pv 0))) (blkOk_by (by kernel_rfl)) (fun _ _ _ _ _ => (sg_nm (i := 5) S.nd rfl (by first | exact .inl rfl | exact .inr rfl))) (fun _ _ _ _ _ => (sts_one (st_tru (ae_v (SF.toE (sf_b1 (cr_all rfl) k_all rfl U.n_all (by decide +kernel) (ae_v (SF.toE (sf_lc (own := [("corner", 9)]) rfl S.nd (si_d (se_var (pv 2))) (blkOk_by (by kernel_rfl)) (fun _ _ _ _ _ => (sg_nm (i := 9) S.nd rfl (by first | exact .inl rfl | exact .inr rfl))) (fun _ _ _ _ _ => sts_nil) (fun _ _ _ _ _ => (SF.toE (sf_cmp (op_inAny (roomU hr)) k_in (ae_p (pv 9)) (ae_p (pv 5)) rfl)))))))))))) (fun _ _ _ _ _ => (se_var (pv 5)))) (sss_cons (ss_set (i := 4) S.nd rfl (by first | exact .inl rfl | exact .inr rfl) (sf_lst ses_nil)) (sss_cons (ss_for PassesOwn.never rfl (si_d (se_var (pv 0))) (sg_nm (i := 5) S.nd rfl (by first | exact .inl rfl | exact .inr rfl)) (sss_cons (ss_set (i := 6) S.nd rfl (by first | exact .inl rfl | exact .inr rfl) (sf_t1 cr_tup k_tup rfl U.n_tuple (by decide +kernel) (ae_v (SF.toE (sf_b1 (cr_sort rfl (roomU64 hr)) k_sort rfl U.n_sorted (by decide +kernel) (ae_v (SF.toE (sf_bin op_addAny k_add (ae_p (pv 5)) (ae_p (pv 2)))))))))) (sss_one (ss_if (SW.t (sw_and (st_not (st_tru (ae_v (SF.toE (sf_b1 (cr_any rfl) k_any rfl U.n_any (by decide +kernel) (ae_v (SF.toE (sf_lc (own := [("corner", 9)]) rfl S.nd (si_d (se_var (pv 5))) (blkOk_by (by kernel_rfl)) (fun _ _ _ _ _ => (sg_nm (i := 9) S.nd rfl (by first | exact .inl rfl | exact .inr rfl))) (fun _ _ _ _ _ => sts_nil) (fun _ _ _ _ _ => (SF.toE (sf_cmp (op_inAny (roomU hr)) k_in (ae_p (pv 9)) (ae_p (pv 2)) rfl))))))))))) (sw_and1 (st_cmp (op_inAny (roomU hr)) k_in (ae_p (pv 6)) (ae_p (pv 0)) rfl)))) (sss_one (ss_expr (sf_app (pv 4) (se_var (pv 5))))) sss_nil)))) (sss_cons (ss_par (i := 7) (j := 8) rfl S.nd rfl rfl (by decide) rfl rfl (ses_cons (SF.toE (sf_cl c_star hr (by decide) rfl (ses_cons (se_var (pv 1)) (ses_cons (se_var (pv 2)) ses_nil)))) (ses_cons (SF.toE (sf_cl c_link hr (by decide) rfl (ses_cons (se_var (pv 1)) (ses_cons (se_var (pv 2)) ses_nil)))) ses_nil)) rfl) (sss_cons (ss_if (SW.t (sw_or (st_eqO e_Web hr (by decide) true (se_var (pv 7)) (SF.toE (sf_cl c_law_web hr (by decide) rfl (ses_cons (se_var (pv 3)) ses_nil))) rfl) (sw_or1 (st_eqO e_Web hr (by decide) true (se_var (pv 8)) (SF.toE (sf_cl c_law_web hr (by decide) rfl (ses_cons (se_var (pv 4)) ses_nil))) rfl)))) (sss_one (ss_ret (SE.toF se_bl))) sss_nil) (sss_cons (ss_if (st_not (st_tru (ae_v (SF.toE (sf_clG c_law_is hrG (by decide) rfl (ses_cons (SF.toE (sf_cl c_all_sides hr (by decide) rfl (ses_cons (se_var (pv 8)) ses_nil))) (ses_cons (SF.toE (sf_t1 cr_tup k_tup rfl U.n_tuple (by decide +kernel) (ae_v (SF.toE (sf_lc (own := [("other", 5)]) rfl S.nd (si_d (se_var (pv 0))) (blkOk_by (by kernel_rfl)) (fun _ _ _ _ _ => (sg_nm (i := 5) S.nd rfl (by first | exact .inl rfl | exact .inr rfl))) (fun _ _ _ _ _ => (sts_one (st_cmp (op_inAny (roomU hr)) k_in (ae_p (pv 5)) (ae_p (pv 4)) rfl))) (fun _ _ _ _ _ => (se_var (pv 5)))))))) ses_nil))))))) (sss_one (ss_ret (SE.toF se_bl))) sss_nil) (sss_one (ss_ret (sf_and (sf_cmp op_is_bl k_isB (ae_v (SF.toE (sf_cl c_is_part hr (by decide) rfl (ses_cons (se_var (pv 1)) (ses_cons (se_var (pv 7)) ses_nil))))) (ae_v se_bl) rfl) (sf_one (sf_cmp op_is_bl k_isB (ae_v (SF.toE (sf_cl c_is_part hr (by decide) rfl (ses_cons (se_var (pv 7)) (ses_cons (se_var (pv 8)) ses_nil))))) (ae_v se_bl) rfl)))))))))))
/-! ### _law_are_parts_right -/
def m_law_are_parts_right : M Fl :=
  (mSeq (mFor (itR1 (mC (.int 3))) (.nm 3) (mSeq (mSet 7 (mLc (itD (mV 1)) (.nm 9) (mT (m2 fEq (.val (mFz (mCallI 0 2 g_law_draw [(mC (.int 3))]))) (.val (mC (.int 0))))) (mV 9) [9])) (mSeq (mSet 8 (mCall 1 g_law_web [(mV 7)])) (mIf (bOr (mT (m2 (fIsB true) (.val (mFz (mCall 2 g_is_part [(mV 2), (mV 8)]))) (.val (mC (.bl true))))) (bNot (mTru (.val (mFz (mCall 2 g_law_is [(mFz (mCall 2 g_is_part [(mV 8), (mV 2)])), (mFz (m2 fEq (.val (mFz (m1 fLen (.val (mFz (mCall 1 g_law_sides [(mV 7)])))))) (.val (mFz (m1 fLen (.pk 1))))))])))))) (mRet (mIm (mC (.bl false)))) mNx)))) (mSeq (mSet 4 (mCallI 0 4 g_law_drawn [(mFz (mLst [(mC (.int 0)), (mC (.int 1)), (mC (.int 2)), (mC (.int 3)), (mC (.int 4))])), (mC (.int 3)), (mC (.int 3))])) (mSeq (mSet 5 (m1 fAll (.val (mFz (mLc (itD (mFz (mCall 1 g_law_sides [(mV 4)]))) (.nm 9) mYes (mFz (m2 (fInA false) (.pk 9) (.pk 1))) [9]))))) (mSeq (mSet 6 (mCallI 0 2 g_law_some [(mFz (mLst [(mC .non), (mFld 0 0 (mV 2)), (mC (.str "")), (mC (.int 0)), (mC (.bl true)), (mFz (mLst [(mV 2)])), (mFz (mTup [(mV 2)])), (mFz (mTup []))]))])) (mRet (mCall 2 g_law_is [(mFz (mLst [(mFz (mCall 2 g_is_part [(mV 2), (mFz (mCall 1 g_Web [(mV 4)]))])), (mFz (mCall 2 g_is_part [(mV 2), (mV 6)])), (mFz (mCall 2 g_is_part [(mV 2), (mFz (mCall 1 g_Web [(mFz (mTup []))]))]))])), (mFz (mLst [(mV 5), (mC (.bl false)), (mC (.bl true))]))]))))))
def g_law_are_parts_right : S → List D → Option (S × S) := runI 10 m_law_are_parts_right
theorem sc_law_are_parts_right : FnScope ["hand", "whole", "web", "turn", "other", "due", "odd", "some", "less", "side"] ["hand", "whole", "web"] (defScope s_law_are_parts_right) := ⟨rfl, rfl, rfl, by decide +kernel, rfl, by decide +kernel, by decide +kernel⟩
theorem ok_law_are_parts_right {P : Program} {w : World} {K : PySem.W.Frag} {mg : Str → Option Value} {base : Heap} {C f : Addr} {ea : Nat → Addr} {CS : Addr} {T : List (Addr × Str)} {fd : FuncData} (U : Fx K mg C ea CS) (F : FunD K "_law_are_parts_right" "_law_are_parts_right" (defArgs s_law_are_parts_right) (defBody s_law_are_parts_right) (defScope s_law_are_parts_right) [] [] f fd) (hm : mg "_law_are_parts_right" = some (.ref f)) (c_Web : WebOk P w K mg base C T 4 w_Web) (c_law_draw : CalI P w K mg base (ctW C T) 1 "_law_draw" 2 g_law_draw) (c_law_drawn : CalI P w K mg base (ctW C T) 3 "_law_drawn" 4 g_law_drawn) (c_law_is : CalG P w K mg base (ctW C T) 1 "_law_is" 2 g_law_is) (c_law_sides : CalV P w K mg base (ctW C T) 2 "_law_sides" 1 g_law_sides) (c_law_some : CalI P w K mg base (ctW C T) 2 "_law_some" 2 g_law_some) (c_law_web : CalV P w K mg base (ctW C T) 6 "_law_web" 1 g_law_web) (c_is_part : CalV P w K mg base (ctW C T) 1 "is_part" 2 g_is_part) :
    CalIG P w K mg base (ctW C T) 7 "_law_are_parts_right" 3 g_law_are_parts_right := by
  have S := sc_law_are_parts_right
  exact mkIG (k := 6) F hm S rfl (fun _ _ _ _ _ _ us hl => match us, hl with | [_, _, _], _ => rfl) fun cdv A outer s H E hcd hrG =>
    have hr := hrG.toRoom
   
    (sss_cons (ss_for PassesOwn.never rfl (si_r1 rfl U.n_range se_int) (sg_nm (i := 3) S.nd rfl (by first | exact .inl rfl | exact .inr rfl)) (sss_cons (ss_setLc (i := 7) (own := [("side", 9)]) rfl S.nd rfl rfl rfl (si_d (se_var (pv 1))) (blkOk_by (by kernel_rfl)) (fun _ _ _ _ _ => (sg_nm (i := 9) S.nd rfl (by first | exact .inl rfl | exact .inr rfl))) (fun _ _ _ _ _ => (sts_one (st_cmp (op_eqD (roomU64 hr)) k_eq (ae_v (SF.toE (sf_clI c_law_draw hr (by decide) rfl (pv 0) (ses_cons se_int ses_nil)))) (ae_v se_int) rfl))) (fun _ _ _ _ _ => (se_var (pv 9)))) (sss_cons (ss_set (i := 8) S.nd rfl (by first | exact .inl rfl | exact .inr rfl) (sf_cl c_law_web hr (by decide) rfl (ses_cons (se_var (pv 7)) ses_nil))) (sss_one (ss_if (SW.t (sw_or (st_cmp op_isnot_bl k_notB (ae_v (SF.toE (sf_cl c_is_part hr (by decide) rfl (ses_cons (se_var (pv 2)) (ses_cons (se_var (pv 8)) ses_nil))))) (ae_v se_bl) rfl) (sw_or1 (st_not (st_tru (ae_v (SF.toE (sf_clG c_law_is hrG (by decide) rfl (ses_cons (SF.toE (sf_cl c_is_part hr (by decide) rfl (ses_cons (se_var (pv 8)) (ses_cons (se_var (pv 2)) ses_nil)))) (ses_cons (SF.toE (sf_cmp (op_eqD (roomU64 hr)) k_eq (ae_v (SF.toE (sf_b1 cr_len k_len rfl U.n_len (by decide +kernel) (ae_v (SF.toE (sf_cl c_law_sides hr (by decide) rfl (ses_cons (se_var (pv 7)) ses_nil))))))) (ae_v (SF.toE (sf_b1 cr_len k_len rfl U.n_len (by decide +kernel) (ae_p (pv 1))))) rfl)) ses_nil)))))))))) (sss_one (ss_ret (SE.toF se_bl))) sss_nil))))) (sss_cons (ss_set (i := 4) S.nd rfl (by first | exact .inl rfl | exact .inr rfl) (sf_clI c_law_drawn hr (by decide) rfl (pv 0) (ses_cons (SF.toE (sf_lst (ses_cons se_int (ses_cons se_int (ses_cons se_int (ses_cons se_int (ses_cons se_int ses_nil))))))) (ses_cons se_int (ses_cons se_int ses_nil))))) (sss_cons (ss_set (i := 5) S.nd rfl (by first | exact .inl rfl | exact .inr rfl) (sf_b1 (cr_all rfl) k_all rfl U.n_all (by decide +kernel) (ae_v (SF.toE (sf_lc (own := [("side", 9)]) rfl S.nd (si_d (SF.toE (sf_cl c_law_sides hr (by decide) rfl (ses_cons (se_var (pv 4)) ses_nil)))) (blkOk_by (by kernel_rfl)) (fun _ _ _ _ _ => (sg_nm (i := 9) S.nd rfl (by first | exact .inl rfl | exact .inr rfl))) (fun _ _ _ _ _ => sts_nil) (fun _ _ _ _ _ => (SF.toE (sf_cmp (op_inAny (roomU hr)) k_in (ae_p (pv 9)) (ae_p (pv 1)) rfl)))))))) (sss_cons (ss_set (i := 6) S.nd rfl (by first | exact .inl rfl | exact .inr rfl) (sf_clI c_law_some hr (by decide) rfl (pv 0) (ses_cons (SF.toE (sf_lst (ses_cons se_non (ses_cons (se_fld (i := 0) (j := 0) U.cls U.no_tops rfl (ctw_lt (by decide)) (se_var (pv 2))) (ses_cons se_str (ses_cons se_int (ses_cons se_bl (ses_cons (SF.toE (sf_lst (ses_cons (se_var (pv 2)) ses_nil))) (ses_cons (SF.toE (sf_tup (ses_cons (se_var (pv 2)) ses_nil))) (ses_cons (SF.toE (sf_tup ses_nil)) ses_nil)))))))))) ses_nil))) (sss_one (ss_ret (sf_clG c_law_is hrG (by decide) rfl (ses_cons (SF.toE (sf_lst (ses_cons (SF.toE (sf_cl c_is_part hr (by decide) rfl (ses_cons (se_var (pv 2)) (ses_cons (SF.toE (sf_web c_Web hr (by decide) rfl (ses_cons (se_var (pv 4)) ses_nil))) ses_nil)))) (ses_cons (SF.toE (sf_cl c_is_part hr (by decide) rfl (ses_cons (se_var (pv 2)) (ses_cons (se_var (pv 6)) ses_nil)))) (ses_cons (SF.toE (sf_cl c_is_part hr (by decide) rfl (ses_cons (se_var (pv 2)) (ses_cons (SF.toE (sf_web c_Web hr (by decide) rfl (ses_cons (SF.toE (sf_tup ses_nil)) ses_nil))) ses_nil)))) ses_nil))))) (ses_cons (SF.toE (sf_lst (ses_cons (se_var (pv 5)) (ses_cons se_bl (ses_cons se_bl ses_nil))))) ses_nil)))))))))
/-! ### _law_are_skeletons_right -/
def m_law_are_skeletons_right : M Fl :=
  (mSeq (mFor (itR1 (mC (.int 8))) (.nm 2) (mSeq (mSet 3 (mCall 2 g_skeleton [(mV 1), (mV 2)])) (mSeq (mIf (mT (mEqO g_Web_eq true (mV 3) (mFz (mCall 1 g_law_web [(mFz (mLc (itD (mV 0)) (.nm 4) (mT (m2 (fI2 fun i j => .bl (decide (i ≤ j))) (.val (mFz (m1 fLen (.pk 4)))) (.val (mFz (m2 fAdd (.pk 2) (.val (mC (.int 1)))))))) (mV 4) [4]))])))) (mRet (mIm (mC (.bl false)))) mNx) (mIf (bNot (mTru (.val (mFz (mCall 2 g_law_is [(mFz (mCall 1 g_all_sides [(mV 3)])), (mFz (m1 fTup (.val (mFz (mLc (itD (mV 0)) (.nm 4) (mT (m2 (fI2 fun i j => .bl (decide (i ≤ j))) (.val (mFz (m1 fLen (.pk 4)))) (.val (mFz (m2 fAdd (.pk 2) (.val (mC (.int 1)))))))) (mV 4) [4])))))]))))) (mRet (mIm (mC (.bl false)))) mNx)))) (mRet (mEqO g_Web_eq false (mFz (mCall 2 g_skeleton [(mV 1), (mFz (m2 (fI2c cPw fun i j => .int (i ^ j.toNat)) (.val (mC (.int 10))) (.val (mC (.int 30)))))])) (mV 1))))
def g_law_are_skeletons_right : List D → Option S := runV 5 m_law_are_skeletons_right
theorem sc_law_are_skeletons_right : FnScope ["whole", "web", "degree", "less", "side"] ["whole", "web"] (defScope s_law_are_skeletons_right) := ⟨rfl, rfl, rfl, by decide +kernel, rfl, by decide +kernel, by decide +kernel⟩
theorem ok_law_are_skeletons_right {P : Program} {w : World} {K : PySem.W.Frag} {mg : Str → Option Value} {base : Heap} {C f : Addr} {ea : Nat → Addr} {CS : Addr} {T : List (Addr × Str)} {fd : FuncData} (U : Fx K mg C ea CS) (F : FunD K "_law_are_skeletons_right" "_law_are_skeletons_right" (defArgs s_law_are_skeletons_right) (defBody s_law_are_skeletons_right) (defScope s_law_are_skeletons_right) [] [] f fd) (hm : mg "_law_are_skeletons_right" = some (.ref f)) (e_Web : EqDef P w K mg base C T 1 g_Web_eq) (c_law_is : CalG P w K mg base (ctW C T) 1 "_law_is" 2 g_law_is) (c_law_web : CalV P w K mg base (ctW C T) 6 "_law_web" 1 g_law_web) (c_all_sides : CalV P w K mg base (ctW C T) 1 "all_sides" 1 g_all_sides) (c_skeleton : CalV P w K mg base (ctW C T) 7 "skeleton" 2 g_skeleton) :
    CalG P w K mg base (ctW C T) 8 "_law_are_skeletons_right" 2 g_law_are_skeletons_right := by
  have S := sc_law_are_skeletons_right
  exact mkG (k := 7) F hm S rfl (fun _ _ _ _ _ _ us hl => match us, hl with | [_, _], _ => rfl) fun cdv A outer s H E hcd hrG =>
    have hr := hrG.toRoom
   
    (sss_cons (ss_for PassesOwn.never rfl (si_r1 rfl U.n_range se_int) (sg_nm (i := 2) S.nd rfl (by first | exact .inl rfl | exact .inr rfl)) (sss_cons (ss_set (i := 3) S.nd rfl (by first | exact .inl rfl | exact .inr rfl) (sf_cl c_skeleton hr (by decide) rfl (ses_cons (se_var (pv 1)) (ses_cons (se_var (pv 2)) ses_nil)))) (sss_cons (ss_if (st_eqO e_Web hr (by decide) true (se_var (pv 3)) (SF.toE (sf_cl c_law_web hr (by decide) rfl (ses_cons (SF.toE (sf_lc (own := [("side", 4)]) rfl S.nd (si_d (se_var (pv 0))) (blkOk_by (by kernel_rfl)) (fun _ _ _ _ _ => (sg_nm (i := 4) S.nd rfl (by first | exact .inl rfl | exact .inr rfl))) (fun _ _ _ _ _ => (sts_one (st_cmp op_le k_le (ae_v (SF.toE (sf_b1 cr_len k_len rfl U.n_len (by decide +kernel) (ae_p (pv 4))))) (ae_v (SF.toE (sf_bin op_addAny k_add (ae_p (pv 2)) (ae_v se_int)))) rfl))) (fun _ _ _ _ _ => (se_var (pv 4))))) ses_nil))) rfl) (sss_one (ss_ret (SE.toF se_bl))) sss_nil) (sss_one (ss_if (st_not (st_tru (ae_v (SF.toE (sf_clG c_law_is hrG (by decide) rfl (ses_cons (SF.toE (sf_cl c_all_sides hr (by decide) rfl (ses_cons (se_var (pv 3)) ses_nil))) (ses_cons (SF.toE (sf_t1 cr_tup k_tup rfl U.n_tuple (by decide +kernel) (ae_v (SF.toE (sf_lc (own := [("side", 4)]) rfl S.nd (si_d (se_var (pv 0))) (blkOk_by (by kernel_rfl)) (fun _ _ _ _ _ => (sg_nm (i := 4) S.nd rfl (by first | exact .inl rfl | exact .inr rfl))) (fun _ _ _ _ _ => (sts_one (st_cmp op_le k_le (ae_v (SF.toE (sf_b1 cr_len k_len rfl U.n_len (by decide +kernel) (ae_p (pv 4))))) (ae_v (SF.toE (sf_bin op_addAny k_add (ae_p (pv 2)) (ae_v se_int)))) rfl))) (fun _ _ _ _ _ => (se_var (pv 4)))))))) ses_nil))))))) (sss_one (ss_ret (SE.toF se_bl))) sss_nil))))) (sss_one (ss_ret (sf_eqO e_Web hr (by decide) false (SF.toE (sf_cl c_skeleton hr (by decide) rfl (ses_cons (se_var (pv 1)) (ses_cons (SF.toE (sf_bin op_pow k_pow (ae_v se_int) (ae_v se_int))) ses_nil)))) (se_var (pv 1)) rfl))))
/-! ### _law_are_refused -/
def m_law_are_refused : M Fl :=
  (mSeq (mSet 3 (mCallI 0 2 g_law_some [(mFz (mLst [(mC .non), (mFz (m1 fNeg (.val (mC (.int 1))))), (mC (.bl true)), (mC (.str "0")), (mFz (mTup [(mC (.int 0))])), (mFz (mLst [])), (mFz (m2 fMulT (.val (mFz (mTup [(mC (.int 1))]))) (.val (mC (.int 2)))))]))])) (mSeq (mSet 4 (mLst [(mC .non), (mC (.int 0)), (mC (.str "")), (mFz (mTup [])), (mFz (mLst [(mC (.int 0))])), (mFz (mTup [(mC (.int 998)), (mC (.int 999))])), (mFz (mTup [(mC (.bl true))])), (mFz (mTup [(mFz (m1 fNeg (.val (mC (.int 1)))))])), (mFz (mTup [(mC (.int 1000))])), (mFz (mTup [(mC (.int 1)), (mC (.int 0))])), (mV 1), (mFz (mTupR (mC (.int 8))))])) (mSeq (mSet 5 (mCallI 0 2 g_law_some [(mV 4)])) (mSeq (mSet 6 (mLst [(mFz (mWord wdN 2 (mCall 2 g_skeleton [(mV 2), (mV 3)]) (xCall 2 gx_skeleton [(mV 2), (mV 3)])))])) (mSeq (mDrop (mApp 6 (mFz (mWord wdN 2 (mCall 2 g_star [(mV 2), (mV 5)]) (xCall 2 gx_star [(mV 2), (mV 5)]))))) (mSeq (mDrop (mApp 6 (mFz (mWord wdN 2 (mCall 2 g_link [(mV 2), (mV 5)]) (xCall 2 gx_link [(mV 2), (mV 5)]))))) (mRet (mCall 2 g_law_is [(mV 6), (mFz (mLst [(mC (.str "degree")), (mC (.str "side")), (mC (.str "side"))]))]))))))))
def g_law_are_refused : S → List D → Option (S × S) := runI 7 m_law_are_refused
theorem sc_law_are_refused : FnScope ["hand", "whole", "web", "odd", "some", "side", "words"] ["hand", "whole", "web"] (defScope s_law_are_refused) := ⟨rfl, rfl, rfl, by decide +kernel, rfl, by decide +kernel, by decide +kernel⟩
theorem ok_law_are_refused {P : Program} {w : World} {K : PySem.W.Frag} {mg : Str → Option Value} {base : Heap} {C f cc Pt : Addr} {ea : Nat → Addr} {CS : Addr} {T : List (Addr × Str)} {fd : FuncData} (U : Fx K mg C ea CS) (F : FunD K "_law_are_refused" "_law_are_refused" (defArgs s_law_are_refused) (defBody s_law_are_refused) (defScope s_law_are_refused) [] [] f fd) (hm : mg "_law_are_refused" = some (.ref f)) (hcc : CodeIs K f (.ref cc)) (B : LamX.TabB base mg cc Pt) (mem : (Pt, lamN (("_law_are_refused" : Str) ++ (".<locals>." : Str))) ∈ T) (un : ∀ p ∈ T, p.1 = Pt → p.2 = lamN (("_law_are_refused" : Str) ++ (".<locals>." : Str))) (c_law_is : CalG P w K mg base (ctW C T) 1 "_law_is" 2 g_law_is) (c_law_some : CalI P w K mg base (ctW C T) 2 "_law_some" 2 g_law_some) (w_law_word : CalW P w K mg base (ctW C T) (evs ea) 2 wdN 2 "_law_word") (c_link : CalV P w K mg base (ctW C T) 7 "link" 2 g_link) (c_skeleton : CalV P w K mg base (ctW C T) 7 "skeleton" 2 g_skeleton) (c_star : CalV P w K mg base (ctW C T) 7 "star" 2 g_star) (y_link : CalX P w K mg base (ctW C T) (evs ea) 7 "link" 2 gx_link) (y_skeleton : CalX P w K mg base (ctW C T) (evs ea) 7 "skeleton" 2 gx_skeleton) (y_star : CalX P w K mg base (ctW C T) (evs ea) 7 "star" 2 gx_star) :
    CalIG P w K mg base (ctW C T) 10 "_law_are_refused" 3 g_law_are_refused := by
  have S := sc_law_are_refused
  exact mkIG (k := 9) F hm S rfl (fun _ _ _ _ _ _ us hl => match us, hl with | [_, _, _], _ => rfl) fun cdv A outer s H E hcd hrG =>
    have hr := hrG.toRoom
    have ec := CodeIs.eq hcd hcc
   
    (sss_cons (ss_set (i := 3) S.nd rfl (by first | exact .inl rfl | exact .inr rfl) (sf_clI c_law_some hr (by decide) rfl (pv 0) (ses_cons (SF.toE (sf_lst (ses_cons se_non (ses_cons (SF.toE (sf_un un_neg k_neg (ae_v se_int))) (ses_cons se_bl (ses_cons se_str (ses_cons (SF.toE (sf_tup (ses_cons se_int ses_nil))) (ses_cons (SF.toE (sf_lst ses_nil)) (ses_cons (SF.toE (sf_bin op_repT k_mulT (ae_v (SF.toE (sf_tup (ses_cons se_int ses_nil)))) (ae_v se_int))) ses_nil))))))))) ses_nil))) (sss_cons (ss_set (i := 4) S.nd rfl (by first | exact .inl rfl | exact .inr rfl) (sf_lst (ses_cons se_non (ses_cons se_int (ses_cons se_str (ses_cons (SF.toE (sf_tup ses_nil)) (ses_cons (SF.toE (sf_lst (ses_cons se_int ses_nil))) (ses_cons (SF.toE (sf_tup (ses_cons se_int (ses_cons se_int ses_nil)))) (ses_cons (SF.toE (sf_tup (ses_cons se_bl ses_nil))) (ses_cons (SF.toE (sf_tup (ses_cons (SF.toE (sf_un un_neg k_neg (ae_v se_int))) ses_nil))) (ses_cons (SF.toE (sf_tup (ses_cons se_int ses_nil))) (ses_cons (SF.toE (sf_tup (ses_cons se_int (ses_cons se_int ses_nil)))) (ses_cons (se_var (pv 1)) (ses_cons (SF.toE (sf_tupR rfl rfl U.n_tuple rfl U.n_range se_int)) ses_nil)))))))))))))) (sss_cons (ss_set (i := 5) S.nd rfl (by first | exact .inl rfl | exact .inr rfl) (sf_clI c_law_some hr (by decide) rfl (pv 0) (ses_cons (se_var (pv 4)) ses_nil))) (sss_cons (ss_set (i := 6) S.nd rfl (by first | exact .inl rfl | exact .inr rfl) (sf_lst (ses_cons (SF.toE (sf_word (j := 7) w_law_word (by decide) rfl B ec mem un (hr.mono (by decide)) (LamX.lamS_by (by kernel_rfl)) rfl (fun _ _ _ _ _ => rfl) (fun A2 outer2 s2 H2 E2 f2 c2 hr => tout (sf_cl c_skeleton hr (by decide) rfl (ses_cons (se_var (pv 2)) (ses_cons (se_var (pv 3)) ses_nil))) y_skeleton hr (by decide) rfl (ses_cons (se_var (pv 2)) (ses_cons (se_var (pv 3)) ses_nil))))) ses_nil))) (sss_cons (ss_expr (sf_app (pv 6) (SF.toE (sf_word (j := 7) w_law_word (by decide) rfl B ec mem un (hr.mono (by decide)) (LamX.lamS_by (by kernel_rfl)) rfl (fun _ _ _ _ _ => rfl) (fun A2 outer2 s2 H2 E2 f2 c2 hr => tout (sf_cl c_star hr (by decide) rfl (ses_cons (se_var (pv 2)) (ses_cons (se_var (pv 5)) ses_nil))) y_star hr (by decide) rfl (ses_cons (se_var (pv 2)) (ses_cons (se_var (pv 5)) ses_nil))))))) (sss_cons (ss_expr (sf_app (pv 6) (SF.toE (sf_word (j := 7) w_law_word (by decide) rfl B ec mem un (hr.mono (by decide)) (LamX.lamS_by (by kernel_rfl)) rfl (fun _ _ _ _ _ => rfl) (fun A2 outer2 s2 H2 E2 f2 c2 hr => tout (sf_cl c_link hr (by decide) rfl (ses_cons (se_var (pv 2)) (ses_cons (se_var (pv 5)) ses_nil))) y_link hr (by decide) rfl (ses_cons (se_var (pv 2)) (ses_cons (se_var (pv 5)) ses_nil))))))) (sss_one (ss_ret (sf_clG c_law_is hrG (by decide) rfl (ses_cons (se_var (pv 6)) (ses_cons (SF.toE (sf_lst (ses_cons se_str (ses_cons se_str (ses_cons se_str ses_nil))))) ses_nil)))))))))))
/-! ### law -/
def m_law : M Fl :=
  (mSeq (mSet 1 (mCall 1 g_law_hand [(mV 0)])) (mSeq (mFor (itR1 (mC (.int 3))) (.nm 2) (mSeq (mSet 3 (mCallI 1 2 g_law_corners [(mFz (m2 fAdd (.val (mC (.int 2))) (.val (mFz (mCallI 1 2 g_law_draw [(mC (.int 6))])))))])) (mSeq (mSet 4 (mCallI 1 4 g_law_drawn [(mV 3), (mC (.int 5)), (mC (.int 5))])) (mSeq (mPar 6 7 [(mFz (mCall 1 g_Web [(mV 4)])), (mFz (mCall 1 g_law_sides [(mV 4)]))]) (mSeq (mIf (bOr (bNot (mTru (.val (mFz (mCall 2 g_law_are_skeletons_right [(mV 7), (mV 6)]))))) (bNot (mTru (.val (mFz (mCallI 1 3 g_law_are_parts_right [(mV 7), (mV 6)])))))) (mRet (mIm (mC (.bl false)))) mNx) (mSeq (mFor (itR1 (mFz (mIf (mT (m2 (fI2 fun i j => .bl (decide (j < i))) (.val (mFz (m1 fLen (.pk 7)))) (.val (mC (.int 0))))) (mIm (mC (.int 6))) (mIm (mC (.int 0)))))) (.nm 5) (mIf (bNot (mTru (.val (mFz (mCall 3 g_law_is_about [(mV 7), (mV 6), (mFz (mCallI 1 2 g_law_some [(mV 7)]))]))))) (mRet (mIm (mC (.bl false)))) mNx)) (mIf (bNot (mTru (.val (mFz (mCallI 1 3 g_law_are_refused [(mV 7), (mV 6)]))))) (mRet (mIm (mC (.bl false)))) mNx))))))) (mRet (mIm (mC (.bl true))))))
def g_law : List D → Option S := runV 8 m_law
theorem sc_law : FnScope ["script", "hand", "lap", "corners", "tops", "turn", "web", "whole"] ["script"] (defScope s_law) := ⟨rfl, rfl, rfl, by decide +kernel, rfl, by decide +kernel, by decide +kernel⟩
theorem ok_law {P : Program} {w : World} {K : PySem.W.Frag} {mg : Str → Option Value} {base : Heap} {C f : Addr} {ea : Nat → Addr} {CS : Addr} {T : List (Addr × Str)} {fd : FuncData} (U : Fx K mg C ea CS) (F : FunD K "law" "law" (defArgs s_law) (defBody s_law) (defScope s_law) [] [] f fd) (hm : mg "law" = some (.ref f)) (c_Web : WebOk P w K mg base C T 4 w_Web) (c_law_are_parts_right : CalIG P w K mg base (ctW C T) 7 "_law_are_parts_right" 3 g_law_are_parts_right) (c_law_are_refused : CalIG P w K mg base (ctW C T) 10 "_law_are_refused" 3 g_law_are_refused) (c_law_are_skeletons_right : CalG P w K mg base (ctW C T) 8 "_law_are_skeletons_right" 2 g_law_are_skeletons_right) (c_law_corners : CalI P w K mg base (ctW C T) 3 "_law_corners" 2 g_law_corners) (c_law_draw : CalI P w K mg base (ctW C T) 1 "_law_draw" 2 g_law_draw) (c_law_drawn : CalI P w K mg base (ctW C T) 3 "_law_drawn" 4 g_law_drawn) (c_law_hand : CalV P w K mg base (ctW C T) 1 "_law_hand" 1 g_law_hand) (c_law_is_about : CalG P w K mg base (ctW C T) 8 "_law_is_about" 3 g_law_is_about) (c_law_sides : CalV P w K mg base (ctW C T) 2 "_law_sides" 1 g_law_sides) (c_law_some : CalI P w K mg base (ctW C T) 2 "_law_some" 2 g_law_some) :
    FnG P w K mg base CX0 11 f fd ["script"] (spV K (ctW C T) 1 g_law) := by
  have S := sc_law
  exact fokG (k := 10) F S rfl fun cdv A outer s H E hcd hrG =>
    have hr := hrG.toRoom
   
    (sss_cons (ss_set (i := 1) S.nd rfl (by first | exact .inl rfl | exact .inr rfl) (sf_cl c_law_hand hr (by decide) rfl (ses_cons (se_var (pv 0)) ses_nil))) (sss_cons (ss_for PassesOwn.never rfl (si_r1 rfl U.n_range se_int) (sg_nm (i := 2) S.nd rfl (by first | exact .inl rfl | exact .inr rfl)) (sss_cons (ss_set (i := 3) S.nd rfl (by first | exact .inl rfl | exact .inr rfl) (sf_clI c_law_corners hr (by decide) rfl (pv 1) (ses_cons (SF.toE (sf_bin op_addAny k_add (ae_v se_int) (ae_v (SF.toE (sf_clI c_law_draw hr (by decide) rfl (pv 1) (ses_cons se_int ses_nil)))))) ses_nil))) (sss_cons (ss_set (i := 4) S.nd rfl (by first | exact .inl rfl | exact .inr rfl) (sf_clI c_law_drawn hr (by decide) rfl (pv 1) (ses_cons (se_var (pv 3)) (ses_cons se_int (ses_cons se_int ses_nil))))) (sss_cons (ss_par (i := 6) (j := 7) rfl S.nd rfl rfl (by decide) rfl rfl (ses_cons (SF.toE (sf_web c_Web hr (by decide) rfl (ses_cons (se_var (pv 4)) ses_nil))) (ses_cons (SF.toE (sf_cl c_law_sides hr (by decide) rfl (ses_cons (se_var (pv 4)) ses_nil))) ses_nil)) rfl) (sss_cons (ss_if (SW.t (sw_or (st_not (st_tru (ae_v (SF.toE (sf_clG c_law_are_skeletons_right hrG (by decide) rfl (ses_cons (se_var (pv 7)) (ses_cons (se_var (pv 6)) ses_nil))))))) (sw_or1 (st_not (st_tru (ae_v (SF.toE (sf_clIG c_law_are_parts_right hrG (by decide) rfl (pv 1) (ses_cons (se_var (pv 7)) (ses_cons (se_var (pv 6)) ses_nil)))))))))) (sss_one (ss_ret (SE.toF se_bl))) sss_nil) (sss_cons (ss_for PassesOwn.never rfl (si_r1 rfl U.n_range (SF.toE (sf_if (st_cmp op_gt k_gt (ae_v (SF.toE (sf_b1 cr_len k_len rfl U.n_len (by decide +kernel) (ae_p (pv 7))))) (ae_v se_int) rfl) (SE.toF se_int) (SE.toF se_int)))) (sg_nm (i := 5) S.nd rfl (by first | exact .inl rfl | exact .inr rfl)) (sss_one (ss_if (st_not (st_tru (ae_v (SF.toE (sf_clG c_law_is_about hrG (by decide) rfl (ses_cons (se_var (pv 7)) (ses_cons (se_var (pv 6)) (ses_cons (SF.toE (sf_clI c_law_some hr (by decide) rfl (pv 1) (ses_cons (se_var (pv 7)) ses_nil))) ses_nil)))))))) (sss_one (ss_ret (SE.toF se_bl))) sss_nil))) (sss_one (ss_if (st_not (st_tru (ae_v (SF.toE (sf_clIG c_law_are_refused hrG (by decide) rfl (pv 1) (ses_cons (se_var (pv 7)) (ses_cons (se_var (pv 6)) ses_nil))))))) (sss_one (ss_ret (SE.toF se_bl))) sss_nil)))))))) (sss_one (ss_ret (SE.toF se_bl)))))
end Wk
end

section
set_option Elab.async false
set_option linter.all false
set_option maxHeartbeats 2000000
/-! EvEnd: the end of a law that may be called where no repr is under way. -/
namespace Ev
open PySem PySem.Spec PyProof.Rows L2 LamX
set_option autoImplicit false
theorem room_caller {k : Nat} (h : Room k callerA) : RoomG k callerA := ⟨h, rfl⟩
theorem FnG.imp {P : Program} {w : World} {K : PySem.W.Frag} {mg : Str → Option Value} {base : Heap} {CX : CXT} {k : Nat} {f : Addr} {fd : FuncData} {ps : List Str} {sp sp' : Sp} (F : FnG P w K mg base CX k f fd ps sp)
    (h : ∀ vs H Q E, sp' vs H Q E → sp vs H Q E) : FnG P w K mg base CX k f fd ps sp' :=
  ⟨fun vs H Q E q => F.len vs H Q E (h _ _ _ _ q), fun A outer s H args us vs Q E hr he hb hv hs => F.run A outer s H args us vs Q E hr he hb hv (h _ _ _ _ hs)⟩
/-- what may be tracked at the law's beginning: a list, an empty table -/
def Low (o : Obj) : Prop := (∃ vs n, o.data = .seq vs n) ∨ o.data = .fields #[]
section
variable {P : Program} {w : World} {K : PySem.W.Frag} {mg mb : Str → Option Value} {s : Shared} {H : Hp} {cs : List (Addr × Addr)}
theorem base_get (low : ∀ b o, s.heap.get? b = some o → H b ≠ none → Low o) {b : Addr} {o : Obj} (e : s.heap.get? b = some o) (n : ¬ Low o) : (hidT s.heap H).get? b = some o := by
  refine hidT_get e ?_
  cases q : H b with
  | none => rfl
  | some u => exact absurd (low b o e (by rw [q]; simp)) n
theorem low_dict {o : Obj} {es : Array DictEntry} {ep : Nat} (d : o.data = .dict es ep) : ¬ Low o := by
  rintro (⟨vs, n, e⟩ | e) <;> (rw [d] at e; cases e)
theorem base_ns (low : ∀ b o, s.heap.get? b = some o → H b ≠ none → Low o) {b : Addr} {m : Str → Option Value} : s.heap.Ns b m → (hidT s.heap H).Ns b m := fun ⟨o, es, ep, e, d, r⟩ => ⟨o, es, ep, base_get low e (low_dict d), d, r⟩
theorem base_tab (low : ∀ b o, s.heap.get? b = some o → H b ≠ none → Low o) (hns : s.heap.Ns mainGlobals mg)
    (hbm : ∃ (bm : Addr) (ob : Obj), mg "__builtins__" = some (.ref bm) ∧ bm ≠ builtinsNs ∧ s.heap.get? bm = some ob ∧ ob.cls = .type "module" ∧ ob.dict = some builtinsNs ∧ ob.data = .plain)
    {c Pt : Addr} (tp : s.heap.get? Pt = some { cls := .none, data := .fields #[] }) (C : PySem.W.CodeHd s.heap c Pt) : TabB (hidT s.heap H) mg c Pt := by
  refine ⟨?_, ?_, fun z => ?_⟩
  · obtain ⟨o, us, file, tf, flags, tg, inF, text, tt, e1, r1, r2, r3, r4, r5, r6, r7, r8, hne⟩ := C
    refine ⟨o, us, file, tf, flags, tg, inF, text, tt, base_get low e1 ?_, r1, r2, r3, r4, r5, r6, r7, r8, hne⟩
    rintro (⟨vs, n, z⟩ | z)
    · rw [r2] at z; cases z
    · rw [r2] at z; cases z; simp at r3
  · obtain ⟨bm, ob, b1, b2, b3, b4, b5, b6⟩ := hbm
    have n1 : bm ≠ mainGlobals := fun q => by
      obtain ⟨o, es, ep, e, hd, _⟩ := hns
      rw [q, e] at b3; cases b3
      rw [hd] at b6; cases b6
    have n2 : bm ≠ Pt := fun q => by
      rw [q, tp] at b3; cases b3; cases b6
    refine ⟨bm, ob, b1, b2, n1, n2, base_get low b3 ?_, b4, b5, b6⟩
    rintro (⟨vs, n, z⟩ | z) <;> (rw [b6] at z; cases z)
  · obtain ⟨o, es, ep, e, hd, _⟩ := hns
    rw [z, tp] at e; cases e; cases hd
/-- the law, from an abstract heap that tracks the tables and perhaps the script -/
theorem law_from {k : Nat} {fa a : Addr} {fd : FuncData} {x : Str} {sp : Sp} (KX : K.In s.heap) (hns : s.heap.Ns mainGlobals mg) (hb : s.heap.Ns builtinsNs mb) (hbb : ∀ x : Str, x ≠ "__name__" → mb x = bootBuiltins x) (hlim : s.heap.NoLimit) (hg : s.gens = #[])
    (hT : ∀ p ∈ cs, s.heap.get? p.2 = some { cls := .none, data := .fields #[] }) (C : ∀ p ∈ cs, PySem.W.CodeHd s.heap p.1 p.2)
    (hbm : ∃ (bm : Addr) (ob : Obj), mg "__builtins__" = some (.ref bm) ∧ bm ≠ builtinsNs ∧ s.heap.get? bm = some ob ∧ ob.cls = .type "module" ∧ ob.dict = some builtinsNs ∧ ob.data = .plain)
    (low : ∀ b o, s.heap.get? b = some o → H b ≠ none → Low o) (hK : ∀ b o, K.lookup b = some o → H b = none) (hok : HOk P w H s.heap) (tb : ∀ p ∈ cs, H p.2 = some (.tbl #[])) (oth : ∀ b, H b = none ∨ b ∈ cs.map (·.2) ∨ ∃ o xs, H b = some (.frz o (.lst xs)))
    (hr : Room k callerA) (F : ∀ base : Heap, K.In base → base.Ns mainGlobals mg → (∀ p ∈ cs, TabB base mg p.1 p.2) → FnG P w K mg base CX0 k fa fd [x] sp) (hbind : ∀ (s : Shared) (u : Value), BindsTo s fd ⟨[u], []⟩ [(x, u)])
    (hsp : sp [.ref a] H (fun v _ => v = .bl true) fun _ _ _ => False) :
    codeAny (model P w) callerA (.call (.ref fa) ⟨[.ref a], []⟩) (fun r s' => r = .ok (.ret (.bool true)) ∧ OldK s.heap s'.heap ∧ s'.os = s.os ∧ AllBare s'.gens) s := by
  have KB : K.In (hidT s.heap H) := fun b o e => hidT_get (KX b o e) (hK b o e)
  have M : L2.Mod K mg (hidT s.heap H) := ⟨KB, base_ns low hns, ⟨mb, base_ns low hb, hbb⟩, let ⟨mc, h1, h2⟩ := hlim; ⟨mc, base_ns low h1, h2⟩⟩
  have e0 : Env0 P w K mg (hidT s.heap H) callerA [] s H := ⟨rfl, M, fun b o e => of_hidT e, Nat.le_of_eq (hidT_size _ _), trivial, fun b hb => (by cases hb), hok, .of_eq hg⟩
  have run := (F _ KB (base_ns low hns) fun p hp => base_tab low hns hbm (hT p hp) (C p hp)).run callerA [] s H ⟨[.ref a], []⟩ [.ref a] [.ref a] _ _ (room_caller hr) e0 (hbind s (.ref a)) (.cons rfl .nil) hsp
  refine codeAny_mono run fun r s' h => ?_
  rcases r with e | fl
  · exact False.elim h
  · cases fl with
    | ret u =>
      obtain ⟨v, H', os, bare, un, hok', rv, q⟩ := h
      obtain rfl : v = .bl true := q
      obtain rfl : u = Value.bool true := rv
      have grown : ∀ p ∈ cs, ∃ more : Array Value, s'.heap.get? p.2 = some { cls := .none, data := .fields more } := fun p hp => by
        obtain ⟨more, z⟩ := un.tbls p.2 #[] (tb p hp)
        exact ⟨_, hok' p.2 _ z⟩
      have same : ∀ b o, b ∉ cs.map (·.2) → s.heap.get? b = some o → s'.heap.get? b = some o := fun b o nb e => by
        rcases oth b with z | z | ⟨ob, xs, z⟩
        · exact un.keep b o e z (by intro z; cases z) (by simp)
        · exact absurd z nb
        · obtain ⟨e1, _⟩ := hok b _ z
          obtain ⟨e2, _⟩ := hok' b _ (un.frzs b ob _ z)
          rw [e] at e1; cases e1
          exact e2
      refine ⟨rfl, ⟨fun b o e => ?_, fun b o e => ?_⟩, os, bare⟩
      · by_cases hb : b ∈ cs.map (·.2)
        · obtain ⟨p, hp, rfl⟩ := List.mem_map.mp hb
          obtain ⟨more, hm⟩ := grown p hp
          rw [hT p hp] at e
          cases e
          exact .inr (.inl ⟨((C p hp).tab (hT p hp)).isCodeTable, rfl, #[], more, rfl, by rw [Array.empty_append]; exact hm⟩)
        · exact .inl (same b o hb e)
      · by_cases hb : b ∈ cs.map (·.2)
        · obtain ⟨p, hp, rfl⟩ := List.mem_map.mp hb
          obtain ⟨more, hm⟩ := grown p hp
          exact ⟨_, hm⟩
        · exact ⟨o, same b o hb e⟩
    | next => exact False.elim h
    | brk => exact False.elim h
    | cont => exact False.elim h
theorem law_callG {k : Nat} {fa a : Addr} {fd : FuncData} {x : Str} {sp : Sp} {vs : List Value} {ns : List Int} (KX : K.In s.heap) (hns : s.heap.Ns mainGlobals mg) (hb : s.heap.Ns builtinsNs mb) (hbb : ∀ x : Str, x ≠ "__name__" → mb x = bootBuiltins x) (hlim : s.heap.NoLimit) (hg : s.gens = #[])
    (hT : ∀ p ∈ cs, s.heap.get? p.2 = some { cls := .none, data := .fields #[] }) (nT : ∀ p ∈ cs, K.lookup p.2 = none) (C : ∀ p ∈ cs, PySem.W.CodeHd s.heap p.1 p.2)
    (hbm : ∃ (bm : Addr) (ob : Obj), mg "__builtins__" = some (.ref bm) ∧ bm ≠ builtinsNs ∧ s.heap.get? bm = some ob ∧ ob.cls = .type "module" ∧ ob.dict = some builtinsNs ∧ ob.data = .plain)
    (ha : s.heap.get? a = some { cls := .type "list", data := .seq vs.toArray }) (hi : IntsAre vs ns) (hl : ns.length ≤ sizeLine) (hr : Room k callerA)
    (F : ∀ base : Heap, K.In base → base.Ns mainGlobals mg → (∀ p ∈ cs, TabB base mg p.1 p.2) → FnG P w K mg base CX0 k fa fd [x] sp) (hbind : ∀ (s : Shared) (u : Value), BindsTo s fd ⟨[u], []⟩ [(x, u)])
    (hsp : ∀ H : Hp, (∀ p ∈ cs, H p.2 = some (.tbl #[])) → SqL K H a (ns.map V.int) → sp [.ref a] H (fun v _ => v = .bl true) fun _ _ _ => False) :
    codeAny (model P w) callerA (.call (.ref fa) ⟨[.ref a], []⟩) (fun r s' => r = .ok (.ret (.bool true)) ∧ OldK s.heap s'.heap ∧ s'.os = s.os ∧ AllBare s'.gens) s := by
  have rv := vals_ints hi
  have len := hi.length
  have tabAt : ∀ {b : Addr}, b ∈ cs.map (·.2) → s.heap.get? b = some { cls := .none, data := .fields #[] } ∧ K.lookup b = none := fun hb => by
    obtain ⟨p, hp, rfl⟩ := List.mem_map.mp hb
    exact ⟨hT p hp, nT p hp⟩
  have aT : a ∉ cs.map (·.2) := fun z => by
    have q := (tabAt z).1
    rw [ha] at q
    injection (Option.some.inj q) with _ _ d _
    cases d
  have mT : ∀ p ∈ cs, p.2 ∈ cs.map (·.2) := fun p hp => List.mem_map.mpr ⟨p, hp, rfl⟩
  have hok1 : ∀ (H : Hp) {b : Addr}, b ∈ cs.map (·.2) → ObjOk P w H s.heap b (.tbl #[]) := fun H b hb => (tabAt hb).1
  cases hk : K.lookup a with
  | some o =>
    have eo := KX a o hk
    rw [ha] at eo; cases eo
    let H0 : Hp := fun b => if b ∈ cs.map (·.2) then some (.tbl #[]) else none
    have h0 : ∀ {b}, H0 b ≠ none → b ∈ cs.map (·.2) := fun {b} n => by
      by_cases hb : b ∈ cs.map (·.2)
      · exact hb
      · exact absurd (if_neg hb) n
    refine law_from (H := H0) KX hns hb hbb hlim hg hT C hbm (fun b o e n => .inr ?_) (fun b o e => ?_) (fun b u e => ?_) (fun p hp => if_pos (mT p hp)) (fun b => ?_) hr F hbind
      (hsp H0 (fun p hp => if_pos (mT p hp)) (.inr ⟨_, vs.toArray, _, hk, rfl, rfl, rfl, by rw [List.size_toArray, len]; exact hl, by simpa using rv⟩))
    · have := (tabAt (h0 n)).1
      rw [e] at this; cases this; rfl
    · by_cases hb : b ∈ cs.map (·.2)
      · rw [(tabAt hb).2] at e; cases e
      · exact if_neg hb
    · have hb := h0 (b := b) (by rw [e]; simp)
      rw [show H0 b = some (.tbl #[]) from if_pos hb] at e; cases e
      exact hok1 H0 hb
    · by_cases hb : b ∈ cs.map (·.2)
      · exact .inr (.inl hb)
      · exact .inl (if_neg hb)
  | none =>
    let H0 : Hp := fun b => if b = a then some (.frz { cls := .type "list", data := .seq vs.toArray } (.lst (ns.map V.int))) else if b ∈ cs.map (·.2) then some (.tbl #[]) else none
    have hA : H0 a = some (.frz { cls := .type "list", data := .seq vs.toArray } (.lst (ns.map V.int))) := if_pos rfl
    have hTb : ∀ {b}, b ∈ cs.map (·.2) → H0 b = some (.tbl #[]) := fun {b} hb => (if_neg (fun z : b = a => aT (z ▸ hb))).trans (if_pos hb)
    have h0 : ∀ {b}, H0 b ≠ none → b = a ∨ b ∈ cs.map (·.2) := fun {b} n => by
      by_cases ha : b = a
      · exact .inl ha
      · by_cases hb : b ∈ cs.map (·.2)
        · exact .inr hb
        · exact absurd ((if_neg ha).trans (if_neg hb)) n
    refine law_from (H := H0) KX hns hb hbb hlim hg hT C hbm (fun b o e n => ?_) (fun b o e => ?_) (fun b u e => ?_) (fun p hp => hTb (mT p hp)) (fun b => ?_) hr F hbind (hsp H0 (fun p hp => hTb (mT p hp)) (.inl (.inr ⟨_, hA⟩)))
    · rcases h0 n with rfl | hb
      · rw [ha] at e; cases e; exact .inl ⟨_, _, rfl⟩
      · have := (tabAt hb).1
        rw [e] at this; cases this; exact .inr rfl
    · by_cases hz : b = a
      · subst hz; rw [hk] at e; cases e
      · by_cases hb : b ∈ cs.map (·.2)
        · rw [(tabAt hb).2] at e; cases e
        · exact (if_neg hz).trans (if_neg hb)
    · rcases h0 (b := b) (by rw [e]; simp) with rfl | hb
      · rw [hA] at e; cases e
        exact ⟨ha, by rw [List.length_map]; exact hl, vs, _, rv, ha⟩
      · rw [hTb hb] at e; cases e
        exact hok1 H0 hb
    · by_cases hz : b = a
      · subst hz; exact .inr (.inr ⟨_, _, hA⟩)
      · by_cases hb : b ∈ cs.map (·.2)
        · exact .inr (.inl hb)
        · exact .inl ((if_neg hz).trans (if_neg hb))
end
/-- what is known of the law's promise at the head's heap -/
def LawAtG (l : PySem.W.OpenLaw) (w : World) (K : PySem.W.Frag) (k n : Nat) (x : Str) (mg : Str → Option Value) (fa : Addr) (h : Heap) : Prop :=
  ∃ (fd : FuncData) (cs : List (Addr × Addr)) (sp : Sp), (∀ p ∈ cs, h.get? p.2 = some { cls := .none, data := .fields #[] }) ∧ (∀ p ∈ cs, K.lookup p.2 = none) ∧ (∀ p ∈ cs, PySem.W.CodeHd h p.1 p.2) ∧ (∀ (s : Shared) (u : Value), BindsTo s fd ⟨[u], []⟩ [(x, u)]) ∧
    (∀ (H : Hp) (a : Addr) (ns : List Int), ns.length ≤ n → (∀ z ∈ ns, Builtin.Int.intBits z ≤ 1048576) → (∀ p ∈ cs, H p.2 = some (.tbl #[])) → SqL K H a (ns.map V.int) → sp [.ref a] H (fun v _ => v = .bl true) fun _ _ _ => False) ∧
    ∀ base : Heap, K.In base → base.Ns mainGlobals mg → (∀ p ∈ cs, TabB base mg p.1 p.2) → FnG l.prog w K mg base CX0 k fa fd [x] sp
theorem walk_ofG {l : PySem.W.OpenLaw} {n k : Nat} {q : Program} {loose : List Str} {XP : (Str → Option Value) → Heap → Prop} {YP : World → Heap → Prop} {d : DefRec} {x : Str} (hn : l.most = some n) (hn2 : n ≤ sizeLine) (hdf : d.params.defaults = []) (hr : Room k callerA)
    (F : ∀ (w : World) (mg : Str → Option Value) (fa : Addr) (h : Heap), YP w h → h.Ns mainGlobals mg → mg d.name = some (.ref fa) → ∃ K : PySem.W.Frag, K.In h ∧ LawAtG l w K k n x mg fa h) :
    PySem.W.WalkO q loose XP YP l.row.toRowW d [] (fun f vs => PySem.call f vs) := by
  refine Att.attach_callB hn hdf fun w s₀ s₁ mg mb fa o pm cd doc a vs ns G Y ho hd hcd hmg hobj hints hlen hbits hg => ?_
  obtain ⟨K, KX, fd, cs, sp, hT, nT, C, hb, hsp, hF⟩ := F w mg fa _ Y G.T.g hmg
  exact law_callG KX G.T.g G.T.b G.T.builtins G.T.nolimit hg hT nT C G.T.bmain hobj hints (Nat.le_trans hlen hn2) hr hF hb fun H hH hS => hsp H a ns hlen hbits hH hS
end Ev
end

section
set_option Elab.async false
set_option linter.all false
set_option maxRecDepth 100000
set_option maxHeartbeats 0
namespace Wk
open PySem PySem.Spec PyProof.Rows L2 Ev Hd
def ea (K : PySem.W.Frag) (i : Nat) : Addr := He.ga K (errL.getD i PySem.Str.empty)
theorem insW {K : PySem.W.Frag} (h : Hd.exB K = true) (c : Cls K (He.ga K "Web")) : C8.InsC K (He.ga K "Web") := by
  obtain ⟨_, h⟩ := He.ba h
  obtain ⟨_, h⟩ := He.ba h
  obtain ⟨h, _⟩ := He.ba h
  obtain ⟨h1, h⟩ := He.ba h
  obtain ⟨h2, h⟩ := He.ba h
  obtain ⟨h3, h⟩ := He.ba h
  obtain ⟨h4, h5⟩ := He.ba h
  exact ⟨c, He.eqO_ok h1, He.eqO_ok h2, of_decide_eq_true h3, of_decide_eq_true h4, of_decide_eq_true h5⟩
theorem exc_at {K : PySem.W.Frag} (h : Hd.exB K = true) {x : PySem.Str} (m : x ∈ errL) (s : PySem.W.subIn K (.ref (He.ga K x)) (.type "BaseException") = some true) : ExcC K (He.ga K x) ∧ PySem.W.kitOne K (.ref (He.ga K x)) (.type "ValueError") = some true := by
  obtain ⟨_, h⟩ := He.ba h
  obtain ⟨_, h⟩ := He.ba h
  obtain ⟨h0, h⟩ := He.ba h
  obtain ⟨_, h⟩ := He.ba h
  obtain ⟨_, h⟩ := He.ba h
  have h := List.all_eq_true.mp h x m
  obtain ⟨_, h0⟩ := He.ba h0
  obtain ⟨g2, h0⟩ := He.ba h0
  obtain ⟨g3, _⟩ := He.ba h0
  obtain ⟨h1, h⟩ := He.ba h
  obtain ⟨h2, h⟩ := He.ba h
  obtain ⟨h3, h⟩ := He.ba h
  obtain ⟨h4, h⟩ := He.ba h
  obtain ⟨h5, h6⟩ := He.ba h
  exact ⟨⟨He.eqO_ok h1, He.eqO_ok h2, s, of_decide_eq_true h3, He.eqO_ok h4, He.eqO_ok g2, of_decide_eq_true g3, of_decide_eq_true h5⟩, of_decide_eq_true h6⟩
theorem kits_at {K : PySem.W.Frag} (h : Hd.exB K = true) (i j : Nat) (hi : i < errL.length) (hj : j < errL.length) : PySem.W.kitOne K (.ref (ea K i)) (.ref (ea K j)) = some (i == j) := by
  obtain ⟨_, h⟩ := He.ba h
  obtain ⟨_, h⟩ := He.ba h
  obtain ⟨_, h⟩ := He.ba h
  obtain ⟨h, _⟩ := He.ba h
  exact of_decide_eq_true (List.all_eq_true.mp (List.all_eq_true.mp h i (List.mem_range.mpr hi)) j (List.mem_range.mpr hj))
theorem tabs_nd {K : PySem.W.Frag} (h : Hd.exB K = true) : (tf.map fun p => (He.cT K p).2).Nodup := by
  obtain ⟨_, h⟩ := He.ba h
  obtain ⟨_, h⟩ := He.ba h
  obtain ⟨_, h⟩ := He.ba h
  obtain ⟨_, h⟩ := He.ba h
  obtain ⟨h, _⟩ := He.ba h
  exact of_decide_eq_true h
theorem code_is {K : PySem.W.Frag} {p : PySem.Str × Option PySem.Str} {x qq : PySem.Str} {ps : Arguments} {bd : List Stmt} {sc : Scope} {dvs : List V} {kws : List (PySem.Str × V)} {fd : FuncData} (F : FunD K x qq ps bd sc dvs kws (He.fAd K p) fd) : CodeIs K (He.fAd K p) (.ref (He.codeOf K p)) := by
  obtain ⟨oc, od, dV, kV, doc, pm, an, cdv, ct, osl, rfl, lk, hcd, _, _⟩ := F.ex
  obtain ⟨c, rfl⟩ := He.codeIn_ref hcd
  exact ⟨oc, od, _, osl, lk, (congrArg Value.ref (He.codeOf_eq lk rfl)).symm ▸ rfl⟩
theorem eqs {K : PySem.W.Frag} (h : Hd.exB K = true) : PySem.W.findIn K (.ref (He.ga K "Web")) "__eq__" = some (some (.ref (He.fAd K ("Web", some "__eq__")))) ∧ PySem.W.isFn K (.ref (He.fAd K ("Web", some "__eq__"))) = true ∧ PySem.W.findIn K (.ref (He.ga K "Web")) "__ne__" = some (some (.builtin "object.__ne__")) := by
  obtain ⟨h, _⟩ := He.ba h
  obtain ⟨h1, h⟩ := He.ba h
  obtain ⟨h2, h3⟩ := He.ba h
  exact ⟨He.eqO_ok h1, h2, He.eqO_ok h3⟩
theorem notW {K : PySem.W.Frag} (h : Hd.exB K = true) : NotC K (He.ga K "Web") := by
  obtain ⟨_, h⟩ := He.ba h
  obtain ⟨h, _⟩ := He.ba h
  intro t
  have m : t.name ∈ ["NoneType", "bool", "int", "str", "tuple", "list", "dict"] := by cases t <;> decide
  exact of_decide_eq_true (List.all_eq_true.mp h _ m)
theorem errs {w : World} {K : PySem.W.Frag} {h h0 : Heap} {mg : Str → Option Value} (X : K.In h) (G : h.Ns mainGlobals mg) (c : He.SaysX Hd.fa Hd.fn [] Hd.tf Hd.exB w h0 K) : ErrF K mg (ea K) (He.ga K "WebError") "WebError" errN := by
  have d := c.t.d
  have x0 := He.exc_ok (d.fact 60 (f := .exc "NoDegree") rfl)
  have y0 := exc_at c.more (x := "NoDegree") (by decide) x0.2.2.1
  have x1 := He.exc_ok (d.fact 61 (f := .exc "NoSide") rfl)
  have y1 := exc_at c.more (x := "NoSide") (by decide) x1.2.2.1
  refine ⟨fun i x hx => ?_, fun i hi => ?_, kits_at c.more, fun i hi => ?_, He.glo_ok X G (d.fact 64 (f := .glo "WebError") rfl), fun i hi => ?_⟩
  · match i, hx with
    | 0, hx => obtain rfl : x = "NoDegree" := (Option.some.inj hx).symm; exact ⟨He.glo_ok X G (d.fact 58 (f := .glo "NoDegree") rfl), x0.2.1, ⟨_, _, _, _, PySem.F.excBase_ValueError, x0.1⟩, x0.2.2.1, x0.2.2.2⟩
    | 1, hx => obtain rfl : x = "NoSide" := (Option.some.inj hx).symm; exact ⟨He.glo_ok X G (d.fact 59 (f := .glo "NoSide") rfl), x1.2.1, ⟨_, _, _, _, PySem.F.excBase_ValueError, x1.1⟩, x1.2.2.1, x1.2.2.2⟩
  · match i, hi with
    | 0, _ => exact y0.1
    | 1, _ => exact y1.1
  · match i, hi with
    | 0, _ => exact y0.2
    | 1, _ => exact y1.2
  · match i, hi with
    | 0, _ => exact He.exm_ok (d.fact 62 (f := .exm "NoDegree" "WebError" true) rfl)
    | 1, _ => exact He.exm_ok (d.fact 63 (f := .exm "NoSide" "WebError" true) rfl)
def Ts (K : PySem.W.Frag) : List (Addr × PySem.Str) := [((He.cT K ("_law_are_refused", none)).2, lamN (("_law_are_refused" : PySem.Str) ++ (".<locals>." : PySem.Str)))]
theorem chain {P : Program} {w : World} {K : PySem.W.Frag} {h : Heap} {mg : Str → Option Value} (X : K.In h) (G : h.Ns mainGlobals mg) (c : He.SaysX Hd.fa Hd.fn [] Hd.tf Hd.exB w h K) :
    ∃ fd : FuncData, (∀ (s : Shared) (v : Value), BindsTo s fd ⟨[v], []⟩ [("script", v)]) ∧ ∀ base : Heap, (∀ p ∈ Hd.tf, LamX.TabB base mg (He.cT K p).1 (He.cT K p).2) → FnG P w K mg base CX0 11 (He.ga K "law") fd ["script"] (spV K (ctW (He.ga K "Web") (Ts K)) 1 g_law) := by
  have d := c.t.d
  have U : Fx K mg (He.ga K "Web") (ea K) (He.ga K "WebError") := ⟨He.free_ok X G (d.fact 37 (f := .free "ValueError") rfl),
    He.free_ok X G (d.fact 38 (f := .free "abs") rfl),
    He.free_ok X G (d.fact 39 (f := .free "all") rfl),
    He.free_ok X G (d.fact 40 (f := .free "any") rfl),
    He.free_ok X G (d.fact 41 (f := .free "bool") rfl),
    He.free_ok X G (d.fact 42 (f := .free "int") rfl),
    He.free_ok X G (d.fact 43 (f := .free "isinstance") rfl),
    He.free_ok X G (d.fact 44 (f := .free "len") rfl),
    He.free_ok X G (d.fact 45 (f := .free "list") rfl),
    He.free_ok X G (d.fact 46 (f := .free "min") rfl),
    He.free_ok X G (d.fact 47 (f := .free "range") rfl),
    He.free_ok X G (d.fact 48 (f := .free "repr") rfl),
    He.free_ok X G (d.fact 49 (f := .free "sorted") rfl),
    He.free_ok X G (d.fact 51 (f := .free "tuple") rfl),
    He.int_ok X G (d.fact 4 (f := .int "MOST_CORNER" 999) rfl),
    He.int_ok X G (d.fact 5 (f := .int "MOST_CORNERS" 7) rfl),
    He.int_ok X G (d.fact 6 (f := .int "MOST_SIDES" 600) rfl),
    He.cls_ok (d.fact 53 (f := .cls "Web") rfl),
    errs X G c,
    He.noat_ok (d.fact 55 (f := .noat "Web" "tops") rfl),
    He.noat_ok (d.fact 56 (f := .noat "Web" "lots") rfl),
    He.noat_ok (d.fact 57 (f := .noat "Web" "known") rfl),
    notW c.more,
    ⟨insW c.more (He.cls_ok (d.fact 53 (f := .cls "Web") rfl)), He.glo_ok X G (d.fact 52 (f := .glo "Web") rfl), (He.mkr_ok (d.fact 54 (f := .mkr "Web") rfl)).kp⟩⟩
  have nd := tabs_nd c.more
  obtain ⟨fd_Weq, F_Weq⟩ := d.def_ 9 (d := Hd.d_Web_eq) rfl
  obtain ⟨fd_walls_of, F_walls_of⟩ := d.def_ 6 (d := Hd.d_walls_of) rfl
  obtain ⟨fd_check_walls, F_check_walls⟩ := d.def_ 11 (d := Hd.d_check_walls) rfl
  obtain ⟨fd_is_ascending, F_is_ascending⟩ := d.def_ 3 (d := Hd.d_is_ascending) rfl
  obtain ⟨fd_parts_of, F_parts_of⟩ := d.def_ 5 (d := Hd.d_parts_of) rfl
  obtain ⟨fd_is_integer, F_is_integer⟩ := d.def_ 0 (d := Hd.d_is_integer) rfl
  obtain ⟨fd_is_number, F_is_number⟩ := d.def_ 1 (d := Hd.d_is_number) rfl
  obtain ⟨fd_is_side_form, F_is_side_form⟩ := d.def_ 4 (d := Hd.d_is_side_form) rfl
  obtain ⟨fd_is_within, F_is_within⟩ := d.def_ 7 (d := Hd.d_is_within) rfl
  obtain ⟨fd_check_tops, F_check_tops⟩ := d.def_ 10 (d := Hd.d_check_tops) rfl
  obtain ⟨fd_Web, F_Web⟩ := d.def_ 8 (d := Hd.d_Web_init) rfl
  obtain ⟨fd_is_from_nought, F_is_from_nought⟩ := d.def_ 2 (d := Hd.d_is_from_nought) rfl
  obtain ⟨fd_degree_asked, F_degree_asked⟩ := d.def_ 12 (d := Hd.d_degree_asked) rfl
  obtain ⟨fd_all_sides, F_all_sides⟩ := d.def_ 13 (d := Hd.d_all_sides) rfl
  obtain ⟨fd_web_by, F_web_by⟩ := d.def_ 14 (d := Hd.d_web_by) rfl
  obtain ⟨fd_is_part, F_is_part⟩ := d.def_ 15 (d := Hd.d_is_part) rfl
  obtain ⟨fd_skeleton, F_skeleton⟩ := d.def_ 16 (d := Hd.d_skeleton) rfl
  obtain ⟨fd_side_asked, F_side_asked⟩ := d.def_ 17 (d := Hd.d_side_asked) rfl
  obtain ⟨fd_star, F_star⟩ := d.def_ 18 (d := Hd.d_star) rfl
  obtain ⟨fd_link, F_link⟩ := d.def_ 19 (d := Hd.d_link) rfl
  obtain ⟨fd_law_hand, F_law_hand⟩ := d.def_ 20 (d := Hd.d_law_hand) rfl
  obtain ⟨fd_law_draw, F_law_draw⟩ := d.def_ 21 (d := Hd.d_law_draw) rfl
  obtain ⟨fd_law_some, F_law_some⟩ := d.def_ 22 (d := Hd.d_law_some) rfl
  obtain ⟨fd_law_is, F_law_is⟩ := d.def_ 23 (d := Hd.d_law_is) rfl
  obtain ⟨fd_law_faces, F_law_faces⟩ := d.def_ 24 (d := Hd.d_law_faces) rfl
  obtain ⟨fd_law_sides, F_law_sides⟩ := d.def_ 25 (d := Hd.d_law_sides) rfl
  obtain ⟨fd_law_tops, F_law_tops⟩ := d.def_ 26 (d := Hd.d_law_tops) rfl
  obtain ⟨fd_law_corners, F_law_corners⟩ := d.def_ 27 (d := Hd.d_law_corners) rfl
  obtain ⟨fd_law_drawn, F_law_drawn⟩ := d.def_ 28 (d := Hd.d_law_drawn) rfl
  obtain ⟨fd_law_word, F_law_word⟩ := d.def_ 29 (d := Hd.d_law_word) rfl
  obtain ⟨fd_law_web, F_law_web⟩ := d.def_ 30 (d := Hd.d_law_web) rfl
  obtain ⟨fd_law_is_about, F_law_is_about⟩ := d.def_ 31 (d := Hd.d_law_is_about) rfl
  obtain ⟨fd_law_are_parts_right, F_law_are_parts_right⟩ := d.def_ 32 (d := Hd.d_law_are_parts_right) rfl
  obtain ⟨fd_law_are_skeletons_right, F_law_are_skeletons_right⟩ := d.def_ 33 (d := Hd.d_law_are_skeletons_right) rfl
  obtain ⟨fd_law_are_refused, F_law_are_refused⟩ := d.def_ 34 (d := Hd.d_law_are_refused) rfl
  obtain ⟨fd_law, F_law⟩ := d.def_ 35 (d := Hd.d_law) rfl
  have uni0 : ∀ p ∈ Ts K, p.1 = (He.cT K ("_law_are_refused", none)).2 → p.2 = lamN (("_law_are_refused" : PySem.Str) ++ (".<locals>." : PySem.Str)) := by
    unfold Hd.tf at nd
    unfold Ts
    simp only [List.map, List.nodup_cons, List.mem_cons, List.not_mem_nil, or_false, not_or] at nd
    intro p hp e
    simp only [List.mem_cons, List.not_mem_nil, or_false] at hp
    rcases hp with rfl
    · rfl
  refine ⟨fd_law, fun s v => FunD.bindsA (ps := ["script"]) F_law (fun _ _ _ _ _ _ us hl => match us, hl with | [_], _ => rfl) s [v] rfl, fun base hB => ?_⟩
  have e_Web := ok_Web_eq (P := P) (w := w) (base := base) (T := Ts K) U F_Weq (eqs c.more) 
  have c_walls_of := ok_walls_of (P := P) (w := w) (base := base) (T := Ts K) U F_walls_of (He.glo_ok X G (d.fact 9 (f := .glo "walls_of") rfl)) 
  have c_check_walls := ok_check_walls (P := P) (w := w) (base := base) (T := Ts K) U F_check_walls (He.glo_ok X G (d.fact 12 (f := .glo "check_walls") rfl)) c_walls_of
  have c_is_ascending := ok_is_ascending (P := P) (w := w) (base := base) (T := Ts K) U F_is_ascending (He.glo_ok X G (d.fact 3 (f := .glo "is_ascending") rfl)) 
  have c_parts_of := ok_parts_of (P := P) (w := w) (base := base) (T := Ts K) U F_parts_of (He.glo_ok X G (d.fact 8 (f := .glo "parts_of") rfl)) 
  have c_is_integer := ok_is_integer (P := P) (w := w) (base := base) (T := Ts K) U F_is_integer (He.glo_ok X G (d.fact 0 (f := .glo "is_integer") rfl)) 
  have c_is_number := ok_is_number (P := P) (w := w) (base := base) (T := Ts K) U F_is_number (He.glo_ok X G (d.fact 1 (f := .glo "is_number") rfl)) c_is_integer
  have c_is_side_form := ok_is_side_form (P := P) (w := w) (base := base) (T := Ts K) U F_is_side_form (He.glo_ok X G (d.fact 7 (f := .glo "is_side_form") rfl)) c_is_ascending c_is_number
  have c_is_within := ok_is_within (P := P) (w := w) (base := base) (T := Ts K) U F_is_within (He.glo_ok X G (d.fact 10 (f := .glo "is_within") rfl)) 
  have c_check_tops := ok_check_tops (P := P) (w := w) (base := base) (T := Ts K) U F_check_tops (He.glo_ok X G (d.fact 11 (f := .glo "check_tops") rfl)) c_is_within
  have c_Web := ok_Web (P := P) (w := w) (base := base) (T := Ts K) U (He.mkr_ok (d.fact 54 (f := .mkr "Web") rfl)) F_Web c_check_tops c_check_walls c_is_ascending c_is_side_form c_parts_of
  have c_is_from_nought := ok_is_from_nought (P := P) (w := w) (base := base) (T := Ts K) U F_is_from_nought (He.glo_ok X G (d.fact 2 (f := .glo "is_from_nought") rfl)) c_is_integer
  have c_degree_asked := ok_degree_asked (P := P) (w := w) (base := base) (T := Ts K) U F_degree_asked (He.glo_ok X G (d.fact 13 (f := .glo "degree_asked") rfl)) c_is_from_nought
  have y_degree_asked := okx_degree_asked (P := P) (w := w) (base := base) (T := Ts K) U F_degree_asked (He.glo_ok X G (d.fact 13 (f := .glo "degree_asked") rfl)) c_is_from_nought
  have c_all_sides := ok_all_sides (P := P) (w := w) (base := base) (T := Ts K) U F_all_sides (He.glo_ok X G (d.fact 14 (f := .glo "all_sides") rfl)) 
  have c_web_by := ok_web_by (P := P) (w := w) (base := base) (T := Ts K) U F_web_by (He.glo_ok X G (d.fact 15 (f := .glo "web_by") rfl)) c_Web c_parts_of c_walls_of
  have c_is_part := ok_is_part (P := P) (w := w) (base := base) (T := Ts K) U F_is_part (He.glo_ok X G (d.fact 16 (f := .glo "is_part") rfl)) 
  have c_skeleton := ok_skeleton (P := P) (w := w) (base := base) (T := Ts K) U F_skeleton (He.glo_ok X G (d.fact 17 (f := .glo "skeleton") rfl)) c_degree_asked c_web_by
  have y_skeleton := okx_skeleton (P := P) (w := w) (base := base) (T := Ts K) U F_skeleton (He.glo_ok X G (d.fact 17 (f := .glo "skeleton") rfl)) c_degree_asked y_degree_asked
  have c_side_asked := ok_side_asked (P := P) (w := w) (base := base) (T := Ts K) U F_side_asked (He.glo_ok X G (d.fact 18 (f := .glo "side_asked") rfl)) c_is_side_form
  have y_side_asked := okx_side_asked (P := P) (w := w) (base := base) (T := Ts K) U F_side_asked (He.glo_ok X G (d.fact 18 (f := .glo "side_asked") rfl)) c_is_side_form
  have c_star := ok_star (P := P) (w := w) (base := base) (T := Ts K) U F_star (He.glo_ok X G (d.fact 19 (f := .glo "star") rfl)) c_is_within c_side_asked c_web_by
  have y_star := okx_star (P := P) (w := w) (base := base) (T := Ts K) U F_star (He.glo_ok X G (d.fact 19 (f := .glo "star") rfl)) c_side_asked y_side_asked
  have c_link := ok_link (P := P) (w := w) (base := base) (T := Ts K) U F_link (He.glo_ok X G (d.fact 20 (f := .glo "link") rfl)) c_is_within c_side_asked c_web_by
  have y_link := okx_link (P := P) (w := w) (base := base) (T := Ts K) U F_link (He.glo_ok X G (d.fact 20 (f := .glo "link") rfl)) c_side_asked y_side_asked
  have c_law_hand := ok_law_hand (P := P) (w := w) (base := base) (T := Ts K) U F_law_hand (He.glo_ok X G (d.fact 21 (f := .glo "_law_hand") rfl)) 
  have c_law_draw := ok_law_draw (P := P) (w := w) (base := base) (T := Ts K) U F_law_draw (He.glo_ok X G (d.fact 22 (f := .glo "_law_draw") rfl)) 
  have c_law_some := ok_law_some (P := P) (w := w) (base := base) (T := Ts K) U F_law_some (He.glo_ok X G (d.fact 23 (f := .glo "_law_some") rfl)) c_law_draw
  have c_law_is := ok_law_is (P := P) (w := w) (base := base) (T := Ts K) U F_law_is (He.glo_ok X G (d.fact 24 (f := .glo "_law_is") rfl)) 
  have c_law_faces := ok_law_faces (P := P) (w := w) (base := base) (T := Ts K) U F_law_faces (He.glo_ok X G (d.fact 25 (f := .glo "_law_faces") rfl)) 
  have c_law_sides := ok_law_sides (P := P) (w := w) (base := base) (T := Ts K) U F_law_sides (He.glo_ok X G (d.fact 26 (f := .glo "_law_sides") rfl)) c_law_faces
  have c_law_tops := ok_law_tops (P := P) (w := w) (base := base) (T := Ts K) U F_law_tops (He.glo_ok X G (d.fact 27 (f := .glo "_law_tops") rfl)) c_law_faces
  have c_law_corners := ok_law_corners (P := P) (w := w) (base := base) (T := Ts K) U F_law_corners (He.glo_ok X G (d.fact 28 (f := .glo "_law_corners") rfl)) c_law_draw c_law_some
  have c_law_drawn := ok_law_drawn (P := P) (w := w) (base := base) (T := Ts K) U F_law_drawn (He.glo_ok X G (d.fact 29 (f := .glo "_law_drawn") rfl)) c_law_draw c_law_sides c_law_tops
  have w_law_word := ok_law_word (P := P) (w := w) (base := base) (T := Ts K) U F_law_word (He.glo_ok X G (d.fact 30 (f := .glo "_law_word") rfl)) 
  have c_law_web := ok_law_web (P := P) (w := w) (base := base) (T := Ts K) U F_law_web (He.glo_ok X G (d.fact 31 (f := .glo "_law_web") rfl)) c_Web c_law_sides c_law_tops
  have c_law_is_about := ok_law_is_about (P := P) (w := w) (base := base) (T := Ts K) U F_law_is_about (He.glo_ok X G (d.fact 32 (f := .glo "_law_is_about") rfl)) e_Web c_law_is c_law_web c_all_sides c_is_part c_link c_star
  have c_law_are_parts_right := ok_law_are_parts_right (P := P) (w := w) (base := base) (T := Ts K) U F_law_are_parts_right (He.glo_ok X G (d.fact 33 (f := .glo "_law_are_parts_right") rfl)) c_Web c_law_draw c_law_drawn c_law_is c_law_sides c_law_some c_law_web c_is_part
  have c_law_are_skeletons_right := ok_law_are_skeletons_right (P := P) (w := w) (base := base) (T := Ts K) U F_law_are_skeletons_right (He.glo_ok X G (d.fact 34 (f := .glo "_law_are_skeletons_right") rfl)) e_Web c_law_is c_law_web c_all_sides c_skeleton
  have c_law_are_refused := ok_law_are_refused (P := P) (w := w) (base := base) (T := Ts K) U F_law_are_refused (He.glo_ok X G (d.fact 35 (f := .glo "_law_are_refused") rfl)) (code_is (p := ("_law_are_refused", none)) F_law_are_refused) (hB ("_law_are_refused", none) (by unfold Hd.tf; simp)) (by unfold Ts; simp) (uni0) c_law_is c_law_some w_law_word c_link c_skeleton c_star y_link y_skeleton y_star
  exact ok_law (P := P) (w := w) (base := base) (T := Ts K) U F_law (He.glo_ok X G (d.fact 36 (f := .glo "law") rfl)) c_Web c_law_are_parts_right c_law_are_refused c_law_are_skeletons_right c_law_corners c_law_draw c_law_drawn c_law_hand c_law_is_about c_law_sides c_law_some
end Wk
end

section
set_option Elab.async false
set_option linter.all false
set_option maxRecDepth 100000
set_option maxHeartbeats 0
namespace Wk
open PySem PySem.Spec PyProof.Rows L2 Ev Hd
def spLaw (K : PySem.W.Frag) (C : Addr) : Sp := fun vs H Q _ => ∃ (a : Addr) (ns : List Int), vs = [.ref a] ∧ SqL K H a (ns.map V.int) ∧ ns.length ≤ 63 ∧ (∀ z ∈ ns, Builtin.Int.intBits z ≤ 1048576) ∧ Tbs (ctW C (Ts K)) H ∧ ∀ H', Q (.bl true) H'
/-- a heap without its tables -/
def noTb (H : Hp) : Hp := fun b => match H b with
  | some (.tbl _) => none
  | o => o
theorem law_imp (hp : ∀ ns : List Int, ns.length ≤ 63 → (∀ z ∈ ns, Builtin.Int.intBits z ≤ 1048576) → g_law [.scr ns] = some (.imm (.bl true))) {K : PySem.W.Frag} {C : Addr} (vs : List V) (H : Hp) (Q : VK) (E : XK) (h : spLaw K C vs H Q E) : spV K (ctW C (Ts K)) 1 g_law vs H Q E := by
  obtain ⟨a, ns, rfl, hS, hl, hb, tb, q⟩ := h
  have nt : NoT (noTb H) := fun b ps e => by
    unfold noTb at e
    split at e
    · cases e
    · rename_i n; exact n ps e
  have kp : ∀ b o, H b = some o → (∀ ps, o ≠ .tbl ps) → noTb H b = some o := fun b o e n => by
    unfold noTb
    split
    · rename_i ps z; rw [e] at z; cases z; exact absurd rfl (n ps)
    · exact e
  have le : Le (noTb H) H := fun b o e => by
    unfold noTb at e
    split at e
    · cases e
    · exact e
  refine ⟨noTb H, [.scr ns], .imm (.bl true), le, ⟨tb, nt⟩, rfl, ⟨.ref a, [], rfl, ⟨a, rfl, ?_⟩, rfl⟩, hp ns hl hb, fun v F' H' _ _ r => by
    obtain rfl : v = .bl true := r
    exact q H'⟩
  rcases hS with (h | ⟨o, h⟩) | h
  · exact .inl (.inl (kp _ _ h (by intro _ z; cases z)))
  · exact .inl (.inr ⟨o, kp _ _ h (by intro _ z; cases z)⟩)
  · exact .inr h
theorem tbs_empty {K : PySem.W.Frag} {C : Addr} {H : Hp} (h : ∀ p ∈ Hd.tf.map (He.cT K), H p.2 = some (.tbl #[])) : Tbs (ctW C (Ts K)) H := by
  have one : ∀ (x : He.Defn) (qq : PySem.Str), x ∈ Hd.tf → TabS H (He.cT K x).2 qq := fun x qq m => ⟨#[], h _ (List.mem_map.mpr ⟨x, m, rfl⟩), trivial, fun pos cv e => by cases e⟩
  intro p hp
  replace hp : p ∈ Ts K := hp
  unfold Ts at hp
  simp only [List.mem_cons, List.not_mem_nil, or_false] at hp
  rcases hp with rfl
  exact one _ _ (by unfold Hd.tf; simp)
end Wk
open PySem PySem.W PySem.Calls PyProof.Rows
theorem k01_holds (hp : ∀ ns : List Int, ns.length ≤ 63 → (∀ z ∈ ns, Builtin.Int.intBits z ≤ 1048576) → Wk.g_law [.scr ns] = some (.imm (.bl true))) : PySem.Challenge.rw_fillorgauge_k01_whole_parts_skeletons_st.Holds := by
  w_on; o_law
  refine HandSHeadRun.head_any (r := OpenLaw.row PySem.Challenge.rw_fillorgauge_k01_whole_parts_skeletons_st) (q := view (OpenLaw.row PySem.Challenge.rw_fillorgauge_k01_whole_parts_skeletons_st).prog [46]) (H := Hd.hk) (ob := Hd.ob) (M := 4000) (loose := Hd.loose) (d := HandSHeadRun.topDef (OpenLaw.row PySem.Challenge.rw_fillorgauge_k01_whole_parts_skeletons_st).prog 46) (kwd := []) Hd.ob_eq
    (by kernel_rfl) (fun s => by kernel_rfl) Hd.run (by kernel_rfl) (by kernel_rfl) (by kernel_rfl) (by rfl) (by first | assumption | decide +kernel) (by decide +kernel) ⟨rfl, rfl, rfl, rfl, rfl, by decide +kernel⟩ ?hw ?hc
  case hw => w_witness2
  case hc =>
    refine Ev.walk_ofG (l := PySem.Challenge.rw_fillorgauge_k01_whole_parts_skeletons_st) (n := 63) (k := 11) (x := "script") rfl (by decide) (by kernel_rfl) ⟨rfl, by decide, by decide⟩ ?F
    intro w mg fa h Y G hmg0
    obtain ⟨K, KX, c⟩ := Y
    have hmg : mg ("law" : PySem.Str) = some (.ref fa) := by
      have e : (HandSHeadRun.topDef (OpenLaw.row PySem.Challenge.rw_fillorgauge_k01_whole_parts_skeletons_st).prog 46).name = ("law" : PySem.Str) := by kernel_rfl
      rw [← e]
      exact hmg0
    obtain ⟨fd, hb, hF⟩ := Wk.chain (P := (PySem.Challenge.rw_fillorgauge_k01_whole_parts_skeletons_st).prog) (w := w) KX G c
    have e := hmg.symm.trans (He.glo_ok KX G (c.t.d.fact 36 (f := .glo "law") rfl))
    cases e
    refine ⟨K, KX, fd, Hd.tf.map (He.cT K), Wk.spLaw K (He.ga K "Web"), fun p hp => ?_, fun p hp => ?_, fun p hp => ?_, hb, fun H a ns hl hbt hH hS => ⟨a, ns, rfl, hS, hl, hbt, Wk.tbs_empty hH, fun _ => rfl⟩, fun base _ _ hB => (hF base fun p hp => hB _ (List.mem_map.mpr ⟨p, hp, rfl⟩)).imp (Wk.law_imp hp)⟩
    · obtain ⟨x, hx, rfl⟩ := List.mem_map.mp hp
      exact c.empty x hx
    · obtain ⟨x, hx, rfl⟩ := List.mem_map.mp hp
      exact c.out x hx
    · obtain ⟨x, hx, rfl⟩ := List.mem_map.mp hp
      exact PySem.W.codeHd_of_K KX (c.hd x hx)
end

section
set_option Elab.async false
set_option linter.all false
set_option maxRecDepth 100000
namespace Qk
open PySem PySem.Spec L2 Ev Wk
set_option autoImplicit false
def hnd (b : Bool) (cs : List Int) (i x y c : Int) : S := .ls b [.lst (cs.map D.int), .int i, .int x, .int y, .int c]
def HandOk (b : Bool) (s : S) : Prop := ∃ cs i x y c, s = hnd b cs i x y c ∧ 0 ≤ i
/-- the part behind the taking of a cell -/
theorem at0 (a b c d e : D) : atI [a, b, c, d, e] 0 = some a := rfl
theorem at1 (a b c d e : D) : atI [a, b, c, d, e] 1 = some b := rfl
theorem at2 (a b c d e : D) : atI [a, b, c, d, e] 2 = some c := rfl
theorem at3 (a b c d e : D) : atI [a, b, c, d, e] 3 = some d := rfl
theorem at4 (a b c d e : D) : atI [a, b, c, d, e] 4 = some e := rfl
theorem ix0 : ixN 5 0 = some 0 := rfl
theorem ix1 : ixN 5 1 = some 1 := rfl
theorem ix2 : ixN 5 2 = some 2 := rfl
theorem ix3 : ixN 5 3 = some 3 := rfl
theorem ix4 : ixN 5 4 = some 4 := rfl
theorem draw_x (cs : List Int) (i x y c n : Int) (hx : 0 < x) (hn : 0 < n) (hn2 : n < 1073741824) : g_law_draw (hnd true cs i x y c) [.int n] = some (.imm (.int (x % n)), hnd true cs i (x / n) y c) := by
  have hi : ¬ (x = 0) := by omega
  have e1 : (x == 0) = false := by simp [hi]
  simp [g_law_draw, runI, startF, hnd, S.setIo, m_law_draw, mSeq, mIf, bAnd, mT, m2, m1, mFz, A.two, A.one, A.go, A.fin, vw, mC, mV, S.toD, fIx, fEq, D.sh, D.pl, D.dp, D.eqv, hi, e1, at0, at1, at2, at3, at4, ix0, ix1, ix2, ix3, ix4, mNx, fI2, hx, mSet, mPut, fInt, fI2c, cPos, cDv, hn, hn2, okSet, mRet, mMv, S.io, S.own]
theorem sml_of {i : Int} (h : 0 ≤ i) (k : i < 2147483648) : sml i = true := by
  unfold sml; simp; omega
def num0 (y c : Int) : Int := (y + 7919 * (c + 1)) * 48271 % 2147483647
def num (y c : Int) : Int := num0 y c * (num0 y c / 1009 + 69621) % 2147483647
def dig (y c n : Int) : Int := num y c * (num y c / 2003 + 40692) % 2147483399 / 16 % n
theorem draw_b (cs : List Int) (i x y c n : Int) (hx : x < 0) (hn : 0 < n) (hn2 : n < 1073741824) : g_law_draw (hnd true cs i x y c) [.int n] = some (.imm (.int (dig y c n)), hnd true cs i x y (c + 1)) := by
  have hi : ¬ (x = 0) := by omega
  have e1 : (x == 0) = false := by simp [hi]
  have e2 : ¬ (0 < x) := by omega
  have s0 : sml 7919 = true := by decide
  have s1 : sml 48271 = true := by decide
  have s2 : sml ((y + 7919 * (c + 1)) * 48271 % 2147483647) = true := sml_of (Int.emod_nonneg _ (by decide)) (Int.lt_trans (Int.emod_lt_of_pos _ (by decide)) (by decide))
  have s5 : sml ((y + 7919 * (c + 1)) * 48271 % 2147483647 * ((y + 7919 * (c + 1)) * 48271 % 2147483647 / 1009 + 69621) % 2147483647) = true := sml_of (Int.emod_nonneg _ (by decide)) (Int.lt_trans (Int.emod_lt_of_pos _ (by decide)) (by decide))
  simp [g_law_draw, runI, startF, hnd, S.setIo, m_law_draw, mSeq, mIf, bAnd, mT, m2, m1, mFz, A.two, A.one, A.go, A.fin, vw, mC, mV, S.toD, fIx, fEq, D.sh, D.pl, D.dp, D.eqv, hi, e1, at0, at1, at2, at3, at4, ix0, ix1, ix2, ix3, ix4, mNx, fI2, e2, mSet, mPut, fInt, fI2c, cPos, cDv, hn, hn2, okSet, mRet, mMv, S.io, S.own, fAdd, fMul, cMul, s0, s1, s2, s5, num0, num, dig]
/-- no cell is left -/
theorem draw_c (cs : List Int) (i y c n : Int) (hc : (cs.length : Int) ≤ i) (hn : 0 < n) (hn2 : n < 1073741824) : g_law_draw (hnd true cs i 0 y c) [.int n] = some (.imm (.int (dig y c n)), hnd true cs i 0 y (c + 1)) := by
  have e2 : ¬ (i < (cs.length : Int)) := by omega
  have s0 : sml 7919 = true := by decide
  have s1 : sml 48271 = true := by decide
  have s2 : sml ((y + 7919 * (c + 1)) * 48271 % 2147483647) = true := sml_of (Int.emod_nonneg _ (by decide)) (Int.lt_trans (Int.emod_lt_of_pos _ (by decide)) (by decide))
  have s5 : sml ((y + 7919 * (c + 1)) * 48271 % 2147483647 * ((y + 7919 * (c + 1)) * 48271 % 2147483647 / 1009 + 69621) % 2147483647) = true := sml_of (Int.emod_nonneg _ (by decide)) (Int.lt_trans (Int.emod_lt_of_pos _ (by decide)) (by decide))
  simp [g_law_draw, runI, startF, hnd, S.setIo, m_law_draw, mSeq, mIf, bAnd, mT, m2, m1, mFz, A.two, A.one, A.go, A.fin, vw, mC, mV, S.toD, fIx, fEq, D.sh, D.pl, D.dp, D.eqv, at0, at1, at2, at3, at4, ix0, ix1, ix2, ix3, ix4, mNx, fI2, mSet, mPut, fInt, fI2c, cPos, cDv, hn, hn2, okSet, mRet, mMv, S.io, S.own, fAdd, fMul, cMul, s0, s1, s2, s5, num0, num, dig, fLen, fLt, e2]
def nexty (y z : Int) : Int := (y * 69621 + z + 31) % 2147483629
theorem pw15 : cPw 10 18 = true := by decide
theorem draw_d (cs : List Int) (i y c n z : Int) (hc : i < (cs.length : Int)) (hz : atI (cs.map D.int) i = some (.int z)) (h18 : 1000000000000000000 ≤ z) (hn : 0 < n) (hn2 : n < 1073741824) : g_law_draw (hnd true cs i 0 y c) [.int n] = some (.imm (.int (z % n)), hnd true cs (i + 1) (z / n) (nexty y z) c) := by
  have s0 : sml 69621 = true := by decide
  have s1 : sml 69621 = true := by decide
  have z0 : 0 < z := by omega
  simp [g_law_draw, runI, startF, hnd, S.setIo, m_law_draw, mSeq, mIf, bAnd, mT, m2, m1, mFz, A.two, A.one, A.go, A.fin, vw, mC, mV, S.toD, fIx, fEq, D.sh, D.pl, D.dp, D.eqv, at0, at1, at2, at3, at4, ix0, ix1, ix2, ix3, ix4, mNx, fI2, mSet, mPut, fInt, fI2c, cPos, cDv, hn, hn2, okSet, mRet, mMv, S.io, S.own, fAdd, fMul, cMul, s0, s1, num0, num, dig, fLen, fLt, hc, hz, h18, z0, pw15, nexty]
theorem draw_e (cs : List Int) (i y c n z : Int) (hc : i < (cs.length : Int)) (hz : atI (cs.map D.int) i = some (.int z)) (h18 : z < 1000000000000000000) (hn : 0 < n) (hn2 : n < 1073741824) : g_law_draw (hnd true cs i 0 y c) [.int n] = some (.imm (.int (dig (nexty y z) c n)), hnd true cs (i + 1) 0 (nexty y z) (c + 1)) := by
  have s0 : sml 69621 = true := by decide
  have s1 : sml 69621 = true := by decide
  have s3 : sml 7919 = true := by decide
  have s4 : sml 48271 = true := by decide
  have s2 : sml (((y * 69621 + z + 31) % 2147483629 + 7919 * (c + 1)) * 48271 % 2147483647) = true := sml_of (Int.emod_nonneg _ (by decide)) (Int.lt_trans (Int.emod_lt_of_pos _ (by decide)) (by decide))
  have s5 : sml (((y * 69621 + z + 31) % 2147483629 + 7919 * (c + 1)) * 48271 % 2147483647 * (((y * 69621 + z + 31) % 2147483629 + 7919 * (c + 1)) * 48271 % 2147483647 / 1009 + 69621) % 2147483647) = true := sml_of (Int.emod_nonneg _ (by decide)) (Int.lt_trans (Int.emod_lt_of_pos _ (by decide)) (by decide))
  have h19 : ¬ (1000000000000000000 ≤ z) := by omega
  simp [g_law_draw, runI, startF, hnd, S.setIo, m_law_draw, mSeq, mIf, bAnd, mT, m2, m1, mFz, A.two, A.one, A.go, A.fin, vw, mC, mV, S.toD, fIx, fEq, D.sh, D.pl, D.dp, D.eqv, at0, at1, at2, at3, at4, ix0, ix1, ix2, ix3, ix4, mNx, fI2, mSet, mPut, fInt, fI2c, cPos, cDv, hn, hn2, okSet, mRet, mMv, S.io, S.own, fAdd, fMul, cMul, s0, s1, num0, num, dig, fLen, fLt, hc, hz, h19, pw15, nexty, s2, s5, s3, s4]
theorem dig_ok (y c n : Int) (hn : 0 < n) : 0 ≤ dig y c n ∧ dig y c n < n := ⟨Int.emod_nonneg _ (by omega), Int.emod_lt_of_pos _ hn⟩
theorem mod_ok (x n : Int) (hn : 0 < n) : 0 ≤ x % n ∧ x % n < n := ⟨Int.emod_nonneg _ (by omega), Int.emod_lt_of_pos _ hn⟩
/-- a draw tells a digit and leaves a hand -/
theorem draw_ok {s : S} {n : Int} (h : HandOk true s) (hn : 0 < n) (hn2 : n < 1073741824) : ∃ d s', g_law_draw s [.int n] = some (.imm (.int d), s') ∧ 0 ≤ d ∧ d < n ∧ HandOk true s' := by
  obtain ⟨cs, i, x, y, c, rfl, hi⟩ := h
  rcases Int.lt_trichotomy x 0 with hx | hx | hx
  · exact ⟨_, _, draw_b cs i x y c n hx hn hn2, (dig_ok y c n hn).1, (dig_ok y c n hn).2, cs, i, x, y, _, rfl, hi⟩
  · subst hx
    by_cases hc : i < (cs.length : Int)
    · have hk : i.toNat < cs.length := by omega
      have hz : atI (cs.map D.int) i = some (.int cs[i.toNat]) := by
        unfold atI ixN
        rw [if_pos hi, if_pos (by rw [List.length_map]; exact hc)]
        show (cs.map D.int)[i.toNat]? = _
        rw [List.getElem?_map, List.getElem?_eq_getElem hk]; rfl
      by_cases h18 : 1000000000000000000 ≤ cs[i.toNat]
      · exact ⟨_, _, draw_d cs i y c n _ hc hz h18 hn hn2, (mod_ok _ n hn).1, (mod_ok _ n hn).2, cs, i + 1, _, _, _, rfl, by omega⟩
      · exact ⟨_, _, draw_e cs i y c n _ hc hz (by omega) hn hn2, (dig_ok _ _ n hn).1, (dig_ok _ _ n hn).2, cs, i + 1, _, _, _, rfl, by omega⟩
    · exact ⟨_, _, draw_c cs i y c n (by omega) hn hn2, (dig_ok _ _ n hn).1, (dig_ok _ _ n hn).2, cs, i, _, _, _, rfl, hi⟩
  · exact ⟨_, _, draw_x cs i x y c n hx hn hn2, (mod_ok x n hn).1, (mod_ok x n hn).2, cs, i, _, y, c, rfl, hi⟩
theorem draw_any {b : Bool} {s : S} {n : Int} (h : HandOk b s) (hn : 0 < n) (hn2 : n < 1073741824) : ∃ d s', g_law_draw s [.int n] = some (.imm (.int d), s') ∧ 0 ≤ d ∧ d < n ∧ HandOk true s' := by
  obtain ⟨cs, i, x, y, c, rfl, hi⟩ := h
  exact draw_ok (s := hnd true cs i x y c) ⟨cs, i, x, y, c, rfl, hi⟩ hn hn2
theorem HandOk.io {b b' : Bool} {s : S} (h : HandOk b s) : HandOk b' (s.setIo b') := by
  obtain ⟨cs, i, x, y, c, rfl, hi⟩ := h
  exact ⟨cs, i, x, y, c, rfl, hi⟩
theorem HandOk.ls {b : Bool} {s : S} (h : HandOk b s) : s.own = true ∧ s.io = b := by
  obtain ⟨cs, i, x, y, c, rfl, hi⟩ := h
  exact ⟨rfl, rfl⟩
theorem call_drawS {b : Bool} {j : Nat} {σ : Fr} {s : S} {n : Int} {ms : List (M D)} (hm : mL ms σ = some ([.int n], σ)) (e : σ[j]? = some (some s)) (h : HandOk b s) (hn : 0 < n) (hn2 : n < 1073741824) :
    ∃ d s', mCallI j 2 g_law_draw ms σ = some (.imm (.int d), σ.set j (some s')) ∧ 0 ≤ d ∧ d < n ∧ HandOk b s' := by
  obtain ⟨d, s', h1, h2, h3, h4⟩ := draw_any h hn hn2
  refine ⟨d, s'.setIo b, ?_, h2, h3, h4.io⟩
  unfold mCallI
  simp only [e, hm, h.ls.1, h.ls.2, h1]
  rfl
/-- a draw as an expression, from the hand in slot j -/
theorem call_draw {b : Bool} {j : Nat} {σ : Fr} {s : S} {n : Int} {ms : List (M D)} (hm : mL ms σ = some ([.int n], σ)) (e : σ[j]? = some (some s)) (h : HandOk b s) (hn : 0 < n) (hn2 : n < 1073741824) :
    ∃ d s', mFz (mCallI j 2 g_law_draw ms) σ = some (.int d, σ.set j (some s')) ∧ 0 ≤ d ∧ d < n ∧ HandOk b s' := by
  obtain ⟨d, s', h1, h2, h3, h4⟩ := draw_any h hn hn2
  refine ⟨d, s'.setIo b, ?_, h2, h3, h4.io⟩
  unfold mFz mCallI
  simp only [e, hm, h.ls.1, h.ls.2, h1]
  rfl
end Qk
end

section
set_option Elab.async false
set_option linter.all false
/-! Qb: sums of sides, borders: the mathematics. -/
namespace Qk
open PySem PySem.Spec L2 Ev
set_option autoImplicit false
abbrev Sd := List Int
abbrev Ch := List (Sd × Int)
/-! ### order -/
abbrev lt (a b : Sd) : Prop := HT.lexLt a b = true
theorem lt_cons {x y : Int} {a b : Sd} : lt (x :: a) (y :: b) ↔ x < y ∨ (x = y ∧ lt a b) := by
  unfold lt
  rw [HT.lexLt_cons]
  by_cases h : x = y
  · subst h; simp
  · simp [h]
theorem lt_irrefl : ∀ a : Sd, ¬ lt a a
  | [], h => by simp [lt, HT.lexLt] at h
  | x :: a, h => by
    rcases lt_cons.mp h with h | ⟨_, h⟩
    · omega
    · exact lt_irrefl a h
theorem lt_nil {a : Sd} : ¬ lt a [] := fun h => by cases a <;> simp [lt, HT.lexLt] at h
theorem nil_lt {x : Int} {a : Sd} : lt [] (x :: a) := by simp [lt, HT.lexLt]
theorem lt_trans : ∀ {a b c : Sd}, lt a b → lt b c → lt a c
  | _, [], _, h, _ => absurd h lt_nil
  | _, _ :: _, [], _, h => absurd h lt_nil
  | [], _ :: _, _ :: _, _, _ => nil_lt
  | x :: a, y :: b, z :: c, h, k => by
    rcases lt_cons.mp h with h1 | ⟨e1, h1⟩
    · rcases lt_cons.mp k with k1 | ⟨e2, k1⟩
      · exact lt_cons.mpr (.inl (by omega))
      · exact lt_cons.mpr (.inl (by omega))
    · rcases lt_cons.mp k with k1 | ⟨e2, k1⟩
      · exact lt_cons.mpr (.inl (by omega))
      · exact lt_cons.mpr (.inr ⟨e1.trans e2, lt_trans h1 k1⟩)
theorem lt_tri : ∀ a b : Sd, lt a b ∨ a = b ∨ lt b a
  | [], [] => .inr (.inl rfl)
  | [], _ :: _ => .inl nil_lt
  | _ :: _, [] => .inr (.inr nil_lt)
  | x :: a, y :: b => by
    rcases Int.lt_trichotomy x y with h | rfl | h
    · exact .inl (lt_cons.mpr (.inl h))
    · rcases lt_tri a b with h | rfl | h
      · exact .inl (lt_cons.mpr (.inr ⟨rfl, h⟩))
      · exact .inr (.inl rfl)
      · exact .inr (.inr (lt_cons.mpr (.inr ⟨rfl, h⟩)))
    · exact .inr (.inr (lt_cons.mpr (.inl h)))
theorem lt_asymm {a b : Sd} (h : lt a b) (k : lt b a) : False := lt_irrefl a (lt_trans h k)
/-- strictly sorted lists of one membership are one -/
theorem sorted_eq {α : Type} {r : α → α → Prop} (ir : ∀ a, ¬ r a a) (tr : ∀ {a b c}, r a b → r b c → r a c) : ∀ {l m : List α}, l.Pairwise r → m.Pairwise r → (∀ x, x ∈ l ↔ x ∈ m) → l = m
  | [], [], _, _, _ => rfl
  | [], y :: m, _, _, h => by have := (h y).mpr List.mem_cons_self; cases this
  | x :: l, [], _, _, h => by have := (h x).mp List.mem_cons_self; cases this
  | x :: l, y :: m, hl, hm, h => by
    obtain ⟨h1, h2⟩ := List.pairwise_cons.mp hl
    obtain ⟨k1, k2⟩ := List.pairwise_cons.mp hm
    have e : x = y := by
      rcases List.mem_cons.mp ((h x).mp List.mem_cons_self) with e | e
      · exact e
      · rcases List.mem_cons.mp ((h y).mpr List.mem_cons_self) with e' | e'
        · exact e'.symm
        · exact absurd (tr (h1 y e') (k1 x e)) (ir x)
    subst e
    have e2 : l = m := sorted_eq ir tr h2 k2 fun z => by
      constructor
      · intro hz
        rcases List.mem_cons.mp ((h z).mp (List.mem_cons_of_mem _ hz)) with e | e
        · subst e; exact absurd (h1 z hz) (ir z)
        · exact e
      · intro hz
        rcases List.mem_cons.mp ((h z).mpr (List.mem_cons_of_mem _ hz)) with e | e
        · subst e; exact absurd (k1 z hz) (ir z)
        · exact e
    rw [e2]
/-! ### totals -/
def tot : Ch → Sd → Int
  | [], _ => 0
  | p :: c, t => (if p.1 = t then p.2 else 0) + tot c t
theorem tot_append (c d : Ch) (t : Sd) : tot (c ++ d) t = tot c t + tot d t := by
  induction c with
  | nil => simp [tot]
  | cons p c ih => rw [List.cons_append, tot, tot, ih]; omega
def scl (k : Int) (c : Ch) : Ch := c.map fun p => (p.1, k * p.2)
theorem tot_scl (k : Int) (c : Ch) (t : Sd) : tot (scl k c) t = k * tot c t := by
  induction c with
  | nil => simp [tot, scl]
  | cons p c ih =>
    show (if p.1 = t then k * p.2 else 0) + tot (scl k c) t = k * ((if p.1 = t then p.2 else 0) + tot c t)
    rw [ih, Int.mul_add]
    split <;> simp
theorem tot_none {c : Ch} {t : Sd} (h : ∀ p ∈ c, p.1 ≠ t) : tot c t = 0 := by
  induction c with
  | nil => rfl
  | cons p c ih =>
    rw [tot, if_neg (h p List.mem_cons_self), ih fun q hq => h q (List.mem_cons_of_mem _ hq)]; rfl
/-! ### modulus -/
def md (n x : Int) : Int := if 0 < n then x % n else x
theorem md_md (n x : Int) : md n (md n x) = md n x := by
  unfold md; split
  · exact Int.emod_emod_of_dvd _ (Int.dvd_refl _)
  · rfl
theorem md_add {n a b a' b' : Int} (h : md n a = md n a') (k : md n b = md n b') : md n (a + b) = md n (a' + b') := by
  unfold md at *
  by_cases hn : 0 < n
  · simp only [if_pos hn] at *
    rw [Int.add_emod, h, k, ← Int.add_emod]
  · simp only [if_neg hn] at *
    rw [h, k]
theorem md_mul {n a b a' : Int} (h : md n a = md n a') : md n (a * b) = md n (a' * b) := by
  unfold md at *
  by_cases hn : 0 < n
  · simp only [if_pos hn] at *
    rw [Int.mul_emod, h, ← Int.mul_emod]
  · simp only [if_neg hn] at *
    rw [h]
theorem md_mul' {n a b b' : Int} (h : md n b = md n b') : md n (a * b) = md n (a * b') := by
  rw [Int.mul_comm, md_mul h, Int.mul_comm]
/-! ### borders -/
def drops : Sd → Ch
  | [] => []
  | a :: l => (l, 1) :: (drops l).map fun p => (a :: p.1, -p.2)
def faces (s : Sd) : Ch := if s.length = 1 then [] else drops s
def bd (c : Ch) : Ch := c.flatMap fun p => (faces p.1).map fun q => (q.1, q.2 * p.2)
def bdD (c : Ch) : Ch := c.flatMap fun p => (drops p.1).map fun q => (q.1, q.2 * p.2)
theorem tot_mul (k : Int) (c : Ch) (t : Sd) : tot (c.map fun q => (q.1, q.2 * k)) t = tot c t * k := by
  have : (c.map fun q => (q.1, q.2 * k)) = scl k c := by
    unfold scl
    exact List.map_congr_left fun q _ => by rw [Int.mul_comm]
  rw [this, tot_scl, Int.mul_comm]
theorem tot_bd_cons (p : Sd × Int) (c : Ch) (t : Sd) : tot (bd (p :: c)) t = tot (faces p.1) t * p.2 + tot (bd c) t := by
  unfold bd
  rw [List.flatMap_cons, tot_append, tot_mul]
theorem tot_bdD_cons (p : Sd × Int) (c : Ch) (t : Sd) : tot (bdD (p :: c)) t = tot (drops p.1) t * p.2 + tot (bdD c) t := by
  unfold bdD
  rw [List.flatMap_cons, tot_append, tot_mul]
theorem tot_bd_append (c d : Ch) (t : Sd) : tot (bd (c ++ d)) t = tot (bd c) t + tot (bd d) t := by
  unfold bd
  rw [List.flatMap_append, tot_append]
theorem tot_bd_scl (k : Int) (c : Ch) (t : Sd) : tot (bd (scl k c)) t = k * tot (bd c) t := by
  induction c with
  | nil => simp [bd, scl, tot]
  | cons p c ih =>
    show tot (bd ((p.1, k * p.2) :: scl k c)) t = _
    rw [tot_bd_cons, tot_bd_cons, ih, Int.mul_add]
    congr 1
    show tot (faces p.1) t * (k * p.2) = k * (tot (faces p.1) t * p.2)
    rw [← Int.mul_assoc, ← Int.mul_assoc, Int.mul_comm (tot (faces p.1) t) k]
def pre (a : Int) (c : Ch) : Ch := c.map fun q => (a :: q.1, q.2)
theorem tot_pre (a : Int) (c : Ch) (t : Sd) : tot (pre a c) t = match t with
    | [] => 0
    | b :: t' => if a = b then tot c t' else 0 := by
  induction c with
  | nil => cases t <;> simp [pre, tot]
  | cons p c ih =>
    show (if a :: p.1 = t then p.2 else 0) + tot (pre a c) t = _
    rw [ih]
    cases t with
    | nil => simp
    | cons b t' =>
      by_cases h : a = b
      · subst h; simp [tot]
      · simp [h]
theorem bdD_pre (a : Int) (c : Ch) (t : Sd) : tot (bdD (c.map fun p => (a :: p.1, -p.2))) t = - tot c t + tot (pre a (bdD c)) t := by
  induction c with
  | nil => simp [bdD, tot, pre]
  | cons p c ih =>
    rw [List.map_cons, tot_bdD_cons, ih, tot]
    have e : pre a (bdD (p :: c)) = pre a ((drops p.1).map fun q => (q.1, q.2 * p.2)) ++ pre a (bdD c) := by
      unfold bdD pre
      rw [List.flatMap_cons, List.map_append]
    rw [e, tot_append]
    have e2 : tot (drops (a :: p.1)) t * -p.2 = -(if p.1 = t then p.2 else 0) + tot (pre a ((drops p.1).map fun q => (q.1, q.2 * p.2))) t := by
      show ((if p.1 = t then 1 else 0) + tot ((drops p.1).map fun q => (a :: q.1, -q.2)) t) * -p.2 = _
      have e3 : tot ((drops p.1).map fun q => (a :: q.1, -q.2)) t = - tot (pre a (drops p.1)) t := by
        have : ((drops p.1).map fun q => (a :: q.1, -q.2)) = scl (-1) (pre a (drops p.1)) := by
          unfold scl pre
          rw [List.map_map]
          exact List.map_congr_left fun q _ => by
            show (a :: q.1, -q.2) = (a :: q.1, -1 * q.2)
            rw [Int.neg_one_mul]
        rw [this, tot_scl, Int.neg_one_mul]
      have e4 : tot (pre a ((drops p.1).map fun q => (q.1, q.2 * p.2))) t = tot (pre a (drops p.1)) t * p.2 := by
        have : pre a ((drops p.1).map fun q => (q.1, q.2 * p.2)) = (pre a (drops p.1)).map fun q => (q.1, q.2 * p.2) := by
          unfold pre
          rw [List.map_map, List.map_map]; rfl
        rw [this, tot_mul]
      rw [e3, e4, Int.add_mul]
      congr 1
      · split <;> simp
      · rw [Int.neg_mul_neg]
    rw [e2]; omega
theorem bdD_drops : ∀ (s t : Sd), tot (bdD (drops s)) t = 0
  | [], _ => rfl
  | a :: l, t => by
    show tot (bdD ((l, 1) :: (drops l).map fun p => (a :: p.1, -p.2))) t = 0
    rw [tot_bdD_cons, bdD_pre, tot_pre]
    cases t with
    | nil => simp; omega
    | cons b t' =>
      have z := bdD_drops l t'
      simp only [z]
      simp; omega
theorem drops_len : ∀ {s : Sd} {p : Sd × Int}, p ∈ drops s → p.1.length + 1 = s.length
  | a :: l, p, h => by
    rcases List.mem_cons.mp h with rfl | h
    · rfl
    · obtain ⟨q, hq, rfl⟩ := List.mem_map.mp h
      have := drops_len hq
      simp only [List.length_cons]; omega
theorem bd_faces (s t : Sd) : tot (bd (faces s)) t = 0 := by
  unfold faces
  split
  · rfl
  · by_cases h2 : s.length = 2
    · have e : bd (drops s) = [] := by
        unfold bd
        rw [List.flatMap_eq_nil_iff]
        intro p hp
        have := drops_len hp
        unfold faces
        rw [if_pos (by omega)]; rfl
      rw [e]; rfl
    · have e : bd (drops s) = bdD (drops s) := by
        have : ∀ c : Ch, (∀ p ∈ c, p.1.length ≠ 1) → bd c = bdD c := by
          intro c h
          induction c with
          | nil => rfl
          | cons p c ih =>
            unfold bd bdD at *
            rw [List.flatMap_cons, List.flatMap_cons, ih fun q hq => h q (List.mem_cons_of_mem _ hq)]
            unfold faces
            rw [if_neg (h p List.mem_cons_self)]
        exact this _ fun p hp => by have := drops_len hp; omega
      rw [e, bdD_drops]
theorem bd_bd : ∀ (c : Ch) (t : Sd), tot (bd (bd c)) t = 0
  | [], _ => rfl
  | p :: c, t => by
    have e : bd (p :: c) = ((faces p.1).map fun q => (q.1, q.2 * p.2)) ++ bd c := by unfold bd; rw [List.flatMap_cons]
    rw [e, tot_bd_append, bd_bd c t]
    have e2 : ((faces p.1).map fun q => (q.1, q.2 * p.2)) = scl p.2 (faces p.1) := by
      unfold scl
      exact List.map_congr_left fun q _ => by rw [Int.mul_comm]
    rw [e2, tot_bd_scl, bd_faces]; simp
/-! ### borders go by totals -/
def sumL (S : List Sd) (f : Sd → Int) : Int := (S.map f).sum
theorem sumL_cons (s : Sd) (S : List Sd) (f : Sd → Int) : sumL (s :: S) f = f s + sumL S f := by unfold sumL; rw [List.map_cons, List.sum_cons]
theorem sumL_one {S : List Sd} (nd : S.Nodup) {u : Sd} (hu : u ∈ S) (w : Int) (g : Sd → Int) : sumL S (fun s => (if u = s then w else 0) * g s) = w * g u := by
  induction S with
  | nil => cases hu
  | cons s S ih =>
    obtain ⟨h1, h2⟩ := List.nodup_cons.mp nd
    rw [sumL_cons]
    by_cases e : u = s
    · subst e
      have z : sumL S (fun s => (if u = s then w else 0) * g s) = 0 := by
        have : ∀ T : List Sd, u ∉ T → sumL T (fun s => (if u = s then w else 0) * g s) = 0 := by
          intro T
          induction T with
          | nil => intro _; rfl
          | cons v T ih =>
            intro h
            rw [sumL_cons, if_neg (fun e : u = v => h (e ▸ List.mem_cons_self)), ih fun m => h (List.mem_cons_of_mem _ m)]; simp
        exact this S h1
      rw [z]; simp
    · rw [if_neg e, ih h2 ((List.mem_cons.mp hu).resolve_left e)]; simp
theorem sumL_add (S : List Sd) (f g : Sd → Int) : sumL S (fun s => f s + g s) = sumL S f + sumL S g := by
  induction S with
  | nil => rfl
  | cons s S ih => rw [sumL_cons, sumL_cons, sumL_cons, ih]; omega
theorem bd_sum {S : List Sd} (nd : S.Nodup) (t : Sd) : ∀ {c : Ch}, (∀ p ∈ c, p.1 ∈ S) → tot (bd c) t = sumL S fun s => tot c s * tot (faces s) t
  | [], _ => by
    have : ∀ T : List Sd, sumL T (fun s => tot [] s * tot (faces s) t) = 0 := by
      intro T
      induction T with
      | nil => rfl
      | cons s T ih => rw [sumL_cons, ih]; simp [tot]
    rw [this]; rfl
  | p :: c, h => by
    rw [tot_bd_cons, bd_sum nd t fun q hq => h q (List.mem_cons_of_mem _ hq)]
    have e : (fun s => tot (p :: c) s * tot (faces s) t) = fun s => (if p.1 = s then p.2 else 0) * tot (faces s) t + tot c s * tot (faces s) t := by
      funext s
      rw [tot, Int.add_mul]
    rw [e, sumL_add, sumL_one nd (h p List.mem_cons_self) p.2 fun s => tot (faces s) t, Int.mul_comm]
theorem sumL_md {n : Int} {f g h : Sd → Int} (k : ∀ s, md n (f s) = md n (g s)) : ∀ S : List Sd, md n (sumL S fun s => f s * h s) = md n (sumL S fun s => g s * h s)
  | [] => rfl
  | s :: S => by
    rw [sumL_cons, sumL_cons]
    exact md_add (md_mul (k s)) (sumL_md k S)
def uniq : List Sd → List Sd
  | [] => []
  | s :: S => if s ∈ uniq S then uniq S else s :: uniq S
theorem mem_uniq {s : Sd} : ∀ {S : List Sd}, s ∈ uniq S ↔ s ∈ S
  | [] => Iff.rfl
  | u :: S => by
    unfold uniq
    split
    · rename_i h
      rw [mem_uniq (S := S), List.mem_cons]
      constructor
      · exact .inr
      · rintro (rfl | h')
        · exact mem_uniq.mp h
        · exact h'
    · rw [List.mem_cons, List.mem_cons, mem_uniq (S := S)]
theorem nodup_uniq : ∀ S : List Sd, (uniq S).Nodup
  | [] => List.nodup_nil
  | u :: S => by
    unfold uniq
    split
    · exact nodup_uniq S
    · rename_i h
      exact List.nodup_cons.mpr ⟨h, nodup_uniq S⟩
theorem bd_congr {n : Int} {c d : Ch} (h : ∀ s, md n (tot c s) = md n (tot d s)) (t : Sd) : md n (tot (bd c) t) = md n (tot (bd d) t) := by
  have nd := nodup_uniq (c.map (·.1) ++ d.map (·.1))
  have h1 : ∀ p ∈ c, p.1 ∈ uniq (c.map (·.1) ++ d.map (·.1)) := fun p hp => mem_uniq.mpr (List.mem_append_left _ (List.mem_map.mpr ⟨p, hp, rfl⟩))
  have h2 : ∀ p ∈ d, p.1 ∈ uniq (c.map (·.1) ++ d.map (·.1)) := fun p hp => mem_uniq.mpr (List.mem_append_right _ (List.mem_map.mpr ⟨p, hp, rfl⟩))
  rw [bd_sum nd t h1, bd_sum nd t h2]
  exact sumL_md h _
/-! ### chains -/
/-- the chain whose totals are f -/
structure IsCh (c : Ch) (f : Sd → Int) : Prop where
  srt : c.Pairwise fun p q => lt p.1 q.1
  nz : ∀ p ∈ c, p.2 ≠ 0
  tot : ∀ s, tot c s = f s
theorem tot_at {c : Ch} (h : c.Pairwise fun p q => lt p.1 q.1) {p : Sd × Int} (hp : p ∈ c) : tot c p.1 = p.2 := by
  induction c with
  | nil => cases hp
  | cons q c ih =>
    obtain ⟨h1, h2⟩ := List.pairwise_cons.mp h
    rw [Qk.tot]
    rcases List.mem_cons.mp hp with rfl | hp
    · rw [if_pos rfl, tot_none fun r hr e => by have := h1 r hr; rw [e] at this; exact lt_irrefl _ this]; simp
    · have := h1 p hp
      rw [if_neg (fun e => by rw [e] at this; exact lt_irrefl _ this), ih h2 hp]; simp
theorem IsCh.mem {c : Ch} {f : Sd → Int} (h : IsCh c f) (p : Sd × Int) : p ∈ c ↔ p.2 ≠ 0 ∧ f p.1 = p.2 := by
  constructor
  · intro hp
    exact ⟨h.nz p hp, (h.tot p.1).symm.trans (tot_at h.srt hp)⟩
  · rintro ⟨h1, h2⟩
    by_cases hp : ∃ q ∈ c, q.1 = p.1
    · obtain ⟨q, hq, e⟩ := hp
      have := tot_at h.srt hq
      rw [h.tot, e, h2] at this
      have : p = q := Prod.ext e.symm this
      rw [this]; exact hq
    · exfalso
      apply h1
      rw [← h2, ← h.tot]
      exact tot_none fun q hq e => hp ⟨q, hq, e⟩
theorem IsCh.uniq {c d : Ch} {f g : Sd → Int} (h : IsCh c f) (k : IsCh d g) (e : ∀ s, f s = g s) : c = d :=
  sorted_eq (r := fun p q : Sd × Int => lt p.1 q.1) (fun p => lt_irrefl p.1) lt_trans h.srt k.srt fun p => by rw [h.mem, k.mem, e]
theorem IsCh.nil {c : Ch} {f : Sd → Int} (h : IsCh c f) (z : ∀ s, f s = 0) : c = [] := h.uniq (d := []) (g := fun _ => 0) ⟨List.Pairwise.nil, fun _ m => (by cases m), fun _ => rfl⟩ z
end Qk
end

section
set_option Elab.async false
set_option linter.all false
set_option maxRecDepth 100000
/-! Qc: steps of mirrors; sides and chains as deep values. -/
namespace Qk
open PySem PySem.Spec L2 Ev Wk
set_option autoImplicit false
/-! ### steps of a mirror -/
theorem seq_nx {m n : M Fl} {σ σ' : Fr} (h : m σ = some (.nx, σ')) : mSeq m n σ = n σ' := by unfold mSeq; rw [h]
theorem seq_rt {m n : M Fl} {σ σ' : Fr} {s : S} (h : m σ = some (.rt s, σ')) : mSeq m n σ = some (.rt s, σ') := by unfold mSeq; rw [h]
theorem set_eq {i : Nat} {m : M S} {σ σ' : Fr} {s : S} (h : m σ = some (s, σ')) (ho : okSet σ' i = true) : mSet i m σ = some (.nx, σ'.set i (some s)) := by
  unfold mSet; rw [h]; show (if okSet σ' i = true then _ else _) = _; rw [if_pos ho]
theorem ret_eq {m : M S} {σ σ' : Fr} {s : S} (h : m σ = some (s, σ')) : mRet m σ = some (.rt s, σ') := by unfold mRet; rw [h]
theorem drop_eq {m : M S} {σ σ' : Fr} {s : S} (h : m σ = some (s, σ')) : mDrop m σ = some (.nx, σ') := by unfold mDrop; rw [h]
theorem for_eq {it : MI} {T : Tg} {b : M Fl} {σ σ1 : Fr} {ds : List D} (h : it σ = some (ds, σ1)) : mFor it T b σ = lpF T b ds σ1 := by unfold mFor; rw [h]
theorem ifT {α : Type} {t : M Bool} {p q : M α} {σ σ' : Fr} (h : t σ = some (true, σ')) : mIf t p q σ = p σ' := by unfold mIf; rw [h]
theorem ifF {α : Type} {t : M Bool} {p q : M α} {σ σ' : Fr} (h : t σ = some (false, σ')) : mIf t p q σ = q σ' := by unfold mIf; rw [h]
theorem fz_eq {m : M S} {σ σ' : Fr} {s : S} (h : m σ = some (s, σ')) : mFz m σ = some (s.toD, σ') := by unfold mFz; rw [h]
theorem nx_eq {σ : Fr} : mNx σ = some (.nx, σ) := rfl
theorem runI_rt {n : Nat} {m : M Fl} {s0 s h : S} {ds : List D} {σ : Fr} (e : m (startF (s0.setIo true :: ds.map .imm) n) = some (.rt s, σ)) (e0 : σ[0]? = some (some h)) (ho : h.own = true) : runI n m s0 ds = some (s, h) := by
  unfold runI; rw [e]; show (match σ[0]? with | some (some s1) => _ | _ => _) = _; rw [e0]; show (if h.own = true then _ else _) = _; rw [if_pos ho]
theorem runV_rt {n : Nat} {m : M Fl} {ds : List D} {s : S} {σ : Fr} (e : m (startF (ds.map .imm) n) = some (.rt s, σ)) : runV n m ds = some s := by
  unfold runV; rw [e]
theorem runV_nx {n : Nat} {m : M Fl} {ds : List D} {σ : Fr} (e : m (startF (ds.map .imm) n) = some (.nx, σ)) : runV n m ds = some (.imm .non) := by
  unfold runV; rw [e]
theorem call_eq {n : Nat} {g : List D → Option S} {ms : List (M D)} {σ σ' : Fr} {ds : List D} {s : S} (h : mL ms σ = some (ds, σ')) (hl : ds.length = n) (hg : g ds = some s) : mCall n g ms σ = some (s, σ') := by
  unfold mCall; rw [h]; show (if ds.length = n then _ else _) = _; rw [if_pos hl, hg]
theorem dRng_int (n : Nat) : dRng 0 n = ((List.range n).map fun i : Nat => (i : Int)).map D.int := by
  unfold dRng
  rw [List.map_map]
  apply List.map_congr_left
  intro i _
  show D.int (0 + (i : Int)) = D.int (i : Int)
  rw [Int.zero_add]
/-! ### comprehensions -/
theorem set_same {σ : Fr} {j : Nat} (h : σ[j]? = some none) : σ.set j none = σ := by
  apply List.ext_getElem?
  intro i
  rw [List.getElem?_set]
  by_cases e : j = i
  · subst e; rw [if_pos rfl, if_pos (List.getElem?_eq_some_iff.mp h).1, h]
  · rw [if_neg e]
theorem lpC_nm {j : Nat} {te : M D} {σ : Fr} {f : D → D} (h0 : σ[j]? = some none) : ∀ {ds : List D}, (∀ d ∈ ds, te (σ.set j (some (.imm d))) = some (f d, σ.set j (some (.imm d)))) → lpC (.nm j) mYes te [j] ds σ = some (ds.map f, σ)
  | [], _ => rfl
  | d :: ds, ht => by
    have hj : j < σ.length := (List.getElem?_eq_some_iff.mp h0).1
    have ho : okSet σ j = true := by unfold okSet; rw [h0]; simp [hj]
    have hh : hide (σ.set j (some (.imm d))) [j] = σ := by
      show (σ.set j (some (.imm d))).set j none = σ
      rw [List.set_set]; exact set_same h0
    simp only [lpC, Tg.put, ho, if_true, mYes, ht d (List.mem_cons_self ..), hh, lpC_nm h0 (fun e he => ht e (List.mem_cons_of_mem _ he)), List.map_cons]
theorem lpC_tp {i j : Nat} {te : M D} {σ : Fr} {f : D → D} (hij : i ≠ j) (h0 : σ[i]? = some none) (h1 : σ[j]? = some none) : ∀ {ds : List D}, (∀ d ∈ ds, ∃ k x y, d = .tup k [x, y] ∧ te ((σ.set i (some (.imm x))).set j (some (.imm y))) = some (f d, (σ.set i (some (.imm x))).set j (some (.imm y)))) → lpC (.tp [.nm i, .nm j]) mYes te [i, j] ds σ = some (ds.map f, σ)
  | [], _ => rfl
  | d :: ds, ht => by
    obtain ⟨k, x, y, rfl, he⟩ := ht d (List.mem_cons_self ..)
    have hi : i < σ.length := (List.getElem?_eq_some_iff.mp h0).1
    have hj : j < σ.length := (List.getElem?_eq_some_iff.mp h1).1
    have ho : okSet σ i = true := by unfold okSet; rw [h0]; simp [hi]
    have ho2 : okSet (σ.set i (some (.imm x))) j = true := by unfold okSet; rw [List.getElem?_set_ne hij, h1]; simp [hj]
    have hh : hide ((σ.set i (some (.imm x))).set j (some (.imm y))) [i, j] = σ := by
      show (((σ.set i (some (.imm x))).set j (some (.imm y))).set j none).set i none = σ
      rw [List.set_set, List.set_comm _ _ hij, List.set_set, set_same h1, set_same h0]
    simp only [lpC, Tg.put, Tg.puts, ho, ho2, if_true, mYes, he, hh, lpC_tp hij h0 h1 (fun e he => ht e (List.mem_cons_of_mem _ he)), List.map_cons]
theorem shown1 {σ : Fr} {j : Nat} : shown (σ.set j none) σ [j] = σ := by
  apply List.ext_getElem?
  intro i
  unfold shown
  rw [List.getElem?_mapIdx, List.getElem?_set]
  by_cases e : j = i
  · subst e
    by_cases hj : j < σ.length
    · simp [hj]
    · simp [hj]
  · rw [if_neg e]
    by_cases hi : i < σ.length
    · simp [hi, Ne.symm e, List.getElem?_eq_getElem]
    · simp [hi]
theorem shown2 {σ : Fr} {i j : Nat} : shown ((σ.set j none).set i none) σ [i, j] = σ := by
  apply List.ext_getElem?
  intro k
  unfold shown
  rw [List.getElem?_mapIdx]
  by_cases hk : k < σ.length
  · by_cases e : k = i
    · subst e; simp [hk]
    · by_cases e2 : k = j
      · subst e2; simp [hk, List.getElem?_set, e, Ne.symm e]
      · simp [hk, List.getElem?_set, e, Ne.symm e, e2, Ne.symm e2]
  · simp [hk, Nat.not_lt.mp hk]
theorem mLc_nm {j : Nat} {it : MI} {te : M D} {σ σ1 : Fr} {f : D → D} {ds : List D} (hi : it σ = some (ds, σ1)) (hl : ds.length ≤ LIM) (hj : j < σ1.length) (ht : ∀ d ∈ ds, te (σ1.set j (some (.imm d))) = some (f d, σ1.set j (some (.imm d)))) :
    mLc it (.nm j) mYes te [j] σ = some (.ls false (ds.map f), σ1) := by
  have h0 : (σ1.set j none)[j]? = some none := by rw [List.getElem?_set_self hj]
  have e := lpC_nm (te := te) (f := f) (ds := ds) h0 (by simpa only [List.set_set] using ht)
  have hh : hide σ1 [j] = σ1.set j none := rfl
  unfold mLc
  simp only [hi, if_pos hl, hh, e, shown1]
theorem mLc_tp {i j : Nat} {it : MI} {te : M D} {σ σ1 : Fr} {f : D → D} {ds : List D} (hi : it σ = some (ds, σ1)) (hl : ds.length ≤ LIM) (hij : i ≠ j) (h1 : i < σ1.length) (h2 : j < σ1.length) (ht : ∀ d ∈ ds, ∃ k x y, d = .tup k [x, y] ∧ te ((σ1.set i (some (.imm x))).set j (some (.imm y))) = some (f d, (σ1.set i (some (.imm x))).set j (some (.imm y)))) :
    mLc it (.tp [.nm i, .nm j]) mYes te [i, j] σ = some (.ls false (ds.map f), σ1) := by
  have q0 : ((σ1.set j none).set i none)[i]? = some none := by rw [List.getElem?_set_self (by simpa using h1)]
  have q1 : ((σ1.set j none).set i none)[j]? = some none := by rw [List.getElem?_set_ne hij, List.getElem?_set_self h2]
  have q2 : ∀ x y : Option S, (((σ1.set j none).set i none).set i x).set j y = (σ1.set i x).set j y := fun x y => by
    rw [List.set_set, List.set_comm _ _ (Ne.symm hij), List.set_set]
  have e := lpC_tp (te := te) (f := f) (ds := ds) hij q0 q1 (by simpa only [q2] using ht)
  have hh : hide σ1 [i, j] = (σ1.set j none).set i none := rfl
  unfold mLc
  simp only [hi, if_pos hl, hh, e, shown2]

/-! ### sides and chains as deep values -/
def sd (s : Sd) : D := .tup false (s.map D.int)
def pr (p : Sd × Int) : D := .tup false [sd p.1, .int p.2]
def ds (c : Ch) : List D := c.map pr
def chD (c : Ch) : D := .tup true (ds c)
theorem dict_ds : ∀ c : Ch, dictable (ds c) = true
  | [] => rfl
  | p :: c => by
    show (isPr (pr p) && dictable (ds c)) = true
    rw [dict_ds c]; rfl
theorem sides5 {P : Sd → Prop} (h1 : ∀ a, P [a]) (h2 : ∀ a b, P [a, b]) (h3 : ∀ a b c, P [a, b, c]) (h4 : ∀ a b c d, P [a, b, c, d]) (h5 : ∀ a b c d e, P [a, b, c, d, e]) : ∀ s : Sd, 1 ≤ s.length → s.length ≤ 5 → P s
  | [], h, _ => by simp at h
  | [a], _, _ => h1 a
  | [a, b], _, _ => h2 a b
  | [a, b, c], _, _ => h3 a b c
  | [a, b, c, d], _, _ => h4 a b c d
  | [a, b, c, d, e], _, _ => h5 a b c d e
  | _ :: _ :: _ :: _ :: _ :: _ :: _, _, h => by simp at h
theorem faces_eq (s : Sd) (h : 1 ≤ s.length) (k : s.length ≤ 5) : g_law_faces [sd s] = some (.ls false (ds (faces s))) := by
  refine sides5 (P := fun s => g_law_faces [sd s] = some (.ls false (ds (faces s)))) ?_ ?_ ?_ ?_ ?_ s h k
  · intro a; kernel_rfl
  · intro a b; kernel_rfl
  · intro a b c; kernel_rfl
  · intro a b c d; kernel_rfl
  · intro a b c d e; kernel_rfl
theorem walls_eq (s : Sd) (h : 1 ≤ s.length) (k : s.length ≤ 5) : g_walls_of [sd s] = some (.ls false ((faces s).map fun p => sd p.1)) := by
  refine sides5 (P := fun s => g_walls_of [sd s] = some (.ls false ((faces s).map fun p => sd p.1))) ?_ ?_ ?_ ?_ ?_ s h k
  · intro a; kernel_rfl
  · intro a b; kernel_rfl
  · intro a b c; kernel_rfl
  · intro a b c d; kernel_rfl
  · intro a b c d e; kernel_rfl
/-- the parts of a side, in the order of the text -/
def partsL (s : Sd) : List Sd := (s.foldl (fun (f : List Sd) a => f ++ f.map fun p => p ++ [a]) [[]]).filter fun p => !p.isEmpty
theorem parts_eq (s : Sd) (h : 1 ≤ s.length) (k : s.length ≤ 5) : g_parts_of [sd s] = some (.ls false ((partsL s).map sd)) := by
  refine sides5 (P := fun s => g_parts_of [sd s] = some (.ls false ((partsL s).map sd))) ?_ ?_ ?_ ?_ ?_ s h k
  · intro a; kernel_rfl
  · intro a b; kernel_rfl
  · intro a b c; kernel_rfl
  · intro a b c d; kernel_rfl
  · intro a b c d e; kernel_rfl
end Qk
end

section
set_option Elab.async false
set_option linter.all false
set_option maxRecDepth 100000
/-! Ra: sublists, parts, walls, closed families: the mathematics. -/
namespace Qk
open PySem PySem.Spec L2 Ev Wk
set_option autoImplicit false
theorem nodup_le {α : Type} [DecidableEq α] : ∀ {l m : List α}, l.Nodup → (∀ x ∈ l, x ∈ m) → l.length ≤ m.length
  | [], _, _, _ => Nat.zero_le _
  | x :: l, m, h, k => by
    obtain ⟨h1, h2⟩ := List.nodup_cons.mp h
    have hx := k x List.mem_cons_self
    have ih := nodup_le (l := l) (m := m.erase x) h2 fun y hy => by
      have ne : y ≠ x := fun e => h1 (e ▸ hy)
      exact (List.mem_erase_of_ne ne).mpr (k y (List.mem_cons_of_mem _ hy))
    rw [List.length_erase_of_mem hx] at ih
    have : 0 < m.length := List.length_pos_of_mem hx
    simp only [List.length_cons]; omega
/-! ### parts -/
theorem mem_fold (s : Sd) : ∀ (acc : List Sd) (p : Sd), p ∈ s.foldl (fun (f : List Sd) a => f ++ f.map fun p => p ++ [a]) acc ↔ ∃ q ∈ acc, ∃ r : Sd, List.Sublist r s ∧ p = q ++ r := by
  induction s with
  | nil =>
    intro acc p
    constructor
    · intro h; exact ⟨p, h, [], .slnil, by simp⟩
    · rintro ⟨q, hq, r, hr, rfl⟩
      rw [List.sublist_nil.mp hr]; simpa using hq
  | cons a s ih =>
    intro acc p
    rw [List.foldl_cons, ih]
    constructor
    · rintro ⟨q, hq, r, hr, rfl⟩
      rcases List.mem_append.mp hq with h | h
      · exact ⟨q, h, r, .cons a hr, rfl⟩
      · obtain ⟨q', hq', rfl⟩ := List.mem_map.mp h
        exact ⟨q', hq', a :: r, hr.cons_cons a, by simp⟩
    · rintro ⟨q, hq, r, hr, rfl⟩
      cases hr with
      | cons _ h => exact ⟨q, List.mem_append_left _ hq, r, h, rfl⟩
      | cons_cons _ h => 
        rename_i r'
        exact ⟨q ++ [a], List.mem_append_right _ (List.mem_map.mpr ⟨q, hq, rfl⟩), r', h, by simp⟩
theorem mem_parts {s p : Sd} : p ∈ partsL s ↔ List.Sublist p s ∧ p ≠ [] := by
  unfold partsL
  rw [List.mem_filter, mem_fold]
  constructor
  · rintro ⟨⟨q, hq, r, hr, rfl⟩, h⟩
    rw [List.mem_singleton.mp hq] at h ⊢
    exact ⟨by simpa using hr, by simpa using h⟩
  · rintro ⟨h1, h2⟩
    exact ⟨⟨[], List.mem_singleton_self _, p, h1, by simp⟩, by simp [h2]⟩
theorem fold_len (s : Sd) : ∀ (acc : List Sd), (s.foldl (fun (f : List Sd) a => f ++ f.map fun p => p ++ [a]) acc).length = 2 ^ s.length * acc.length := by
  induction s with
  | nil => intro acc; simp
  | cons a s ih =>
    intro acc
    rw [List.foldl_cons, ih, List.length_append, List.length_map, List.length_cons, Nat.pow_succ, Nat.mul_assoc]
    congr 1; omega
theorem parts_len (s : Sd) : (partsL s).length ≤ 2 ^ s.length := by
  unfold partsL
  refine Nat.le_trans (List.length_filter_le _ _) ?_
  rw [fold_len]; simp
/-! ### walls -/
theorem mem_drops : ∀ {s f : Sd}, f ∈ (drops s).map (·.1) ↔ List.Sublist f s ∧ f.length + 1 = s.length
  | [], f => by simp [drops]
  | a :: l, f => by
    show f ∈ l :: ((drops l).map fun p => (a :: p.1, -p.2)).map (·.1) ↔ _
    rw [List.mem_cons, List.map_map]
    constructor
    · rintro (rfl | h)
      · exact ⟨List.sublist_cons_self _ _, rfl⟩
      · obtain ⟨p, hp, rfl⟩ := List.mem_map.mp h
        obtain ⟨h1, h2⟩ := mem_drops.mp (List.mem_map.mpr ⟨p, hp, rfl⟩)
        exact ⟨h1.cons_cons a, by simp [h2]⟩
    · rintro ⟨h1, h2⟩
      cases h1 with
      | cons _ h => exact .inl (h.eq_of_length (by simpa using h2))
      | cons_cons _ h =>
        rename_i g
        obtain ⟨p, hp, e⟩ := List.mem_map.mp (mem_drops.mpr ⟨h, by simpa using h2⟩)
        exact .inr (List.mem_map.mpr ⟨p, hp, by rw [← e]; rfl⟩)
/-- the walls of a side -/
def wallsL (s : Sd) : List Sd := (faces s).map (·.1)
theorem mem_walls {s f : Sd} : f ∈ wallsL s ↔ List.Sublist f s ∧ f.length + 1 = s.length ∧ f ≠ [] := by
  unfold wallsL faces
  split
  · rename_i h
    constructor
    · intro m; cases m
    · rintro ⟨_, h2, h3⟩
      exact absurd (List.length_eq_zero_iff.mp (by omega)) h3
  · rename_i h
    rw [mem_drops]
    constructor
    · rintro ⟨h1, h2⟩
      exact ⟨h1, h2, fun e => by rw [e] at h2; simp at h2; omega⟩
    · rintro ⟨h1, h2, _⟩; exact ⟨h1, h2⟩
theorem sub_below {r s : Sd} (h : List.Sublist r s) : r.length < s.length → ∃ f, List.Sublist r f ∧ List.Sublist f s ∧ f.length + 1 = s.length := by
  induction h with
  | slnil => intro h; simp at h
  | cons a h _ => intro _; exact ⟨_, h, List.sublist_cons_self _ _, rfl⟩
  | cons_cons a h ih =>
    intro hl
    obtain ⟨f, h1, h2, h3⟩ := ih (by simpa using hl)
    exact ⟨a :: f, h1.cons_cons a, h2.cons_cons a, by simp [h3]⟩
theorem sub_above {r s : Sd} (h : List.Sublist r s) : r.length < s.length → ∃ f, List.Sublist r f ∧ List.Sublist f s ∧ f.length = r.length + 1 := by
  induction h with
  | slnil => intro h; simp at h
  | @cons l1 l2 a h ih =>
    intro hl
    by_cases e : l1.length < l2.length
    · obtain ⟨f, h1, h2, h3⟩ := ih e
      exact ⟨f, h1, h2.cons a, h3⟩
    · have : l1 = l2 := h.eq_of_length (by have := h.length_le; omega)
      subst this
      exact ⟨a :: l1, List.sublist_cons_self _ _, List.Sublist.refl _, rfl⟩
  | cons_cons a h ih =>
    intro hl
    obtain ⟨f, h1, h2, h3⟩ := ih (by simpa using hl)
    exact ⟨a :: f, h1.cons_cons a, h2.cons_cons a, by simp [h3]⟩
/-- walls of members are members -/
def Clo (W : List Sd) : Prop := ∀ s ∈ W, ∀ f ∈ wallsL s, f ∈ W
theorem Clo.down {W : List Sd} (h : Clo W) : ∀ (n : Nat) {s r : Sd}, s ∈ W → List.Sublist r s → r ≠ [] → s.length = r.length + n → r ∈ W
  | 0, s, r, hs, hr, _, hl => by rw [hr.eq_of_length hl.symm]; exact hs
  | n + 1, s, r, hs, hr, ne, hl => by
    obtain ⟨f, h1, h2, h3⟩ := sub_below hr (by omega)
    have fne : f ≠ [] := fun e => by subst e; exact ne (List.sublist_nil.mp h1)
    exact h.down n (h s hs f (mem_walls.mpr ⟨h2, h3, fne⟩)) h1 ne (by omega)
theorem Clo.sub {W : List Sd} (h : Clo W) {s r : Sd} (hs : s ∈ W) (hr : List.Sublist r s) (ne : r ≠ []) : r ∈ W :=
  h.down (s.length - r.length) hs hr ne (by have := hr.length_le; omega)
/-! ### ascending rows -/
abbrev Asc (s : Sd) : Prop := s.Pairwise (· < ·)
theorem asc_sub : ∀ {cs l : Sd}, Asc cs → Asc l → (∀ x ∈ l, x ∈ cs) → List.Sublist l cs
  | cs, [], _, _, _ => List.nil_sublist _
  | [], x :: l, _, _, h => by have := h x List.mem_cons_self; cases this
  | c :: cs, x :: l, hc, hl, h => by
    obtain ⟨c1, c2⟩ := List.pairwise_cons.mp hc
    obtain ⟨l1, l2⟩ := List.pairwise_cons.mp hl
    by_cases e : x = c
    · subst e
      refine List.Sublist.cons_cons x (asc_sub c2 l2 fun y hy => ?_)
      rcases List.mem_cons.mp (h y (List.mem_cons_of_mem _ hy)) with z | z
      · have := l1 y hy; omega
      · exact z
    · refine List.Sublist.cons c (asc_sub c2 hl fun y hy => ?_)
      rcases List.mem_cons.mp (h y hy) with z | z
      · have hx : c < x := by
          rcases List.mem_cons.mp (h x List.mem_cons_self) with q | q
          · exact absurd q e
          · exact c1 x q
        rcases List.mem_cons.mp hy with q | q
        · omega
        · have := l1 y q; omega
      · exact z
/-! ### families of tops -/
/-- the tops of a web -/
structure Tops (cs : Sd) (ts : List Sd) : Prop where
  asc : Asc cs
  few : cs.length ≤ 7
  lo : ∀ c ∈ cs, 0 ≤ c ∧ c ≤ 999
  sub : ∀ t ∈ ts, List.Sublist t cs ∧ t ≠ [] ∧ t.length ≤ 5
  srt : ts.Pairwise lt
  anti : ∀ t ∈ ts, ∀ u ∈ ts, List.Sublist t u → t = u
/-- the parts of some tops -/
def Under (ts : List Sd) (s : Sd) : Prop := s ≠ [] ∧ ∃ t ∈ ts, List.Sublist s t
end Qk
end

section
set_option Elab.async false
set_option linter.all false
set_option maxRecDepth 100000
/-! Qd: dicts of sides, sorting, chain_of, put_to. -/
namespace Qk
open PySem PySem.Spec L2 Ev Wk
set_option autoImplicit false
/-! ### slots -/
def okS (x : Option Ev.S) : Bool := match x with
  | some s => !s.io
  | none => true
theorem okSet_at {σ : Fr} {i : Nat} {x : Option Ev.S} (h : σ[i]? = some x) (k : okS x = true) : okSet σ i = true := by
  unfold okSet
  rw [h]
  have := (List.getElem?_eq_some_iff.mp h).1
  cases x with
  | none => simp [this]
  | some s => simp [this]; simpa [okS] using k
theorem put_nm {σ : Fr} {i : Nat} {x : Option Ev.S} {d : D} (h : σ[i]? = some x) (k : okS x = true) : Tg.put (.nm i) d σ = some (σ.set i (some (.imm d))) := by
  show (if okSet σ i = true then some (σ.set i (some (.imm d))) else none) = _
  rw [if_pos (okSet_at h k)]
theorem put_tp {σ : Fr} {i j : Nat} {x y : Option Ev.S} {kk : Bool} {d e : D} (hij : i ≠ j) (h : σ[i]? = some x) (k : okS x = true) (h2 : σ[j]? = some y) (k2 : okS y = true) :
    Tg.put (.tp [.nm i, .nm j]) (.tup kk [d, e]) σ = some ((σ.set i (some (.imm d))).set j (some (.imm e))) := by
  have e1 := put_nm (d := d) h k
  have e2 : Tg.put (.nm j) e (σ.set i (some (.imm d))) = some ((σ.set i (some (.imm d))).set j (some (.imm e))) := put_nm (by rw [List.getElem?_set_ne hij]; exact h2) k2
  simp only [Tg.put, Tg.puts] at e1 e2 ⊢
  rw [e1]
  dsimp only
  rw [e2]
theorem lpF_nx {T : Tg} {b : M Fl} {d : D} {l : List D} {σ σ1 σ2 : Fr} (h1 : T.put d σ = some σ1) (h2 : b σ1 = some (.nx, σ2)) : lpF T b (d :: l) σ = lpF T b l σ2 := by
  show (match T.put d σ with | some σ1 => _ | none => _) = _
  rw [h1]; dsimp only; rw [h2]
theorem lpF_rt {T : Tg} {b : M Fl} {d : D} {l : List D} {σ σ1 σ2 : Fr} {s : Ev.S} (h1 : T.put d σ = some σ1) (h2 : b σ1 = some (.rt s, σ2)) : lpF T b (d :: l) σ = some (.rt s, σ2) := by
  show (match T.put d σ with | some σ1 => _ | none => _) = _
  rw [h1]; dsimp only; rw [h2]
/-! ### operators -/
theorem vw_go {σ : Fr} {i : Nat} {d : D} (h : vw σ i = some d) : A.go (.pk i) σ = some (.non, σ) := by
  unfold vw at h
  split at h
  · rename_i s e
    show (match σ[i]? with | some (some _) => some (D.non, σ) | _ => none) = _
    rw [e]
  · cases h
section
variable {f : D → D → Option Ev.S} {g : D → Option Ev.S} {a b : M D} {σ σ1 σ2 : Fr} {d e : D} {s : Ev.S} {i j : Nat}
theorem m2_vv (h1 : a σ = some (d, σ1)) (h2 : b σ1 = some (e, σ2)) (h3 : f d e = some s) : m2 f (.val a) (.val b) σ = some (s, σ2) := by
  unfold m2 A.two
  simp only [A.go, A.fin, h1, h2, h3]
theorem m2_pp (h1 : vw σ i = some d) (h2 : vw σ j = some e) (h3 : f d e = some s) : m2 f (.pk i) (.pk j) σ = some (s, σ) := by
  unfold m2 A.two
  simp only [vw_go h1, vw_go h2, A.fin, h1, h2, h3]
theorem m2_pv {d0 : D} (h0 : vw σ i = some d0) (h2 : b σ = some (e, σ1)) (h1 : vw σ1 i = some d) (h3 : f d e = some s) : m2 f (.pk i) (.val b) σ = some (s, σ1) := by
  unfold m2 A.two
  rw [vw_go h0]
  simp only [A.go, A.fin, h2, h1, h3]
theorem m2_vp (h1 : a σ = some (d, σ1)) (h2 : vw σ1 j = some e) (h3 : f d e = some s) : m2 f (.val a) (.pk j) σ = some (s, σ1) := by
  unfold m2 A.two
  simp only [show A.go (.val a) σ = a σ from rfl, h1, vw_go h2, A.fin, h2, h3]
theorem m1_v (h1 : a σ = some (d, σ1)) (h3 : g d = some s) : m1 g (.val a) σ = some (s, σ1) := by
  unfold m1 A.one
  simp only [A.go, A.fin, h1, h3]
theorem m1_p (h1 : vw σ i = some d) (h3 : g d = some s) : m1 g (.pk i) σ = some (s, σ) := by
  unfold m1 A.one
  simp only [vw_go h1, A.fin, h1, h3]
theorem mT_eq {m : M Ev.S} {b : Bool} (h : m σ = some (.imm (.bl b), σ1)) : mT m σ = some (b, σ1) := by unfold mT; rw [h]
theorem tru_v {b : Bool} {a : M D} (h1 : a σ = some (.bl b, σ1)) : mTru (.val a) σ = some (b, σ1) := by
  unfold mTru A.one
  simp only [A.go, A.fin, h1]; rfl
theorem not_eq {t : M Bool} {b : Bool} (h : t σ = some (b, σ1)) : bNot t σ = some (!b, σ1) := by unfold bNot; rw [h]
theorem orT {t u : M Bool} (h : t σ = some (true, σ1)) : bOr t u σ = some (true, σ1) := by unfold bOr; rw [h]
theorem orF {t u : M Bool} (h : t σ = some (false, σ1)) : bOr t u σ = u σ1 := by unfold bOr; rw [h]
theorem andT {t u : M Bool} (h : t σ = some (true, σ1)) : bAnd t u σ = u σ1 := by unfold bAnd; rw [h]
theorem andF {t u : M Bool} (h : t σ = some (false, σ1)) : bAnd t u σ = some (false, σ1) := by unfold bAnd; rw [h]
theorem mL_nil : mL [] σ = some ([], σ) := rfl
theorem mL_cons {ms : List (M D)} {l : List D} (h : a σ = some (d, σ1)) (k : mL ms σ1 = some (l, σ2)) : mL (a :: ms) σ = some (d :: l, σ2) := by
  show (match a σ with | some (d, σ1) => _ | none => _) = _
  rw [h]; dsimp only; rw [k]
end
theorem tup_eq {ms : List (M D)} {l : List D} {σ σ1 : Fr} (h : mL ms σ = some (l, σ1)) (hl : l.length ≤ LIM) : mTup ms σ = some (.imm (.tup (dictable l) l), σ1) := by
  unfold mTup; rw [h]; show (if l.length ≤ LIM then _ else _) = _; rw [if_pos hl]
theorem lst_eq {ms : List (M D)} {l : List D} {σ σ1 : Fr} (h : mL ms σ = some (l, σ1)) (hl : l.length ≤ LIM) : mLst ms σ = some (.ls false l, σ1) := by
  unfold mLst; rw [h]; show (if l.length ≤ LIM then _ else _) = _; rw [if_pos hl]
theorem dict_pr (d : D) (w : Int) : dictable [d, .int w] = false := by simp [dictable, isPr]
/-- (side, worth) -/
theorem pr_eq {a b : M D} {σ σ1 σ2 : Fr} {s : Sd} {w : Int} (h : a σ = some (sd s, σ1)) (k : b σ1 = some (.int w, σ2)) : mFz (mTup [a, b]) σ = some (pr (s, w), σ2) := by
  have e := fz_eq (tup_eq (mL_cons h (mL_cons k mL_nil)) (show 2 ≤ LIM by decide))
  rw [dict_pr] at e
  exact e
/-! ### keys -/
theorem eqvs_ints : ∀ a b : Sd, D.eqvs (a.map D.int) (b.map D.int) = decide (a = b)
  | [], [] => rfl
  | [], _ :: _ => by simp [D.eqvs]
  | _ :: _, [] => by simp [D.eqvs]
  | x :: a, y :: b => by
    simp only [List.map_cons, D.eqvs, D.eqv, eqvs_ints a b]
    by_cases h : x = y
    · subst h; simp
    · simp [h]
theorem eqv_sd (a b : Sd) : D.eqv (sd a) (sd b) = decide (a = b) := eqvs_ints a b
theorem sd_inj {a b : Sd} (h : sd a = sd b) : a = b := by
  have := eqv_sd a b
  rw [h, eqv_sd b b] at this
  simpa using this
theorem pls_i (s : Sd) : D.pls (s.map D.int) = true := (pls_ints s).1
theorem sd_sh (s : Sd) : (sd s).sh = true := by
  unfold D.sh sd
  simp only [D.pl, D.dp, pls_i, (pls_ints s).2]
  rfl
theorem keyOk_sd (s : Sd) : keyOk true (sd s) = true := by
  show ((s.map D.int).all D.isK) = true
  rw [List.all_eq_true]
  intro d hd
  obtain ⟨i, _, rfl⟩ := List.mem_map.mp hd
  rfl
/-! ### dicts -/
def dE (l : Ch) : List (D × D) := l.map fun p => (sd p.1, .int p.2)
def AL (l : Ch) : Prop := (l.map (·.1)).Nodup
def cPut (l : Ch) (s : Sd) (w : Int) : Ch := if s ∈ l.map (·.1) then l.map (fun p => if p.1 = s then (s, w) else p) else l ++ [(s, w)]
theorem dHas_dE (l : Ch) (s : Sd) : dHas (dE l) (sd s) = decide (s ∈ l.map (·.1)) := by
  unfold dHas dE
  rw [List.any_map]
  induction l with
  | nil => rfl
  | cons p l ih =>
    rw [List.any_cons, ih]
    show (D.eqv (sd p.1) (sd s) || _) = _
    rw [eqv_sd]
    by_cases h : p.1 = s
    · simp [h]
    · simp [h]
      intro e; exact absurd e.symm h
theorem dPut_dE (l : Ch) (s : Sd) (w : Int) : dPut (dE l) (sd s) (.int w) = dE (cPut l s w) := by
  unfold dPut cPut
  rw [dHas_dE]
  by_cases h : s ∈ l.map (·.1)
  · rw [decide_eq_true h, if_pos rfl, if_pos h]
    unfold dE
    rw [List.map_map, List.map_map]
    refine List.map_congr_left fun p _ => ?_
    show (if D.eqv (sd p.1) (sd s) = true then (sd p.1, D.int w) else (sd p.1, D.int p.2)) = _
    rw [eqv_sd]
    by_cases e : p.1 = s
    · simp [e]
    · simp [e]
  · rw [decide_eq_false h, if_neg (by simp), if_neg h]
    unfold dE
    rw [List.map_append]; rfl
theorem dLook_dE {l : Ch} (h : AL l) {s : Sd} : dLook (dE l) (sd s) = if s ∈ l.map (·.1) then some (.int (tot l s)) else none := by
  unfold dLook dE
  rw [List.find?_map]
  induction l with
  | nil => rfl
  | cons p l ih =>
    obtain ⟨h1, h2⟩ := List.nodup_cons.mp (show (p.1 :: l.map (·.1)).Nodup from h)
    rw [List.find?_cons]
    show (Option.map _ (match D.eqv (sd p.1) (sd s) with | true => some p | false => _)).map _ = _
    rw [eqv_sd]
    by_cases e : p.1 = s
    · rw [decide_eq_true e]
      subst e
      rw [if_pos (show p.1 ∈ (p :: l).map (·.1) from List.mem_cons_self ..)]
      show some (D.int p.2) = some (D.int (tot (p :: l) p.1))
      rw [tot, if_pos rfl, tot_none fun q hq e => h1 (List.mem_map.mpr ⟨q, hq, e⟩), Int.add_zero]
    · rw [decide_eq_false e]
      have := ih h2
      rw [tot, if_neg e, Int.zero_add]
      refine Eq.trans this ?_
      by_cases m : s ∈ l.map (·.1)
      · rw [if_pos m, if_pos (show s ∈ (p :: l).map (·.1) from List.mem_cons_of_mem _ m)]
      · rw [if_neg m, if_neg (show ¬ s ∈ (p :: l).map (·.1) from fun z => (List.mem_cons.mp z).elim (fun q => e q.symm) m)]
theorem cPut_keys (l : Ch) (s : Sd) (w : Int) : (cPut l s w).map (·.1) = if s ∈ l.map (·.1) then l.map (·.1) else l.map (·.1) ++ [s] := by
  unfold cPut
  split
  · rw [List.map_map]
    refine List.map_congr_left fun p _ => ?_
    show (if p.1 = s then (s, w) else p).1 = p.1
    split
    · rename_i e; exact e.symm
    · rfl
  · rw [List.map_append]; rfl
theorem cPut_AL {l : Ch} (h : AL l) (s : Sd) (w : Int) : AL (cPut l s w) := by
  unfold AL at *
  rw [cPut_keys]
  split
  · exact h
  · rename_i hn
    rw [List.nodup_append]
    exact ⟨h, by simp, fun a ha b hb => by
      rw [List.mem_singleton] at hb
      subst hb
      exact fun e => hn (e ▸ ha)⟩
theorem cPut_len (l : Ch) (s : Sd) (w : Int) : (cPut l s w).length ≤ l.length + 1 := by
  unfold cPut; split <;> simp
theorem tot_cPut {l : Ch} (h : AL l) (s : Sd) (w : Int) (t : Sd) : tot (cPut l s w) t = if t = s then w else tot l t := by
  unfold cPut
  split
  · rename_i m
    have no : ∀ l : Ch, s ∉ l.map (·.1) → l.map (fun p => if p.1 = s then (s, w) else p) = l := fun l h => by
      conv => rhs; rw [← List.map_id l]
      refine List.map_congr_left fun p hp => ?_
      rw [if_neg fun e => h (List.mem_map.mpr ⟨p, hp, e⟩)]; rfl
    induction l with
    | nil => simp at m
    | cons p l ih =>
      obtain ⟨h1, h2⟩ := List.nodup_cons.mp (show (p.1 :: l.map (·.1)).Nodup from h)
      rw [List.map_cons, tot, tot]
      by_cases e : p.1 = s
      · subst e
        rw [if_pos rfl, no l h1]
        by_cases et : t = p.1
        · subst et
          rw [if_pos rfl, if_pos rfl, tot_none fun q hq e => h1 (List.mem_map.mpr ⟨q, hq, e⟩)]; simp
        · have e2 : ¬ p.1 = t := fun z => et z.symm
          rw [if_neg et, if_neg e2, if_neg e2]
      · have m' : s ∈ l.map (·.1) := (List.mem_cons.mp m).resolve_left fun z => e z.symm
        rw [if_neg e, ih h2 m']
        by_cases et : t = s
        · subst et
          rw [if_pos rfl, if_pos rfl, if_neg e]; simp
        · rw [if_neg et, if_neg et]
  · rename_i m
    rw [tot_append]
    by_cases et : t = s
    · subst et
      rw [if_pos rfl, tot_none fun q hq e => m (List.mem_map.mpr ⟨q, hq, e⟩)]
      simp [tot]
    · rw [if_neg et]
      have : ¬ s = t := fun z => et z.symm
      simp [tot, this]
/-! ### sorting -/
def sle (a b : Sd) : Bool := !HT.lexLt b a
theorem ints_sd : ∀ s : Sd, D.ints (s.map D.int) = some s
  | [] => rfl
  | x :: s => by simp [D.ints, ints_sd s]
theorem dLe_sd (a b : Sd) : dLe (sd a) (sd b) = sle a b := by
  unfold dLe sd
  simp only [ints_sd]
  rfl
theorem insB_map {α β : Type} {le : α → α → Bool} {le' : β → β → Bool} {f : α → β} (h : ∀ a b, le' (f a) (f b) = le a b) (a : α) : ∀ l : List α, insB le' (f a) (l.map f) = (insB le a l).map f
  | [] => rfl
  | b :: l => by
    simp only [List.map_cons, insB, h]
    split
    · rfl
    · rw [insB_map h a l]; rfl
theorem iSort_map {α β : Type} {le : α → α → Bool} {le' : β → β → Bool} {f : α → β} (h : ∀ a b, le' (f a) (f b) = le a b) : ∀ l : List α, iSort le' (l.map f) = (iSort le l).map f
  | [] => rfl
  | a :: l => by
    show insB le' (f a) (iSort le' (l.map f)) = (insB le a (iSort le l)).map f
    rw [iSort_map h l, insB_map h]
theorem iSort_mem {α : Type} {le : α → α → Bool} {x : α} : ∀ {l : List α}, x ∈ iSort le l ↔ x ∈ l
  | [] => Iff.rfl
  | a :: l => by
    show x ∈ insB le a (iSort le l) ↔ _
    rw [insB_mem, iSort_mem (l := l), List.mem_cons]
theorem sle_iff {a b : Sd} : sle a b = true ↔ ¬ lt b a := by unfold sle lt; simp
theorem insB_pw' {a : Sd} : ∀ {l : List Sd}, l.Pairwise lt → a ∉ l → (insB sle a l).Pairwise lt
  | [], _, _ => List.pairwise_singleton _ _
  | b :: l, h, hn => by
    obtain ⟨h1, h2⟩ := List.pairwise_cons.mp h
    have hab : a ≠ b := fun e => hn (e ▸ List.mem_cons_self)
    unfold insB
    split
    · rename_i c
      have l1 : lt a b := by
        rcases lt_tri a b with z | z | z
        · exact z
        · exact absurd z hab
        · exact absurd z (sle_iff.mp c)
      refine List.pairwise_cons.mpr ⟨fun x hx => ?_, h⟩
      rcases List.mem_cons.mp hx with rfl | hx
      · exact l1
      · exact lt_trans l1 (h1 x hx)
    · rename_i c
      have l1 : lt b a := by
        rcases lt_tri a b with z | z | z
        · exact absurd (sle_iff.mpr fun k => lt_asymm z k) c
        · exact absurd z hab
        · exact z
      refine List.pairwise_cons.mpr ⟨fun x hx => ?_, insB_pw' h2 fun m => hn (List.mem_cons_of_mem _ m)⟩
      rcases insB_mem.mp hx with rfl | hx
      · exact l1
      · exact h1 x hx
theorem iSort_pw : ∀ {l : List Sd}, l.Nodup → (iSort sle l).Pairwise lt
  | [], _ => List.Pairwise.nil
  | a :: l, h => by
    obtain ⟨h1, h2⟩ := List.nodup_cons.mp h
    exact insB_pw' (iSort_pw h2) fun m => h1 (iSort_mem.mp m)
theorem pw_nodup {l : List Sd} (h : l.Pairwise lt) : l.Nodup := h.imp fun k e => by subst e; exact lt_irrefl _ k
theorem isIT_sd {s : Sd} (h : s ≠ []) : (sd s).isIT = true := by
  show ((D.ints (s.map D.int)).isSome && !(s.map D.int).isEmpty) = true
  rw [ints_sd]
  cases s with
  | nil => exact absurd rfl h
  | cons x s => rfl
theorem okSort_sds {S : List Sd} (hl : S.length ≤ LIM) (h : ∀ s ∈ S, s ≠ []) : okSort (S.map sd) = true := by
  unfold okSort
  rw [List.length_map, decide_eq_true hl]
  have : (S.map sd).all D.isIT = true := by
    rw [List.all_eq_true]
    intro d hd
    obtain ⟨s, hs, rfl⟩ := List.mem_map.mp hd
    exact isIT_sd (h s hs)
  rw [this]; simp
theorem pls_sds : ∀ S : List Sd, D.pls (S.map sd) = true
  | [] => rfl
  | s :: S => by
    show ((sd s).pl && D.pls (S.map sd)) = true
    rw [pls_sds S, show (sd s).pl = true from pls_i s]; rfl
theorem sort_sds {S : List Sd} (hl : S.length ≤ LIM) (h : ∀ s ∈ S, s ≠ []) : fSort (.lst (S.map sd)) = some (.ls false ((iSort sle S).map sd)) := by
  show (if okSort (S.map sd) = true then some (Ev.S.ls false (iSort dLe (S.map sd))) else none) = _
  rw [if_pos (okSort_sds hl h), iSort_map dLe_sd]
theorem sort_dE {t : Bool} {l : Ch} (hl : l.length ≤ LIM) (h : ∀ p ∈ l, p.1 ≠ []) : fSort (.dct t (dE l)) = some (.ls false ((iSort sle (l.map (·.1))).map sd)) := by
  have e : (dE l).map (·.1) = (l.map (·.1)).map sd := by unfold dE; rw [List.map_map, List.map_map]; rfl
  have h' : ∀ s ∈ l.map (·.1), s ≠ [] := fun s hs => by obtain ⟨p, hp, rfl⟩ := List.mem_map.mp hs; exact h p hp
  have k : (okSort ((dE l).map (·.1)) && D.pls ((dE l).map (·.1))) = true := by
    rw [e, okSort_sds (by rw [List.length_map]; exact hl) h', pls_sds]; rfl
  show (if (okSort ((dE l).map (·.1)) && D.pls ((dE l).map (·.1))) = true then some (Ev.S.ls false (iSort dLe ((dE l).map (·.1)))) else none) = _
  rw [if_pos k, e, iSort_map dLe_sd]
end Qk
end

section
set_option Elab.async false
set_option linter.all false
set_option maxRecDepth 100000
/-! Qf: sum_of, scaled, border_of. -/
namespace Qk
open PySem PySem.Spec L2 Ev Wk
set_option autoImplicit false
theorem callI_eq {i n : Nat} {g : Ev.S → List D → Option (Ev.S × Ev.S)} {ms : List (M D)} {σ σ1 : Fr} {ds : List D} {s00 s0 s s1 : Ev.S} (h0 : σ[i]? = some (some s00)) (h : mL ms σ = some (ds, σ1)) (h1 : σ1[i]? = some (some s0)) (ow : s0.own = true) (hl : ds.length + 1 = n) (hg : g s0 ds = some (s, s1)) :
    mCallI i n g ms σ = some (s, σ1.set i (some (s1.setIo s0.io))) := by
  unfold mCallI
  rw [h0]; dsimp only; rw [h]; dsimp only; rw [h1]; dsimp only
  rw [ow, decide_eq_true hl, hg]; rfl
theorem drops_length : ∀ s : Sd, (drops s).length = s.length
  | [] => rfl
  | a :: l => by simp [drops, drops_length l]
theorem faces_len (s : Sd) : (faces s).length ≤ s.length := by
  unfold faces; split
  · simp
  · rw [drops_length]; exact Nat.le_refl _
theorem faces_mem {s : Sd} {p : Sd × Int} (h : p ∈ faces s) : p ∈ drops s ∧ s.length ≠ 1 := by
  unfold faces at h
  split at h
  · cases h
  · rename_i n; exact ⟨h, n⟩
theorem lpC_if {j : Nat} {tt : M Bool} {te : M D} {σ : Fr} {f : D → D} {p : D → Bool} (h0 : σ[j]? = some none) : ∀ {l : List D}, (∀ d ∈ l, tt (σ.set j (some (.imm d))) = some (p d, σ.set j (some (.imm d))) ∧ (p d = true → te (σ.set j (some (.imm d))) = some (f d, σ.set j (some (.imm d))))) →
    lpC (.nm j) tt te [j] l σ = some ((l.filter p).map f, σ)
  | [], _ => rfl
  | d :: l, ht => by
    have hj : j < σ.length := (List.getElem?_eq_some_iff.mp h0).1
    have ho : okSet σ j = true := by unfold okSet; rw [h0]; simp [hj]
    have hh : hide (σ.set j (some (.imm d))) [j] = σ := by
      show (σ.set j (some (.imm d))).set j none = σ
      rw [List.set_set]; exact set_same h0
    obtain ⟨t1, t2⟩ := ht d (List.mem_cons_self ..)
    have ih := lpC_if h0 (fun e he => ht e (List.mem_cons_of_mem _ he))
    cases hp : p d with
    | true =>
      rw [hp] at t1
      simp only [lpC, Tg.put, ho, if_true, t1, t2 hp, hh, ih, List.filter_cons, hp, List.map_cons]
    | false =>
      rw [hp] at t1
      simp only [lpC, Tg.put, ho, if_true, t1, hh, ih, List.filter_cons, hp, Bool.false_eq_true, if_false]
theorem mLc_if {j : Nat} {it : MI} {tt : M Bool} {te : M D} {σ σ1 : Fr} {f : D → D} {p : D → Bool} {l : List D} (hi : it σ = some (l, σ1)) (hl : l.length ≤ LIM) (hj : j < σ1.length)
    (ht : ∀ d ∈ l, tt (σ1.set j (some (.imm d))) = some (p d, σ1.set j (some (.imm d))) ∧ (p d = true → te (σ1.set j (some (.imm d))) = some (f d, σ1.set j (some (.imm d))))) :
    mLc it (.nm j) tt te [j] σ = some (.ls false ((l.filter p).map f), σ1) := by
  have h0 : (σ1.set j none)[j]? = some none := by rw [List.getElem?_set_self hj]
  have e := lpC_if (tt := tt) (te := te) (f := f) (p := p) (l := l) h0 (by simpa only [List.set_set] using ht)
  have hh : hide σ1 [j] = σ1.set j none := rfl
  unfold mLc
  rw [hi]
  show (if l.length ≤ LIM then _ else _) = _
  rw [if_pos hl, hh, e]
  show some (Ev.S.ls false _, shown (σ1.set j none) σ1 [j]) = _
  rw [shown1]
/-! ### the last one -/
theorem atI_last {α : Type} (l : List α) (d : α) : atI (l ++ [d]) (-1) = some d := by
  unfold atI ixN
  rw [if_neg (by decide), if_pos (by rw [List.length_append, List.length_singleton]; omega)]
  show (l ++ [d])[((-1 : Int) + ((l ++ [d]).length : Int)).toNat]? = _
  rw [show ((-1 : Int) + ((l ++ [d]).length : Int)).toNat = l.length by rw [List.length_append, List.length_singleton]; omega]
  simp
theorem ixN_last {α : Type} (l : List α) (d : α) : ixN (l ++ [d]).length (-1) = some l.length := by
  unfold ixN
  rw [if_neg (by decide), if_pos (by rw [List.length_append, List.length_singleton]; omega)]
  rw [show ((-1 : Int) + ((l ++ [d]).length : Int)).toNat = l.length by rw [List.length_append, List.length_singleton]; omega]
/-! ### sorted pairs -/
theorem ds_length (c : Ch) : (ds c).length = c.length := List.length_map ..
end Qk
end

section
set_option Elab.async false
set_option linter.all false
set_option maxRecDepth 100000
/-! Rb: _law_sides. -/
namespace Qk
open PySem PySem.Spec L2 Ev Wk
set_option autoImplicit false
/-! ### own lists -/
theorem app_eq {i : Nat} {m : M D} {σ σ1 : Fr} {d : D} {io io2 : Bool} {l0 l : List D} (h0 : σ[i]? = some (some (.ls io2 l0))) (h : m σ = some (d, σ1)) (h1 : σ1[i]? = some (some (.ls io l))) (hl : l.length < LIM) : mApp i m σ = some (.imm .non, σ1.set i (some (.ls io (l ++ [d])))) := by
  unfold mApp
  simp only [h0, h, h1, if_pos hl]
theorem ext_eq {i : Nat} {m : M D} {σ σ1 : Fr} {zs : List D} {io io2 : Bool} {l0 l : List D} (h0 : σ[i]? = some (some (.ls io2 l0))) (h : m σ = some (.lst zs, σ1)) (h1 : σ1[i]? = some (some (.ls io l))) (hl : l.length + zs.length ≤ LIM) : mExt i m σ = some (.imm .non, σ1.set i (some (.ls io (l ++ zs)))) := by
  unfold mExt
  simp only [h0, h, h1, if_pos hl]
theorem pop_eq {i : Nat} {σ : Fr} {d : D} {io : Bool} {l : List D} (h0 : σ[i]? = some (some (.ls io (l ++ [d])))) : mPop i σ = some (.imm d, σ.set i (some (.ls io l))) := by
  unfold mPop
  have e : (l ++ [d])[(l ++ [d]).length - 1]? = some d := by simp
  simp only [h0, e, List.dropLast_concat]
theorem popAt_eq {i : Nat} {m : M D} {σ σ1 : Fr} {j : Int} {d : D} {io io2 : Bool} {l0 l : List D} (h0 : σ[i]? = some (some (.ls io2 l0))) (h : m σ = some (.int j, σ1)) (h1 : σ1[i]? = some (some (.ls io l))) (hj : 0 ≤ j) (hl : l.length ≤ LIM) (hd : l[j.toNat]? = some d) : mPopAt i m σ = some (.imm d, σ1.set i (some (.ls io (l.eraseIdx j.toNat)))) := by
  unfold mPopAt
  have e : (decide (0 ≤ j) && decide (l.length ≤ LIM)) = true := by rw [decide_eq_true hj, decide_eq_true hl]; rfl
  simp only [h0, h, h1, e, if_true, hd]
/-! ### shapes -/
theorem sd_dp (s : Sd) : (sd s).dp = 1 := by
  show D.dps (s.map D.int) + 1 = 1
  rw [(pls_ints s).2]
theorem dps_sds : ∀ S : List Sd, D.dps (S.map sd) ≤ 1
  | [] => Nat.zero_le _
  | s :: S => by
    have := dps_sds S
    have := sd_dp s
    show max (sd s).dp (D.dps (S.map sd)) ≤ 1
    omega
theorem lst_sh (S : List Sd) : (D.lst (S.map sd)).sh = true := by
  have := dps_sds S
  unfold D.sh
  simp only [D.pl, D.dp, pls_sds]
  simp; omega
theorem any_sds (S : List Sd) (s : Sd) : ((S.map sd).any fun z => D.eqv z (sd s)) = decide (s ∈ S) := by
  induction S with
  | nil => rfl
  | cons u S ih =>
    rw [List.map_cons, List.any_cons, ih, eqv_sd]
    by_cases h : u = s
    · subst h; simp
    · have : ¬ s = u := fun e => h e.symm
      simp [h, this]
theorem in_sds (b : Bool) (s : Sd) (S : List Sd) : fInA b (sd s) (.lst (S.map sd)) = some (.imm (.bl (b ^^ decide (s ∈ S)))) := by
  show (if ((sd s).sh && (D.lst (S.map sd)).sh) = true then _ else _) = _
  rw [sd_sh, lst_sh, any_sds]; rfl
/-! ### the loop -/
def sCond : M Bool := (mT (m2 (fI2 fun i j => .bl (decide (j < i))) (.val (mFz (m1 fLen (.pk 4)))) (.val (mC (.int 0)))))
def sBody : M Fl := (mSeq (mSet 5 (mPop 4)) (mIf (mT (m2 (fInA true) (.pk 5) (.pk 3))) (mSeq (mDrop (mApp 3 (mV 5))) (mDrop (mExt 4 (mFz (mLc (itD (mFz (mCall 1 g_law_faces [(mV 5)]))) (.tp [(.nm 7), (.nm 8)]) mYes (mV 7) [7, 8]))))) mNx))
def sAdd : M Fl := (mSet 1 (m2 fAdd (.pk 1) (.val (mFz (m1 fSort (.val (mFz (mLc (itD (mV 3)) (.nm 6) (mT (m2 fEq (.val (mFz (m1 fLen (.pk 6)))) (.pk 2))) (mV 6) [6]))))))))
theorem m_law_sides_is : m_law_sides = mSeq (mPar2 3 4 (mLst []) (m1 fList (.pk 0))) (mSeq (lpW sCond sBody 1000) (mSeq (mSet 1 (mLst [])) (mSeq (mFor (itR2 (mC (.int 1)) (mC (.int 8))) (.nm 2) sAdd) (mRet (mMv 1))))) := rfl
def sF (A f z : Option Ev.S) (sn w : List Sd) (h x : Option Ev.S) : Fr := [A, f, z, some (.ls false (sn.map sd)), some (.ls false (w.map sd)), h, x, none, none]
def fstD : D → D
  | .tup _ [x, _] => x
  | d => d
theorem fstD_ds (c : Ch) : (ds c).map fstD = (c.map (·.1)).map sd := by
  unfold ds
  rw [List.map_map, List.map_map]; rfl
section
variable {A f z x : Option Ev.S}
theorem sCond_eq {sn w : List Sd} {h : Option Ev.S} : sCond (sF A f z sn w h x) = some (decide (0 < w.length), sF A f z sn w h x) := by
  unfold sCond
  refine mT_eq (m2_vv (fz_eq (m1_p rfl rfl)) rfl ?_)
  show some (Ev.S.imm (.bl (decide ((0 : Int) < ((w.map sd).length : Int))))) = _
  rw [List.length_map]
  congr 3
  by_cases e : 0 < w.length
  · rw [decide_eq_true e, decide_eq_true (by omega)]
  · rw [decide_eq_false e, decide_eq_false (by omega)]
theorem sBody_in {sn w : List Sd} {s : Sd} {h : Option Ev.S} (hh : okS h = true) (hs : s ∈ sn) : sBody (sF A f z sn (w ++ [s]) h x) = some (.nx, sF A f z sn w (some (.imm (sd s))) x) := by
  unfold sBody
  have p := pop_eq (i := 4) (σ := sF A f z sn (w ++ [s]) h x) (io := false) (l := w.map sd) (d := sd s) (by unfold sF; simp)
  refine (seq_nx ((set_eq p (okSet_at (x := h) rfl hh)).trans rfl)).trans ?_
  refine (ifF (σ' := sF A f z sn w (some (.imm (sd s))) x) (mT_eq (m2_pp rfl rfl ?_))).trans rfl
  show fInA true (sd s) (.lst (sn.map sd)) = _
  rw [in_sds, decide_eq_true hs]; rfl
theorem sBody_new {sn w : List Sd} {s : Sd} {h : Option Ev.S} (hh : okS h = true) (hs : s ∉ sn) (h1 : 1 ≤ s.length) (h5 : s.length ≤ 5) (hl : sn.length < LIM) (hl2 : w.length + 5 ≤ LIM) : sBody (sF A f z sn (w ++ [s]) h x) = some (.nx, sF A f z (sn ++ [s]) (w ++ wallsL s) (some (.imm (sd s))) x) := by
  unfold sBody
  have p := pop_eq (i := 4) (σ := sF A f z sn (w ++ [s]) h x) (io := false) (l := w.map sd) (d := sd s) (by unfold sF; simp)
  refine (seq_nx ((set_eq p (okSet_at (x := h) rfl hh)).trans rfl)).trans ?_
  refine (ifT (σ' := sF A f z sn w (some (.imm (sd s))) x) (mT_eq (m2_pp rfl rfl ?_))).trans ?_
  · show fInA true (sd s) (.lst (sn.map sd)) = _
    rw [in_sds, decide_eq_false hs]; rfl
  have a := app_eq (i := 3) (m := mV 5) (σ := sF A f z sn w (some (.imm (sd s))) x) (σ1 := sF A f z sn w (some (.imm (sd s))) x) (d := sd s) (l := sn.map sd) rfl rfl rfl (by rw [List.length_map]; exact hl)
  have e1 : sn.map sd ++ [sd s] = (sn ++ [s]).map sd := by simp
  rw [e1] at a
  refine (seq_nx ((drop_eq a).trans (show _ = some (Fl.nx, sF A f z (sn ++ [s]) w (some (.imm (sd s))) x) from rfl))).trans ?_
  have hb : mFz (mCall 1 g_law_faces [(mV 5)]) (sF A f z (sn ++ [s]) w (some (.imm (sd s))) x) = some (.lst (ds (faces s)), sF A f z (sn ++ [s]) w (some (.imm (sd s))) x) :=
    fz_eq (call_eq (ds := [sd s]) rfl rfl (faces_eq s h1 h5))
  have fl := faces_len s
  have hit : itD (mFz (mCall 1 g_law_faces [(mV 5)])) (sF A f z (sn ++ [s]) w (some (.imm (sd s))) x) = some (ds (faces s), sF A f z (sn ++ [s]) w (some (.imm (sd s))) x) := by
    unfold itD
    rw [hb]; rfl
  have e2 := mLc_tp (i := 7) (j := 8) (te := mV 7) (f := fstD) hit (by rw [ds_length]; exact Nat.le_trans (Nat.le_trans fl h5) (by decide)) (by decide) (by show 7 < 9; decide) (by show 8 < 9; decide) (fun d hd => by
    obtain ⟨q, hq, rfl⟩ := List.mem_map.mp hd
    exact ⟨false, sd q.1, .int q.2, rfl, rfl⟩)
  rw [fstD_ds] at e2
  have q := ext_eq (i := 4) (l := w.map sd) (σ1 := sF A f z (sn ++ [s]) w (some (.imm (sd s))) x) rfl (fz_eq e2) rfl (by
    show _ + (((faces s).map (·.1)).map sd).length ≤ LIM
    rw [List.length_map, List.length_map, List.length_map]; omega)
  have e3 : w.map sd ++ ((faces s).map (·.1)).map sd = (w ++ wallsL s).map sd := by rw [List.map_append]; rfl
  rw [e3] at q
  exact (drop_eq q).trans rfl
end
theorem walls_len (s : Sd) : (wallsL s).length ≤ s.length := by unfold wallsL; rw [List.length_map]; exact faces_len s
theorem sides_loop {A f z x : Option Ev.S} {U : List Sd} {P : Sd → Prop} (hU : U.length ≤ 128) (hP : ∀ s, P s → s ∈ U ∧ 1 ≤ s.length ∧ s.length ≤ 5) (hw : ∀ s, P s → ∀ f ∈ wallsL s, P f) :
    ∀ (n : Nat) (sn w : List Sd) (h : Option Ev.S), n ≤ 1000 → okS h = true → (∀ s, s ∈ sn ∨ s ∈ w → P s) → sn.Nodup → (∀ s ∈ sn, ∀ g ∈ wallsL s, g ∈ sn ∨ g ∈ w) → w.length + 6 * (U.length - sn.length) < n →
    ∃ sn' h', okS h' = true ∧ lpW sCond sBody n (sF A f z sn w h x) = some (.nx, sF A f z sn' [] h' x) ∧ sn'.Nodup ∧ (∀ s, s ∈ sn ∨ s ∈ w → s ∈ sn') ∧ (∀ s ∈ sn', P s) ∧ Clo sn'
  | 0, _, _, _, _, _, _, _, _, hm => by omega
  | n + 1, sn, w, h, hn, hh, hp, nd, cl, hm => by
    have c := sCond_eq (A := A) (f := f) (z := z) (x := x) (sn := sn) (w := w) (h := h)
    rcases List.eq_nil_or_concat w with rfl | ⟨w', s, rfl⟩
    · refine ⟨sn, h, hh, ?_, nd, fun s hs => hs.resolve_right (by simp), fun s hs => hp s (.inl hs), fun s hs g hg => (cl s hs g hg).resolve_right (by simp)⟩
      unfold lpW
      rw [c]; rfl
    · rw [List.concat_eq_append] at *
      have hlen : (w' ++ [s]).length = w'.length + 1 := by simp
      have hps : P s := hp s (.inr (by simp))
      obtain ⟨u1, u2, u3⟩ := hP s hps
      by_cases hs : s ∈ sn
      · have b := sBody_in (A := A) (f := f) (z := z) (x := x) (w := w') hh hs
        obtain ⟨sn', h', k1, k2, k3, k4, k5, k6⟩ := sides_loop hU hP hw n sn w' (some (.imm (sd s))) (by omega) rfl (fun u hu => hp u (hu.imp id fun m => List.mem_append_left _ m)) nd (fun u hu g hg => (cl u hu g hg).elim .inl fun m => by
          rcases List.mem_append.mp m with m | m
          · exact .inr m
          · rw [List.mem_singleton.mp m]; exact .inl hs) (by omega)
        refine ⟨sn', h', k1, ?_, k3, fun u hu => ?_, k5, k6⟩
        · unfold lpW
          rw [c, show decide (0 < (w' ++ [s]).length) = true by rw [hlen]; simp]
          show (match sBody (sF A f z sn (w' ++ [s]) h x) with | some (.nx, σ2) => lpW sCond sBody n σ2 | some (.ct, σ2) => lpW sCond sBody n σ2 | some (.br, σ2) => some (.nx, σ2) | some (.rt s, σ2) => some (.rt s, σ2) | none => none) = _
          rw [b]; exact k2
        · rcases hu with hu | hu
          · exact k4 u (.inl hu)
          · rcases List.mem_append.mp hu with m | m
            · exact k4 u (.inr m)
            · rw [List.mem_singleton.mp m]; exact k4 s (.inl hs)
      · have nd' : (sn ++ [s]).Nodup := by
          rw [List.nodup_append]
          exact ⟨nd, by simp, fun a ha b hb => by
            rw [List.mem_singleton] at hb
            subst hb
            exact fun e => hs (e ▸ ha)⟩
        have le : (sn ++ [s]).length ≤ U.length := nodup_le nd' fun u hu => by
          rcases List.mem_append.mp hu with m | m
          · exact (hP u (hp u (.inl m))).1
          · rw [List.mem_singleton.mp m]; exact u1
        have sl : (sn ++ [s]).length = sn.length + 1 := by simp
        have wl := walls_len s
        have b := sBody_new (A := A) (f := f) (z := z) (x := x) (w := w') hh hs u2 u3 (Nat.lt_of_le_of_lt (show sn.length ≤ 128 by omega) (by decide)) (Nat.le_trans (show w'.length + 5 ≤ 1100 by omega) (by decide))
        obtain ⟨sn', h', k1, k2, k3, k4, k5, k6⟩ := sides_loop hU hP hw n (sn ++ [s]) (w' ++ wallsL s) (some (.imm (sd s))) (by omega) rfl (fun u hu => by
            rcases hu with hu | hu
            · rcases List.mem_append.mp hu with m | m
              · exact hp u (.inl m)
              · rw [List.mem_singleton.mp m]; exact hps
            · rcases List.mem_append.mp hu with m | m
              · exact hp u (.inr (List.mem_append_left _ m))
              · exact hw s hps u m) nd' (fun u hu g hg => by
            rcases List.mem_append.mp hu with m | m
            · rcases cl u m g hg with z | z
              · exact .inl (List.mem_append_left _ z)
              · rcases List.mem_append.mp z with z | z
                · exact .inr (List.mem_append_left _ z)
                · exact .inl (List.mem_append_right _ z)
            · rw [List.mem_singleton.mp m] at hg
              exact .inr (List.mem_append_right _ hg)) (by rw [List.length_append, sl]; omega)
        refine ⟨sn', h', k1, ?_, k3, fun u hu => ?_, k5, k6⟩
        · unfold lpW
          rw [c, show decide (0 < (w' ++ [s]).length) = true by rw [hlen]; simp]
          show (match sBody (sF A f z sn (w' ++ [s]) h x) with | some (.nx, σ2) => lpW sCond sBody n σ2 | some (.ct, σ2) => lpW sCond sBody n σ2 | some (.br, σ2) => some (.nx, σ2) | some (.rt s, σ2) => some (.rt s, σ2) | none => none) = _
          rw [b]; exact k2
        · rcases hu with hu | hu
          · exact k4 u (.inl (List.mem_append_left _ hu))
          · rcases List.mem_append.mp hu with m | m
            · exact k4 u (.inr (List.mem_append_left _ m))
            · exact k4 u (.inl (List.mem_append_right _ m))
/-! ### by sizes -/
def ofSize (sn : List Sd) (k : Nat) : List Sd := iSort sle (sn.filter fun s => s.length == k)
def bySize (sn : List Sd) : List Sd := (List.range 7).flatMap fun i => ofSize sn (i + 1)
def lenD (k : Nat) : D → Bool
  | .tup _ l => l.length == k
  | _ => false
theorem lenD_sds (k : Nat) (S : List Sd) : ((S.map sd).filter (lenD k)).map id = (S.filter fun s => s.length == k).map sd := by
  rw [List.map_id, List.filter_map]
  congr 1
  exact List.filter_congr fun s _ => by
    show ((s.map D.int).length == k) = _
    rw [List.length_map]
theorem sAdd_eq {A h wt : Option Ev.S} {k : Nat} {sn f : List Sd} {S3 : Ev.S} (h3 : S3 = .ls false (sn.map sd) ∨ S3 = .imm (.lst (sn.map sd))) (hne : ∀ s ∈ sn, s ≠ []) (hl : sn.length ≤ LIM) (hl2 : f.length + sn.length ≤ LIM) :
    sAdd [A, some (.ls false (f.map sd)), some (.imm (.int k)), some S3, wt, h, none, none, none] = some (.nx, [A, some (.ls false ((f ++ ofSize sn k).map sd)), some (.imm (.int k)), some (.imm (.lst (sn.map sd))), wt, h, none, none, none]) := by
  have hit : itD (mV 3) [A, some (.ls false (f.map sd)), some (.imm (.int k)), some S3, wt, h, none, none, none] = some (sn.map sd, [A, some (.ls false (f.map sd)), some (.imm (.int k)), some (.imm (.lst (sn.map sd))), wt, h, none, none, none]) := by
    rcases h3 with rfl | rfl <;> rfl
  have e := mLc_if (j := 6) (tt := (mT (m2 fEq (.val (mFz (m1 fLen (.pk 6)))) (.pk 2)))) (te := mV 6) (f := id) (p := lenD k) hit (by rw [List.length_map]; exact hl) (by show 6 < 9; decide) (fun d hd => by
    obtain ⟨s, _, rfl⟩ := List.mem_map.mp hd
    refine ⟨mT_eq (m2_vp (fz_eq (m1_p rfl rfl)) rfl ?_), fun _ => rfl⟩
    show some (Ev.S.imm (.bl (((s.map D.int).length : Int) == (k : Int)))) = _
    congr 3
    show _ = ((s.map D.int).length == k)
    by_cases q : (s.map D.int).length = k
    · rw [q]; simp
    · have : ¬ ((s.map D.int).length : Int) = k := by omega
      rw [beq_eq_false_iff_ne.mpr this, beq_eq_false_iff_ne.mpr q])
  rw [lenD_sds] at e
  have fl := List.length_filter_le (fun s : Sd => s.length == k) sn
  have so := sort_sds (S := sn.filter fun s => s.length == k) (by omega) fun s hs => hne s (List.mem_filter.mp hs).1
  unfold sAdd
  have e2 : m2 fAdd (.pk 1) (.val (mFz (m1 fSort (.val (mFz (mLc (itD (mV 3)) (.nm 6) (mT (m2 fEq (.val (mFz (m1 fLen (.pk 6)))) (.pk 2))) (mV 6) [6])))))) [A, some (.ls false (f.map sd)), some (.imm (.int k)), some S3, wt, h, none, none, none] = some (.ls false ((f ++ ofSize sn k).map sd), [A, some (.ls false (f.map sd)), some (.imm (.int k)), some (.imm (.lst (sn.map sd))), wt, h, none, none, none]) := by
    refine m2_pv (d := .lst (f.map sd)) (d0 := .lst (f.map sd)) rfl (fz_eq (m1_v (fz_eq e) so)) rfl ?_
    show (if (f.map sd).length + ((iSort sle (sn.filter fun s => s.length == k)).map sd).length ≤ LIM then some (Ev.S.ls false (f.map sd ++ (iSort sle (sn.filter fun s => s.length == k)).map sd)) else none) = _
    rw [if_pos (by rw [List.length_map, List.length_map, iSort_len]; omega), List.map_append]; rfl
  exact (set_eq e2 rfl).trans rfl
theorem ofSize_mem {sn : List Sd} {k : Nat} {s : Sd} : s ∈ ofSize sn k ↔ s ∈ sn ∧ s.length = k := by
  unfold ofSize
  rw [iSort_mem, List.mem_filter]; simp
theorem ofSize_len (sn : List Sd) (k : Nat) : (ofSize sn k).length ≤ sn.length := by
  unfold ofSize
  rw [iSort_len]; exact List.length_filter_le _ _
theorem bySize_mem {sn : List Sd} {s : Sd} : s ∈ bySize sn ↔ s ∈ sn ∧ 1 ≤ s.length ∧ s.length ≤ 7 := by
  unfold bySize
  rw [List.mem_flatMap]
  constructor
  · rintro ⟨i, hi, h⟩
    obtain ⟨h1, h2⟩ := ofSize_mem.mp h
    have := List.mem_range.mp hi
    exact ⟨h1, by omega, by omega⟩
  · rintro ⟨h1, h2, h3⟩
    exact ⟨s.length - 1, List.mem_range.mpr (by omega), ofSize_mem.mpr ⟨h1, by omega⟩⟩
theorem sAdds {A h wt : Option Ev.S} {sn : List Sd} (hne : ∀ s ∈ sn, s ≠ []) (hl : 100 * sn.length ≤ LIM) : ∀ (ks : List Nat) (f : List Sd) (z : Option Ev.S) (S3 : Ev.S), okS z = true → (S3 = .ls false (sn.map sd) ∨ S3 = .imm (.lst (sn.map sd))) → f.length + (ks.length + 1) * sn.length ≤ LIM → ∃ z' S3',
    lpF (.nm 2) sAdd (ks.map fun k : Nat => D.int (k : Int)) [A, some (.ls false (f.map sd)), z, some S3, wt, h, none, none, none] = some (.nx, [A, some (.ls false ((f ++ ks.flatMap fun k => ofSize sn k).map sd)), z', some S3', wt, h, none, none, none])
  | [], f, z, S3, _, _, _ => ⟨z, S3, by simp [lpF]⟩
  | k :: ks, f, z, S3, hz, h3, hb => by
    have ol := ofSize_len sn k
    have hm : ((k :: ks).length + 1) * sn.length = (ks.length + 1) * sn.length + sn.length := by
      rw [List.length_cons, Nat.add_mul]; simp
    have hb2 : f.length + sn.length ≤ LIM := by
      have := Nat.zero_le ((ks.length + 1) * sn.length)
      omega
    obtain ⟨z', S3', e⟩ := sAdds hne hl ks (f ++ ofSize sn k) (some (.imm (.int k))) (.imm (.lst (sn.map sd))) rfl (.inr rfl) (by rw [List.length_append]; omega)
    refine ⟨z', S3', ?_⟩
    rw [List.map_cons]
    refine (lpF_nx (put_nm (x := z) rfl hz) (sAdd_eq (k := k) h3 hne (by omega) hb2)).trans ?_
    rw [List.flatMap_cons, ← List.append_assoc]
    exact e
theorem sides_eq {cs : Sd} {ts : List Sd} {d : D} (hcs : cs.length ≤ 7) (hts : ∀ t ∈ ts, List.Sublist t cs ∧ t ≠ [] ∧ t.length ≤ 5) (hn : ts.length ≤ 128) (hd : fList d = some (.ls false (ts.map sd))) :
    ∃ sn : List Sd, g_law_sides [d] = some (.ls false ((bySize sn).map sd)) ∧ sn.Nodup ∧ (∀ s, s ∈ sn ↔ Under ts s) ∧ Clo sn ∧ sn.length ≤ 128 := by
  have hU : (partsL cs).length ≤ 128 := Nat.le_trans (parts_len cs) (Nat.pow_le_pow_right (by decide) hcs : 2 ^ cs.length ≤ 2 ^ 7)
  have hP : ∀ s, Under ts s → s ∈ partsL cs ∧ 1 ≤ s.length ∧ s.length ≤ 5 := fun s ⟨ne, t, ht, hst⟩ => by
    obtain ⟨a, b, c⟩ := hts t ht
    have := hst.length_le
    have : 0 < s.length := List.length_pos_iff.mpr ne
    exact ⟨mem_parts.mpr ⟨hst.trans a, ne⟩, by omega, by omega⟩
  obtain ⟨sn, h', k1, k2, k3, k4, k5, k6⟩ := sides_loop (A := some (.imm d)) (f := none) (z := none) (x := none) hU hP (fun s ⟨ne, t, ht, hst⟩ f hf => by
    obtain ⟨f1, f2, f3⟩ := mem_walls.mp hf
    exact ⟨f3, t, ht, f1.trans hst⟩) 1000 [] ts none (Nat.le_refl _) rfl (fun s hs => by
      rcases hs with hs | hs
      · cases hs
      · exact ⟨(hts s hs).2.1, s, hs, List.Sublist.refl _⟩) List.nodup_nil (fun s hs => by cases hs) (by simp; omega)
  have un : ∀ s, s ∈ sn ↔ Under ts s := fun s => ⟨k5 s, fun ⟨ne, t, ht, hst⟩ => k6.sub (k4 t (.inr ht)) hst ne⟩
  have sl : sn.length ≤ 128 := Nat.le_trans (nodup_le k3 fun s hs => (hP s (k5 s hs)).1) hU
  refine ⟨sn, ?_, k3, un, k6, sl⟩
  have lim : LIM = 16777216 := rfl
  obtain ⟨z', S3', e⟩ := sAdds (A := some (.imm d)) (h := h') (wt := some (.ls false (([] : List Sd).map sd))) (sn := sn) (fun s hs => (k5 s hs).1) (by omega) [1, 2, 3, 4, 5, 6, 7] [] none (.ls false (sn.map sd)) rfl (.inl rfl) (by simp; omega)
  refine runV_rt (σ := [some (.imm d), none, z', some S3', some (.ls false (([] : List Sd).map sd)), h', none, none, none]) ?_
  rw [m_law_sides_is]
  refine (seq_nx (σ' := sF (some (.imm d)) none none [] ts none none) ?_).trans ?_
  · unfold mPar2
    have e1 : m1 fList (.pk 0) (startF ([d].map Ev.S.imm) 9) = some (.ls false (ts.map sd), startF ([d].map Ev.S.imm) 9) := m1_p (d := d) rfl hd
    rw [show mLst [] (startF ([d].map Ev.S.imm) 9) = some (.ls false [], startF ([d].map Ev.S.imm) 9) from rfl]
    dsimp only
    rw [e1]; rfl
  refine (seq_nx k2).trans ?_
  refine (seq_nx (σ' := [some (.imm d), some (.ls false (([] : List Sd).map sd)), none, some (.ls false (sn.map sd)), some (.ls false (([] : List Sd).map sd)), h', none, none, none]) rfl).trans ?_
  refine (seq_nx ((for_eq (ds := [1, 2, 3, 4, 5, 6, 7].map fun k : Nat => D.int (k : Int)) rfl).trans e)).trans ?_
  refine ret_eq (s := .ls false ((bySize sn).map sd)) ?_
  rfl
end Qk
end

section
set_option Elab.async false
set_option linter.all false
set_option maxRecDepth 100000
/-! Rc: is_ascending, is_side_form, _law_tops. -/
namespace Qk
open PySem PySem.Spec L2 Ev Wk
set_option autoImplicit false
/-! ### ascending -/
def chB {α : Type} (R : α → α → Bool) : List α → Bool
  | [] => true
  | [_] => true
  | a :: b :: l => R a b && chB R (b :: l)
theorem chB_pw {α : Type} {R : α → α → Bool} (tr : ∀ a b c, R a b = true → R b c = true → R a c = true) : ∀ {l : List α}, chB R l = true ↔ l.Pairwise fun a b => R a b = true
  | [] => by simp [chB]
  | [a] => by simp [chB]
  | a :: b :: l => by
    unfold chB
    rw [Bool.and_eq_true, chB_pw tr (l := b :: l), List.pairwise_cons (a := a)]
    constructor
    · rintro ⟨h1, h2⟩
      refine ⟨fun x hx => ?_, h2⟩
      rcases List.mem_cons.mp hx with rfl | hx
      · exact h1
      · exact tr a b x h1 ((List.pairwise_cons.mp h2).1 x hx)
    · rintro ⟨h1, h2⟩
      exact ⟨h1 b List.mem_cons_self, h2⟩
def adj {α : Type} (R : α → α → Bool) (l : List α) (i : Nat) : Bool := match l[i]?, l[i + 1]? with
  | some a, some b => R a b
  | _, _ => true
theorem adj_all {α : Type} (R : α → α → Bool) : ∀ l : List α, ((List.range (l.length - 1)).map (adj R l)).all id = chB R l
  | [] => rfl
  | [_] => rfl
  | a :: b :: l => by
    have ih := adj_all R (b :: l)
    have e : (a :: b :: l).length - 1 = ((b :: l).length - 1) + 1 := by simp
    rw [e, List.range_succ_eq_map, List.map_cons, List.map_map, List.all_cons]
    unfold chB
    congr 1
theorem bls_map {α : Type} (f : α → Bool) : ∀ l : List α, D.bls (l.map fun x => D.bl (f x)) = some (l.map f)
  | [] => rfl
  | a :: l => by
    show (match D.bls (l.map fun x => D.bl (f x)) with | some bs => some (f a :: bs) | none => none) = _
    rw [bls_map f l]; rfl
theorem fAll_map {α : Type} (f : α → Bool) (l : List α) : fAll (.lst (l.map fun x => D.bl (f x))) = some (.imm (.bl ((l.map f).all id))) := by
  show (match D.bls (l.map fun x => D.bl (f x)) with | some bs => some (Ev.S.imm (.bl (bs.all id))) | none => none) = _
  rw [bls_map]
theorem fAny_map {α : Type} (f : α → Bool) (l : List α) : fAny (.lst (l.map fun x => D.bl (f x))) = some (.imm (.bl ((l.map f).any id))) := by
  show (match D.bls (l.map fun x => D.bl (f x)) with | some bs => some (Ev.S.imm (.bl (bs.any id))) | none => none) = _
  rw [bls_map]
theorem atI_nat {α : Type} {l : List α} {i : Int} {n : Nat} (h : i = n) : atI l i = l[n]? := by
  subst h
  unfold atI ixN
  rw [if_pos (by omega)]
  by_cases e : (n : Int) < l.length
  · rw [if_pos e]; rfl
  · rw [if_neg e]
    have : l.length ≤ n := by omega
    rw [List.getElem?_eq_none this]; rfl
theorem mapD_range {n : Nat} {lo : Int} : dRng lo n = (List.range n).map fun i : Nat => D.int (lo + i) := rfl
theorem asc_eq {α : Type} {g : α → D} {R : α → α → Bool} (h : ∀ a b, fLt (g a) (g b) = some (.imm (.bl (R a b)))) {k : Bool} {S : List α} (hl : S.length ≤ LIM) : g_is_ascending [.tup k (S.map g)] = some (.imm (.bl (chB R S))) := by
  have lim : LIM = 16777216 := rfl
  refine runV_rt (σ := [some (.imm (.tup k (S.map g))), none]) ?_
  have hit : itR2 (mC (.int 1)) (mFz (m1 fLen (.pk 0))) [some (.imm (.tup k (S.map g))), none] = some (dRng 1 (S.length - 1), [some (.imm (.tup k (S.map g))), none]) := by
    have e1 : mFz (m1 fLen (.pk 0)) [some (.imm (.tup k (S.map g))), none] = some (.int S.length, [some (.imm (.tup k (S.map g))), none]) := by
      refine fz_eq (s := .imm (.int S.length)) (m1_p rfl ?_)
      show some (Ev.S.imm (.int ((S.map g).length : Int))) = _
      rw [List.length_map]
    unfold itR2
    rw [show mL [mC (.int 1), mFz (m1 fLen (.pk 0))] [some (.imm (.tup k (S.map g))), none] = some ([.int 1, .int S.length], [some (.imm (.tup k (S.map g))), none]) from mL_cons rfl (mL_cons e1 mL_nil)]
    show (if (okR 1 && okR (S.length : Int)) = true then some (dRng 1 ((S.length : Int) - 1).toNat, _) else none) = _
    have ok : (okR 1 && okR (S.length : Int)) = true := by
      unfold okR; simp; omega
    rw [if_pos ok, show ((S.length : Int) - 1).toNat = S.length - 1 by omega]
  have e := mLc_nm (j := 1) (te := (mFz (m2 fLt (.val (mFz (m2 fIx (.pk 0) (.val (mFz (m2 (fI2 fun i j => .int (i - j)) (.pk 1) (.val (mC (.int 1))))))))) (.val (mFz (m2 fIx (.pk 0) (.pk 1))))))) (f := fun d => match d with | .int i => .bl (adj R S (i - 1).toNat) | d => d) hit (by rw [mapD_range, List.length_map, List.length_range]; omega) (by show 1 < 2; decide) (fun d hd => by
    obtain ⟨i, hi, rfl⟩ := List.mem_map.mp hd
    have hi' := List.mem_range.mp hi
    have i0 : i < S.length := by omega
    have i1 : i + 1 < S.length := by omega
    have ix0 : fIx (.tup k (S.map g)) (.int (1 + (i : Int) - 1)) = some (.imm (g S[i])) := by
      show (atI (S.map g) (1 + (i : Int) - 1)).map Ev.S.imm = _
      rw [atI_nat (n := i) (by omega), List.getElem?_map, List.getElem?_eq_getElem i0]; rfl
    have ix1 : fIx (.tup k (S.map g)) (.int (1 + (i : Int))) = some (.imm (g S[i + 1])) := by
      show (atI (S.map g) (1 + (i : Int))).map Ev.S.imm = _
      rw [atI_nat (n := i + 1) (by omega), List.getElem?_map, List.getElem?_eq_getElem i1]; rfl
    have ea : adj R S (1 + (i : Int) - 1).toNat = R S[i] S[i + 1] := by
      unfold adj
      rw [show (1 + (i : Int) - 1).toNat = i by omega, List.getElem?_eq_getElem i0, List.getElem?_eq_getElem i1]
    show _ = some (D.bl (adj R S (1 + (i : Int) - 1).toNat), _)
    rw [ea]
    refine fz_eq (s := .imm (.bl (R S[i] S[i + 1]))) (m2_vv (d := g S[i]) (e := g S[i + 1]) (fz_eq (s := .imm (g S[i])) (m2_pv (d := .tup k (S.map g)) (d0 := .tup k (S.map g)) rfl (fz_eq (s := .imm (.int (1 + (i : Int) - 1))) (m2_pv (d := .int (1 + (i : Int))) (d0 := .int (1 + (i : Int))) rfl rfl rfl rfl)) rfl ix0)) (fz_eq (s := .imm (g S[i + 1])) (m2_pp (d := .tup k (S.map g)) (e := .int (1 + (i : Int))) rfl rfl ix1)) (h _ _)))
  refine ret_eq (m1_v (fz_eq e) ?_)
  rw [mapD_range, List.map_map]
  have e2 : ((fun d => match d with | D.int i => D.bl (adj R S (i - 1).toNat) | d => d) ∘ fun i : Nat => D.int (1 + (i : Int))) = fun i : Nat => D.bl (adj R S i) := by
    funext i
    show D.bl (adj R S (1 + (i : Int) - 1).toNat) = _
    rw [show (1 + (i : Int) - 1).toNat = i by omega]
  rw [e2]
  show fAll (.lst ((List.range (S.length - 1)).map fun i => D.bl (adj R S i))) = _
  rw [fAll_map, adj_all]
theorem asc_ints {k : Bool} {s : Sd} (hl : s.length ≤ LIM) : g_is_ascending [.tup k (s.map D.int)] = some (.imm (.bl (chB (fun a b => decide (a < b)) s))) := asc_eq (g := D.int) (fun _ _ => rfl) hl
theorem asc_sds {k : Bool} {S : List Sd} (hl : S.length ≤ LIM) : g_is_ascending [.tup k (S.map sd)] = some (.imm (.bl (chB HT.lexLt S))) := asc_eq (g := sd) (fun a b => by
  show (match D.ints (a.map D.int), D.ints (b.map D.int) with | some ns, some ms => some (Ev.S.imm (.bl (HT.lexLt ns ms))) | _, _ => none) = _
  rw [ints_sd, ints_sd]) hl
theorem asc_iff {s : Sd} : chB (fun a b => decide (a < b)) s = true ↔ Asc s := by
  rw [chB_pw (fun a b c h k => by simp at *; omega)]
  simp
theorem lts_iff {S : List Sd} : chB HT.lexLt S = true ↔ S.Pairwise lt := chB_pw (R := HT.lexLt) (fun a b c h k => lt_trans (a := a) (b := b) (c := c) h k)
/-! ### sides -/
def formB (s : Sd) : Bool := (decide (1 ≤ s.length) && decide (s.length ≤ 7)) && ((s.map fun c => decide (0 ≤ c) && decide (c ≤ 999)).all id && chB (fun a b => decide (a < b)) s)
theorem is_number_eq (c m : Int) : g_is_number [.int c, .int m] = some (.imm (.bl (decide (0 ≤ c) && decide (c ≤ m)))) := by
  have e : g_is_integer [.int c] = some (.imm (.bl true)) := rfl
  refine runV_rt (σ := [some (.imm (.int c)), some (.imm (.int m))]) ?_
  refine ret_eq ?_
  have e1 : mCall 1 g_is_integer [(mV 0)] (startF ([D.int c, D.int m].map Ev.S.imm) 2) = some (.imm (.bl true), [some (.imm (.int c)), some (.imm (.int m))]) := call_eq (ds := [.int c]) rfl rfl e
  unfold mAnd
  rw [e1]
  dsimp only
  show (match some (Ev.S.imm (.bl (decide (0 ≤ c)))) with | some (.imm (.bl true)) => _ | some (.imm (.bl false)) => _ | _ => none) = _
  by_cases h : 0 ≤ c
  · rw [decide_eq_true h]; rfl
  · rw [decide_eq_false h]; rfl
theorem side_form_eq (s : Sd) : g_is_side_form [sd s] = some (.imm (.bl (formB s))) := by
  have c1 : mChn (fI2 fun i j => .bl (decide (i ≤ j))) (fI2 fun i j => .bl (decide (i ≤ j))) (mC (.int 1)) (mFz (m1 fLen (.pk 0))) (mC (.int 7)) [some (.imm (sd s)), none] = some (.imm (.bl (decide (1 ≤ s.length) && decide (s.length ≤ 7))), [some (.imm (sd s)), none]) := by
    have e1 : mFz (m1 fLen (.pk 0)) [some (.imm (sd s)), none] = some (.int s.length, [some (.imm (sd s)), none]) := by
      refine fz_eq (s := .imm (.int s.length)) (m1_p rfl ?_)
      show some (Ev.S.imm (.int ((s.map D.int).length : Int))) = _
      rw [List.length_map]
    unfold mChn
    simp only [mC, e1, fI2]
    by_cases h : 1 ≤ s.length
    · rw [decide_eq_true h, decide_eq_true (show (1 : Int) ≤ s.length by omega)]
      dsimp only
      congr 4
      by_cases h7 : s.length ≤ 7
      · rw [decide_eq_true h7, decide_eq_true (by omega)]; rfl
      · rw [decide_eq_false h7, decide_eq_false (by omega)]; rfl
    · rw [decide_eq_false h, decide_eq_false (show ¬ (1 : Int) ≤ s.length by omega)]; rfl
  have e0 : startF ([sd s].map Ev.S.imm) 2 = [some (.imm (sd s)), none] := rfl
  refine runV_rt (σ := [some (.imm (sd s)), none]) ?_
  rw [e0]
  unfold m_is_side_form formB
  have t1 : bNot (mTru (.val (mFz (m1 (fun d => fIsi .tup d d) (.pk 0))))) [some (.imm (sd s)), none] = some (false, [some (.imm (sd s)), none]) := rfl
  have t2 := not_eq (mT_eq c1)
  by_cases h : (decide (1 ≤ s.length) && decide (s.length ≤ 7)) = true
  · rw [h] at t2 ⊢
    refine (seq_nx (σ' := [some (.imm (sd s)), none]) (ifF ((orF t1).trans t2))).trans ?_
    refine ret_eq ?_
    have hl : s.length ≤ 7 := by
      rw [Bool.and_eq_true, decide_eq_true_eq, decide_eq_true_eq] at h
      exact h.2
    have e := mLc_nm (j := 1) (it := itD (mV 0)) (σ := [some (.imm (sd s)), none]) (ds := s.map D.int) (te := mFz (mCall 2 g_is_number [(mV 1), (mC (.int 999))])) (f := fun d => match d with | .int c => .bl (decide (0 ≤ c) && decide (c ≤ 999)) | d => d) rfl (by rw [List.length_map]; exact Nat.le_trans hl (by decide)) (by show 1 < 2; decide) (fun d hd => by
      obtain ⟨c, _, rfl⟩ := List.mem_map.mp hd
      exact fz_eq (call_eq (ds := [.int c, .int 999]) rfl rfl (is_number_eq c 999)))
    rw [List.map_map] at e
    have a1 : m1 fAll (.val (mFz (mLc (itD (mV 0)) (.nm 1) mYes (mFz (mCall 2 g_is_number [(mV 1), (mC (.int 999))])) [1]))) [some (.imm (sd s)), none] = some (.imm (.bl ((s.map fun c => decide (0 ≤ c) && decide (c ≤ 999)).all id)), [some (.imm (sd s)), none]) :=
      m1_v (fz_eq e) (fAll_map (fun c => decide (0 ≤ c) && decide (c ≤ 999)) s)
    unfold mAnd
    rw [a1]
    cases (s.map fun c => decide (0 ≤ c) && decide (c ≤ 999)).all id with
    | false => rfl
    | true =>
      dsimp only
      rw [Bool.true_and, Bool.true_and]
      exact call_eq (ds := [sd s]) rfl rfl (asc_ints (Nat.le_trans hl (by decide)))
  · rw [Bool.not_eq_true] at h
    rw [h] at t2 ⊢
    exact seq_rt ((ifT ((orF t1).trans t2)).trans (ret_eq rfl))
theorem form_ok {s : Sd} : formB s = true ↔ 1 ≤ s.length ∧ s.length ≤ 7 ∧ (∀ c ∈ s, 0 ≤ c ∧ c ≤ 999) ∧ Asc s := by
  unfold formB
  rw [Bool.and_eq_true, Bool.and_eq_true, Bool.and_eq_true, asc_iff, List.all_map, List.all_eq_true, decide_eq_true_eq, decide_eq_true_eq, and_assoc]
  simp
/-! ### _law_tops -/
def tupS (S : List Sd) : D := .tup (dictable (S.map sd)) (S.map sd)
def coverL (W : List Sd) : List Sd := W.flatMap wallsL
def maxL (W : List Sd) : List Sd := iSort sle (W.filter fun s => decide (s ∉ coverL W))
def inD (b : Bool) (C : List Sd) : D → Bool
  | .tup _ l => b ^^ C.any fun s => D.eqvs (s.map D.int) l
  | _ => false
theorem inD_sd (b : Bool) (C : List Sd) (s : Sd) : inD b C (sd s) = (b ^^ decide (s ∈ C)) := by
  have := any_sds C s
  rw [List.any_map] at this
  unfold inD sd
  dsimp only
  congr 1
theorem cover_loop {A : Option Ev.S} : ∀ (W C : List Sd) (h : Option Ev.S), okS h = true → (∀ s ∈ W, 1 ≤ s.length ∧ s.length ≤ 5) → C.length + 5 * W.length ≤ LIM → ∃ h', okS h' = true ∧
    lpF (.nm 2) (mDrop (mExt 1 (mFz (mLc (itD (mFz (mCall 1 g_law_faces [(mV 2)]))) (.tp [(.nm 3), (.nm 4)]) mYes (mV 3) [3, 4])))) (W.map sd) [A, some (.ls false (C.map sd)), h, none, none] = some (.nx, [A, some (.ls false ((C ++ coverL W).map sd)), h', none, none])
  | [], C, h, hh, _, _ => ⟨h, hh, by simp [coverL, lpF]⟩
  | s :: W, C, h, hh, hs, hl => by
    obtain ⟨s1, s5⟩ := hs s List.mem_cons_self
    have wl := walls_len s
    have fl := faces_len s
    have hl2 : (s :: W).length = W.length + 1 := rfl
    obtain ⟨h', k, e⟩ := cover_loop (A := A) W (C ++ wallsL s) (some (.imm (sd s))) rfl (fun u hu => hs u (List.mem_cons_of_mem _ hu)) (by rw [List.length_append]; omega)
    refine ⟨h', k, ?_⟩
    rw [List.map_cons, show coverL (s :: W) = wallsL s ++ coverL W by unfold coverL; rw [List.flatMap_cons], ← List.append_assoc]
    refine (lpF_nx (put_nm (x := h) rfl hh) ?_).trans e
    have hb : mFz (mCall 1 g_law_faces [(mV 2)]) [A, some (.ls false (C.map sd)), some (.imm (sd s)), none, none] = some (.lst (ds (faces s)), [A, some (.ls false (C.map sd)), some (.imm (sd s)), none, none]) := fz_eq (call_eq (ds := [sd s]) rfl rfl (faces_eq s s1 s5))
    have hit : itD (mFz (mCall 1 g_law_faces [(mV 2)])) [A, some (.ls false (C.map sd)), some (.imm (sd s)), none, none] = some (ds (faces s), [A, some (.ls false (C.map sd)), some (.imm (sd s)), none, none]) := by
      unfold itD
      rw [hb]; rfl
    have e2 := mLc_tp (i := 3) (j := 4) (te := mV 3) (f := fstD) hit (by rw [ds_length]; exact Nat.le_trans (Nat.le_trans fl s5) (by decide)) (by decide) (by show 3 < 5; decide) (by show 4 < 5; decide) (fun d hd => by
      obtain ⟨q, hq, rfl⟩ := List.mem_map.mp hd
      exact ⟨false, sd q.1, .int q.2, rfl, rfl⟩)
    rw [fstD_ds] at e2
    have q := ext_eq (i := 1) (l := C.map sd) (σ := [A, some (.ls false (C.map sd)), some (.imm (sd s)), none, none]) (σ1 := [A, some (.ls false (C.map sd)), some (.imm (sd s)), none, none]) rfl (fz_eq e2) rfl (by
      show _ + (((faces s).map (·.1)).map sd).length ≤ LIM
      rw [List.length_map, List.length_map, List.length_map]; omega)
    refine (drop_eq q).trans ?_
    show some (Fl.nx, [A, some (.ls false (C.map sd ++ ((faces s).map (·.1)).map sd)), some (.imm (sd s)), none, none]) = _
    rw [List.map_append]; rfl
theorem tops_eq {W : List Sd} (hs : ∀ s ∈ W, 1 ≤ s.length ∧ s.length ≤ 5) (hl : 6 * W.length ≤ LIM) : g_law_tops [.lst (W.map sd)] = some (.imm (tupS (maxL W))) := by
  obtain ⟨h', hh, e⟩ := cover_loop (A := some (.imm (.lst (W.map sd)))) W [] none rfl hs (by simp; omega)
  rw [List.nil_append] at e
  refine runV_rt (σ := [some (.imm (.lst (W.map sd))), some (.ls false ((coverL W).map sd)), h', none, none]) ?_
  refine (seq_nx (σ' := [some (.imm (.lst (W.map sd))), some (.ls false (([] : List Sd).map sd)), none, none, none]) rfl).trans ?_
  refine (seq_nx ((for_eq (ds := W.map sd) rfl).trans e)).trans ?_
  have e2 := mLc_if (j := 2) (it := itD (mV 0)) (tt := (mT (m2 (fInA true) (.pk 2) (.pk 1)))) (te := mV 2) (f := id) (p := inD true (coverL W)) (l := W.map sd) (σ := [some (.imm (.lst (W.map sd))), some (.ls false ((coverL W).map sd)), h', none, none]) (σ1 := [some (.imm (.lst (W.map sd))), some (.ls false ((coverL W).map sd)), h', none, none]) rfl (by rw [List.length_map]; omega) (by show 2 < 5; decide) (fun d hd => by
    obtain ⟨s, _, rfl⟩ := List.mem_map.mp hd
    refine ⟨mT_eq (m2_pp (d := sd s) (e := .lst ((coverL W).map sd)) rfl rfl ?_), fun _ => rfl⟩
    rw [in_sds, inD_sd])
  have ef : ((W.map sd).filter (inD true (coverL W))).map id = (W.filter fun s => decide (s ∉ coverL W)).map sd := by
    rw [List.map_id, List.filter_map]
    congr 1
    exact List.filter_congr fun s _ => by
      show inD true (coverL W) (sd s) = _
      rw [inD_sd]; simp
  rw [ef] at e2
  have fl := List.length_filter_le (fun s : Sd => decide (s ∉ coverL W)) W
  have so := sort_sds (S := W.filter fun s => decide (s ∉ coverL W)) (by omega) fun s h => by
    have := (hs s (List.mem_filter.mp h).1).1
    exact fun e => by rw [e] at this; simp at this
  exact ret_eq (m1_v (fz_eq (m1_v (fz_eq e2) so)) rfl)
theorem maxL_tops {cs : Sd} {ts W : List Sd} (asc : Asc cs) (few : cs.length ≤ 7) (lo : ∀ c ∈ cs, 0 ≤ c ∧ c ≤ 999) (hts : ∀ t ∈ ts, List.Sublist t cs ∧ t ≠ [] ∧ t.length ≤ 5) (nd : W.Nodup) (un : ∀ s, s ∈ W ↔ Under ts s) (cl : Clo W) : Tops cs (maxL W) := by
  have mem : ∀ s, s ∈ maxL W ↔ s ∈ W ∧ s ∉ coverL W := fun s => by
    unfold maxL
    rw [iSort_mem, List.mem_filter, decide_eq_true_eq]
  refine ⟨asc, few, lo, fun t ht => ?_, ?_, fun t ht u hu htu => ?_⟩
  · obtain ⟨ne, t', ht', hs⟩ := (un t).mp ((mem t).mp ht).1
    obtain ⟨a, b, c⟩ := hts t' ht'
    exact ⟨hs.trans a, ne, Nat.le_trans hs.length_le c⟩
  · exact iSort_pw (nd.filter _)
  · obtain ⟨t1, t2⟩ := (mem t).mp ht
    obtain ⟨u1, u2⟩ := (mem u).mp hu
    by_cases e : t.length < u.length
    · exfalso
      obtain ⟨f, f1, f2, f3⟩ := sub_above htu e
      have fne : f ≠ [] := fun z => by subst z; simp at f3
      have tne : t ≠ [] := ((un t).mp t1).1
      exact t2 (List.mem_flatMap.mpr ⟨f, cl.sub u1 f2 fne, mem_walls.mpr ⟨f1, f3.symm, tne⟩⟩)
    · exact htu.eq_of_length (by have := htu.length_le; omega)
end Qk
end

section
set_option Elab.async false
set_option linter.all false
set_option maxRecDepth 100000
/-! Rd: Web(tops). -/
namespace Qk
open PySem PySem.Spec L2 Ev Wk
set_option autoImplicit false
/-! ### dicts of sides to True -/
def kD (K : List Sd) : List (D × D) := K.map fun s => (sd s, .bl true)
def addK (K : List Sd) (s : Sd) : List Sd := if s ∈ K then K else K ++ [s]
theorem dHas_kD (K : List Sd) (s : Sd) : dHas (kD K) (sd s) = decide (s ∈ K) := by
  have := any_sds K s
  rw [List.any_map] at this
  unfold dHas kD
  rw [List.any_map]
  exact this
theorem dPut_kD (K : List Sd) (s : Sd) : dPut (kD K) (sd s) (.bl true) = kD (addK K s) := by
  unfold dPut addK
  rw [dHas_kD]
  by_cases h : s ∈ K
  · rw [decide_eq_true h, if_pos rfl, if_pos h]
    unfold kD
    rw [List.map_map]
    refine List.map_congr_left fun u _ => ?_
    show (if D.eqv (sd u) (sd s) = true then (sd u, D.bl true) else (sd u, D.bl true)) = _
    split <;> rfl
  · rw [decide_eq_false h, if_neg (by simp), if_neg h]
    unfold kD
    rw [List.map_append]; rfl
theorem kD_len (K : List Sd) : (kD K).length = K.length := List.length_map ..
theorem addK_mem {K : List Sd} {s u : Sd} : u ∈ addK K s ↔ u ∈ K ∨ u = s := by
  unfold addK
  split
  · rename_i h
    exact ⟨.inl, fun z => z.elim id fun e => e ▸ h⟩
  · rw [List.mem_append, List.mem_singleton]
theorem addK_nodup {K : List Sd} {s : Sd} (h : K.Nodup) : (addK K s).Nodup := by
  unfold addK
  split
  · exact h
  · rename_i n
    rw [List.nodup_append]
    exact ⟨h, by simp, fun a ha b hb => by
      rw [List.mem_singleton] at hb
      subst hb
      exact fun e => n (e ▸ ha)⟩
def addKs (K : List Sd) (S : List Sd) : List Sd := S.foldl addK K
theorem addKs_mem {u : Sd} : ∀ {S K : List Sd}, u ∈ addKs K S ↔ u ∈ K ∨ u ∈ S
  | [], K => by simp [addKs]
  | s :: S, K => by
    show u ∈ addKs (addK K s) S ↔ _
    rw [addKs_mem (S := S), addK_mem, List.mem_cons, or_assoc]
theorem addKs_nodup : ∀ {S K : List Sd}, K.Nodup → (addKs K S).Nodup
  | [], _, h => h
  | s :: S, K, h => addKs_nodup (S := S) (K := addK K s) (addK_nodup h)
/-- the sides under some tops, in the order of the text -/
def known (ts : List Sd) : List Sd := addKs [] (ts.flatMap partsL)
theorem known_mem {ts : List Sd} {s : Sd} : s ∈ known ts ↔ Under ts s := by
  unfold known Under
  rw [addKs_mem, List.mem_flatMap]
  constructor
  · rintro (h | ⟨t, ht, h⟩)
    · cases h
    · obtain ⟨h1, h2⟩ := mem_parts.mp h
      exact ⟨h2, t, ht, h1⟩
  · rintro ⟨h2, t, ht, h1⟩
    exact .inr ⟨t, ht, mem_parts.mpr ⟨h1, h2⟩⟩
theorem known_nodup (ts : List Sd) : (known ts).Nodup := addKs_nodup List.nodup_nil
theorem known_len {cs : Sd} {ts : List Sd} (h : Tops cs ts) : (known ts).length ≤ 128 :=
  Nat.le_trans (nodup_le (m := partsL cs) (known_nodup ts) fun s hs => by
    obtain ⟨ne, t, ht, hst⟩ := known_mem.mp hs
    exact mem_parts.mpr ⟨hst.trans (h.sub t ht).1, ne⟩) (Nat.le_trans (parts_len cs) (Nat.pow_le_pow_right (by decide) h.few : 2 ^ cs.length ≤ 2 ^ 7))
theorem Tops.len {cs : Sd} {ts : List Sd} (h : Tops cs ts) : ts.length ≤ 128 :=
  Nat.le_trans (nodup_le (m := partsL cs) (pw_nodup h.srt) fun t ht => mem_parts.mpr ⟨(h.sub t ht).1, (h.sub t ht).2.1⟩) (Nat.le_trans (parts_len cs) (Nat.pow_le_pow_right (by decide) h.few : 2 ^ cs.length ≤ 2 ^ 7))
theorem Tops.form {cs : Sd} {ts : List Sd} (h : Tops cs ts) {s : Sd} (hs : Under ts s) : formB s = true ∧ s.length ≤ 5 ∧ s ≠ [] := by
  obtain ⟨ne, t, ht, hst⟩ := hs
  obtain ⟨a, b, c⟩ := h.sub t ht
  have := hst.length_le
  have : 0 < s.length := List.length_pos_iff.mpr ne
  exact ⟨form_ok.mpr ⟨by omega, by omega, fun x hx => h.lo x ((hst.trans a).mem hx), h.asc.sublist (hst.trans a)⟩, by omega, ne⟩
theorem Tops.under {cs : Sd} {ts : List Sd} (h : Tops cs ts) {t : Sd} (ht : t ∈ ts) : Under ts t := ⟨(h.sub t ht).2.1, t, ht, List.Sublist.refl _⟩
/-! ### the first look -/
def wA (ts : List Sd) (f t s p g : Option Ev.S) : Fr := [some .prv, some (.imm (tupS ts)), f, t, s, p, g]
def wT1 : M Fl := (mIf (bOr (bNot (mTru (.val (mFz (m1 (fun d => fIsi .tup d d) (.pk 1)))))) (bOr (bNot (mTru (.val (mFz (m1 fAll (.val (mFz (mLc (itD (mV 1)) (.nm 3) mYes (mFz (mCall 1 g_is_side_form [(mV 3)])) [3])))))))) (bNot (mTru (.val (mFz (mCall 1 g_is_ascending [(mV 1)]))))))) mNo mNx)
theorem all_true {α : Type} {f : α → Bool} {l : List α} (h : ∀ x ∈ l, f x = true) : (l.map f).all id = true := by
  rw [List.all_map, List.all_eq_true]
  exact h
theorem wT1_eq {cs : Sd} {ts : List Sd} (h : Tops cs ts) : wT1 (wA ts none none none none none) = some (.nx, wA ts none none none none none) := by
  have lim : LIM = 16777216 := rfl
  have hl := h.len
  unfold wT1
  have t1 : bNot (mTru (.val (mFz (m1 (fun d => fIsi .tup d d) (.pk 1))))) (wA ts none none none none none) = some (false, wA ts none none none none none) := rfl
  have e := mLc_nm (j := 3) (it := itD (mV 1)) (σ := wA ts none none none none none) (σ1 := wA ts none none none none none) (ds := ts.map sd) (te := mFz (mCall 1 g_is_side_form [(mV 3)])) (f := fun _ => .bl true) rfl (by rw [List.length_map]; omega) (by show 3 < 7; decide) (fun d hd => by
    obtain ⟨t, ht, rfl⟩ := List.mem_map.mp hd
    have := side_form_eq t
    rw [(h.form (h.under ht)).1] at this
    exact fz_eq (call_eq (ds := [sd t]) rfl rfl this))
  have e' : (ts.map sd).map (fun _ => D.bl true) = ts.map fun x => D.bl ((fun _ : Sd => true) x) := by rw [List.map_map]; rfl
  rw [e'] at e
  have a := fAll_map (fun _ : Sd => true) ts
  rw [all_true fun _ _ => rfl] at a
  have t2 := not_eq (tru_v (fz_eq (m1_v (fz_eq e) a)))
  have a2 := asc_sds (k := dictable (ts.map sd)) (S := ts) (by omega)
  rw [lts_iff.mpr h.srt] at a2
  have t3 := not_eq (tru_v (σ := wA ts none none none none none) (fz_eq (call_eq (n := 1) (g := g_is_ascending) (ms := [mV 1]) (ds := [tupS ts]) rfl rfl a2)))
  exact (ifF ((orF t1).trans ((orF t2).trans t3))).trans rfl
/-! ### the sides -/
def wT3b : M Fl := (mSeq (mPut 2 (mV 5) (mC (.bl true))) (mIf (mT (m2 (fI2 fun i j => .bl (decide (j < i))) (.val (mFz (m1 fLen (.pk 2)))) (.val (mC (.int 600))))) (mSeq (mDrop (mCall 1 g_check_tops [(mV 1)])) mNo) mNx))
def wT3a : M Fl := mFor (itD (mFz (mCall 1 g_parts_of [(mV 3)]))) (.nm 5) wT3b
def wT3 : M Fl := mFor (itD (mV 1)) (.nm 3) wT3a
theorem in_loop {A B t s g : Option Ev.S} : ∀ (S K : List Sd) (p : Option Ev.S), okS p = true → (∀ n, n ≤ S.length → (addKs K (S.take n)).length ≤ 600) → ∃ p', okS p' = true ∧
    lpF (.nm 5) wT3b (S.map sd) [A, B, some (.ds false true (kD K)), t, s, p, g] = some (.nx, [A, B, some (.ds false true (kD (addKs K S))), t, s, p', g])
  | [], K, p, hp, _ => ⟨p, hp, rfl⟩
  | u :: S, K, p, hp, hb => by
    have b0 : K.length ≤ 600 := hb 0 (Nat.zero_le _)
    have b1 : (addK K u).length ≤ 600 := hb 1 (by simp)
    obtain ⟨p', k, e⟩ := in_loop (A := A) (B := B) (t := t) (s := s) (g := g) S (addK K u) (some (.imm (sd u))) rfl (fun n hn => by
      have := hb (n + 1) (by simp; omega)
      rwa [List.take_succ_cons] at this)
    refine ⟨p', k, ?_⟩
    rw [List.map_cons]
    refine (lpF_nx (put_nm (x := p) rfl hp) ?_).trans e
    show wT3b [A, B, some (.ds false true (kD K)), t, s, some (.imm (sd u)), g] = some (.nx, [A, B, some (.ds false true (kD (addK K u))), t, s, some (.imm (sd u)), g])
    have e1 : mPut 2 (mV 5) (mC (.bl true)) [A, B, some (.ds false true (kD K)), t, s, some (.imm (sd u)), g] = some (.nx, [A, B, some (.ds false true (kD (addK K u))), t, s, some (.imm (sd u)), g]) := by
      have hl : (kD K).length < LIM := by rw [kD_len]; exact Nat.lt_of_le_of_lt b0 (by decide)
      unfold mPut
      simp [mC, vw, mV, Ev.S.toD, keyOk_sd, hl, dPut_kD]
    refine (seq_nx e1).trans ?_
    refine (ifF (σ' := [A, B, some (.ds false true (kD (addK K u))), t, s, some (.imm (sd u)), g]) (mT_eq (m2_vv (fz_eq (m1_p rfl rfl)) rfl ?_))).trans rfl
    show some (Ev.S.imm (.bl (decide ((600 : Int) < ((kD (addK K u)).length : Int))))) = _
    rw [kD_len, decide_eq_false (by omega)]
theorem out_loop {A B s g : Option Ev.S} : ∀ (ts K : List Sd) (t p : Option Ev.S), okS t = true → okS p = true → (∀ t ∈ ts, 1 ≤ t.length ∧ t.length ≤ 5) → (∀ n, n ≤ (ts.flatMap partsL).length → (addKs K ((ts.flatMap partsL).take n)).length ≤ 600) → ∃ t' p', okS t' = true ∧ okS p' = true ∧
    lpF (.nm 3) wT3a (ts.map sd) [A, B, some (.ds false true (kD K)), t, s, p, g] = some (.nx, [A, B, some (.ds false true (kD (addKs K (ts.flatMap partsL)))), t', s, p', g])
  | [], K, t, p, ht, hp, _, _ => ⟨t, p, ht, hp, rfl⟩
  | u :: ts, K, t, p, ht, hp, hs, hb => by
    obtain ⟨u1, u5⟩ := hs u List.mem_cons_self
    have ef : (u :: ts).flatMap partsL = partsL u ++ ts.flatMap partsL := by rw [List.flatMap_cons]
    rw [ef] at hb
    obtain ⟨p1, k1, e1⟩ := in_loop (A := A) (B := B) (t := some (.imm (sd u))) (s := s) (g := g) (partsL u) K p hp fun n hn => by
      have := hb n (by rw [List.length_append]; omega)
      rwa [List.take_append_of_le_length hn] at this
    obtain ⟨t', p', k2, k3, e2⟩ := out_loop (A := A) (B := B) (s := s) (g := g) ts (addKs K (partsL u)) (some (.imm (sd u))) p1 rfl k1 (fun v hv => hs v (List.mem_cons_of_mem _ hv)) fun n hn => by
      have := hb ((partsL u).length + n) (by rw [List.length_append]; omega)
      rw [List.take_length_add_append] at this
      have e : addKs K (partsL u ++ (ts.flatMap partsL).take n) = addKs (addKs K (partsL u)) ((ts.flatMap partsL).take n) := by unfold addKs; rw [List.foldl_append]
      rwa [e] at this
    refine ⟨t', p', k2, k3, ?_⟩
    rw [List.map_cons, ef]
    have e3 : addKs K (partsL u ++ ts.flatMap partsL) = addKs (addKs K (partsL u)) (ts.flatMap partsL) := by unfold addKs; rw [List.foldl_append]
    rw [e3]
    refine (lpF_nx (put_nm (x := t) rfl ht) ?_).trans e2
    show wT3a [A, B, some (.ds false true (kD K)), some (.imm (sd u)), s, p, g] = _
    have hit : itD (mFz (mCall 1 g_parts_of [(mV 3)])) [A, B, some (.ds false true (kD K)), some (.imm (sd u)), s, p, g] = some ((partsL u).map sd, [A, B, some (.ds false true (kD K)), some (.imm (sd u)), s, p, g]) := by
      have hb : mFz (mCall 1 g_parts_of [(mV 3)]) [A, B, some (.ds false true (kD K)), some (.imm (sd u)), s, p, g] = some (.lst ((partsL u).map sd), [A, B, some (.ds false true (kD K)), some (.imm (sd u)), s, p, g]) := fz_eq (call_eq (ds := [sd u]) rfl rfl (parts_eq u u1 u5))
      unfold itD
      rw [hb]; rfl
    exact (for_eq hit).trans e1
theorem wT3_eq {cs : Sd} {ts : List Sd} (h : Tops cs ts) : ∃ t' p', okS t' = true ∧ okS p' = true ∧ wT3 (wA ts (some (.ds false true [])) none none none none) = some (.nx, wA ts (some (.ds false true (kD (known ts)))) t' none p' none) := by
  obtain ⟨t', p', k1, k2, e⟩ := out_loop (A := some .prv) (B := some (.imm (tupS ts))) (s := none) (g := none) ts [] none none rfl rfl (fun t ht => ⟨List.length_pos_iff.mpr (h.sub t ht).2.1, (h.sub t ht).2.2⟩) fun n _ => by
    refine Nat.le_trans (nodup_le (m := partsL cs) (addKs_nodup List.nodup_nil) fun s hs => ?_) (Nat.le_trans (Nat.le_trans (parts_len cs) (Nat.pow_le_pow_right (by decide) h.few : 2 ^ cs.length ≤ 2 ^ 7)) (by decide))
    rcases addKs_mem.mp hs with z | z
    · cases z
    · obtain ⟨t, ht, hz⟩ := List.mem_flatMap.mp (List.mem_of_mem_take z)
      obtain ⟨h1, h2⟩ := mem_parts.mp hz
      exact mem_parts.mpr ⟨h1.trans (h.sub t ht).1, h2⟩
  exact ⟨t', p', k1, k2, (for_eq (ds := ts.map sd) (σ1 := wA ts (some (.ds false true [])) none none none none) rfl).trans e⟩
/-! ### lots -/
def lotsL (S : List Sd) : List (List D) := (List.range 7).map fun i => (S.filter fun s => s.length == i + 1).map sd
theorem lots_add {S : List Sd} {s : Sd} (h1 : 1 ≤ s.length) (h7 : s.length ≤ 7) : ∃ l, (lotsL S)[s.length - 1]? = some l ∧ l.length ≤ S.length ∧ (lotsL S).set (s.length - 1) (l ++ [sd s]) = lotsL (S ++ [s]) := by
  have hk : s.length - 1 < 7 := by omega
  refine ⟨(S.filter fun u => u.length == (s.length - 1) + 1).map sd, ?_, ?_, ?_⟩
  · unfold lotsL
    rw [List.getElem?_map, List.getElem?_range hk]; rfl
  · rw [List.length_map]; exact List.length_filter_le _ _
  · unfold lotsL
    apply List.ext_getElem?
    intro i
    rw [List.getElem?_set]
    by_cases e : s.length - 1 = i
    · subst e
      rw [if_pos rfl, if_pos (by simpa using hk), List.getElem?_map, List.getElem?_range hk]
      show some _ = some (((S ++ [s]).filter fun u => u.length == (s.length - 1) + 1).map sd)
      rw [List.filter_append, List.map_append]
      have : [s].filter (fun u => u.length == (s.length - 1) + 1) = [s] := by simp; omega
      rw [this]; rfl
    · rw [if_neg e, List.getElem?_map, List.getElem?_map]
      by_cases hi : i < 7
      · rw [List.getElem?_range hi]
        show some _ = some (((S ++ [s]).filter fun u => u.length == i + 1).map sd)
        rw [List.filter_append]
        have : [s].filter (fun u => u.length == i + 1) = [] := by simp; omega
        rw [this, List.append_nil]
      · rw [List.getElem?_eq_none (by simp; omega)]; rfl
def wT6b : MU (List (List D)) := uApp (mFz (m2 (fI2 fun i j => .int (i - j)) (.val (mFz (m1 fLen (.pk 4)))) (.val (mC (.int 1))))) (mV 4)
theorem lots_loop {A B f t p g : Option Ev.S} : ∀ (T S : List Sd) (s : Option Ev.S), okS s = true → (∀ u ∈ T, 1 ≤ u.length ∧ u.length ≤ 7) → S.length + T.length < LIM → ∃ s', okS s' = true ∧
    lpU (.nm 4) wT6b (T.map sd) [A, B, f, t, s, p, g] (lotsL S) = some (.nx, [A, B, f, t, s', p, g], lotsL (S ++ T))
  | [], S, s, hs, _, _ => ⟨s, hs, by simp [lpU]⟩
  | u :: T, S, s, hs, hu, hl => by
    obtain ⟨u1, u7⟩ := hu u List.mem_cons_self
    have hl2 : (u :: T).length = T.length + 1 := rfl
    obtain ⟨s', k, e⟩ := lots_loop (A := A) (B := B) (f := f) (t := t) (p := p) (g := g) T (S ++ [u]) (some (.imm (sd u))) rfl (fun v hv => hu v (List.mem_cons_of_mem _ hv)) (by simp; omega)
    refine ⟨s', k, ?_⟩
    obtain ⟨l, l1, l2, l3⟩ := lots_add (S := S) u1 u7
    have e1 : wT6b [A, B, f, t, some (.imm (sd u)), p, g] (lotsL S) = some (.nx, [A, B, f, t, some (.imm (sd u)), p, g], lotsL (S ++ [u])) := by
      have ei : mFz (m2 (fI2 fun i j => .int (i - j)) (.val (mFz (m1 fLen (.pk 4)))) (.val (mC (.int 1)))) [A, B, f, t, some (.imm (sd u)), p, g] = some (.int ((u.length : Int) - 1), [A, B, f, t, some (.imm (sd u)), p, g]) := by
        refine fz_eq (s := .imm (.int ((u.length : Int) - 1))) (m2_vv (d := .int u.length) (fz_eq (s := .imm (.int u.length)) (m1_p rfl ?_)) rfl rfl)
        show some (Ev.S.imm (.int ((u.map D.int).length : Int))) = _
        rw [List.length_map]
      have hx : ixN (lotsL S).length ((u.length : Int) - 1) = some (u.length - 1) := by
        have : (lotsL S).length = 7 := by unfold lotsL; simp
        rw [this]
        unfold ixN
        rw [if_pos (by omega), if_pos (by omega)]
        congr 1; omega
      have ll : l.length < LIM := by omega
      unfold wT6b uApp
      rw [ei]
      dsimp only
      rw [show mV 4 [A, B, f, t, some (.imm (sd u)), p, g] = some (sd u, [A, B, f, t, some (.imm (sd u)), p, g]) from rfl]
      dsimp only
      rw [hx]
      dsimp only
      rw [l1]
      dsimp only
      rw [if_pos ll, l3]
    rw [List.map_cons, show S ++ u :: T = (S ++ [u]) ++ T by simp]
    show (match Tg.put (.nm 4) (sd u) [A, B, f, t, s, p, g] with | some σ1 => _ | none => none) = _
    rw [put_nm (x := s) rfl hs]
    rw [show ([A, B, f, t, s, p, g].set 4 (some (.imm (sd u))) : Fr) = [A, B, f, t, some (.imm (sd u)), p, g] from rfl]
    dsimp only
    rw [e1]
    exact e
/-! ### check_walls -/
def webD (ts : List Sd) : D := .ins 0 [tupS ts, .lst ((lotsL (iSort sle (known ts))).map D.lst), .dct true (kD (known ts))]
theorem kDs : ∀ (T S : List Sd), (T.map sd).foldl (fun a k => dPut a k (.bl true)) (kD S) = kD (addKs S T)
  | [], _ => rfl
  | s :: T, S => by
    show (T.map sd).foldl _ (dPut (kD S) (sd s) (.bl true)) = _
    rw [dPut_kD, kDs T]; rfl
theorem dcT_loop {σ : Fr} {j : Nat} (h0 : σ[j]? = some none) : ∀ (T S : List Sd), lpDcT (.nm j) mYes (mV j) (mC (.bl true)) [j] (T.map sd) (kD S) σ = some (kD (addKs S T), σ)
  | [], _ => rfl
  | s :: T, S => by
    have hj : j < σ.length := (List.getElem?_eq_some_iff.mp h0).1
    have hh : hide (σ.set j (some (.imm (sd s)))) [j] = σ := by
      show (σ.set j (some (.imm (sd s)))).set j none = σ
      rw [List.set_set]; exact set_same h0
    have hv : mV j (σ.set j (some (.imm (sd s)))) = some (sd s, σ.set j (some (.imm (sd s)))) := by
      unfold mV
      rw [List.getElem?_set_self hj]
    rw [List.map_cons]
    unfold lpDcT
    rw [put_nm (x := none) h0 rfl]
    simp only [mYes, hv, keyOk_sd, if_true, mC, hh, dPut_kD]
    exact dcT_loop h0 T (addK S s)
theorem mDcT_eq {σ σ1 : Fr} {j : Nat} {it : MI} {T : List Sd} (hi : it σ = some (T.map sd, σ1)) (hl : T.length ≤ LIM) (hj : j < σ1.length) : mDcT it (.nm j) mYes (mV j) (mC (.bl true)) [j] σ = some (.ds false true (kD (addKs [] T)), σ1) := by
  have h0 : (σ1.set j none)[j]? = some none := by rw [List.getElem?_set_self hj]
  have e := dcT_loop h0 T []
  have hh : hide σ1 [j] = σ1.set j none := rfl
  unfold mDcT
  rw [hi]
  show (if (T.map sd).length ≤ LIM then _ else _) = _
  rw [if_pos (by rw [List.length_map]; exact hl), hh, show ([] : List (D × D)) = kD [] from rfl, e]
  show some (Ev.S.ds false true _, shown (σ1.set j none) σ1 [j]) = _
  rw [shown1]
theorem in_kD (b : Bool) (s : Sd) (K : List Sd) : fInA b (sd s) (.dct true (kD K)) = some (.imm (.bl (b ^^ decide (s ∈ K)))) := by
  show (if keyOk true (sd s) = true then some (Ev.S.imm (.bl (b ^^ dHas (kD K) (sd s)))) else none) = _
  rw [if_pos (keyOk_sd s), dHas_kD]
def cwB : M Fl := (mIf (mTru (.val (mFz (m1 fAny (.val (mFz (mLc (itD (mFz (mCall 1 g_walls_of [(mV 2)]))) (.nm 4) mYes (mFz (m2 (fInA false) (.pk 4) (.pk 1))) [4]))))))) mNo mNx)
theorem cw_loop {A : Option Ev.S} {K : List Sd} : ∀ (S : List Sd) (k s : Option Ev.S), okS s = true → (k = some (.ds false true (kD K)) ) → (∀ u ∈ S, (1 ≤ u.length ∧ u.length ≤ 5) ∧ ∀ w ∈ wallsL u, w ∉ K) → ∃ s', lpF (.nm 2) cwB (S.map sd) [A, k, s, none, none] = some (.nx, [A, k, s', none, none])
  | [], k, s, _, _, _ => ⟨s, rfl⟩
  | u :: S, k, s, hs, hk, hu => by
    obtain ⟨⟨u1, u5⟩, hw⟩ := hu u List.mem_cons_self
    obtain ⟨s', e⟩ := cw_loop (A := A) S k (some (.imm (sd u))) rfl hk fun v hv => hu v (List.mem_cons_of_mem _ hv)
    refine ⟨s', ?_⟩
    rw [List.map_cons]
    refine (lpF_nx (put_nm (x := s) rfl hs) ?_).trans e
    show cwB [A, k, some (.imm (sd u)), none, none] = some (.nx, [A, k, some (.imm (sd u)), none, none])
    subst hk
    have hit : itD (mFz (mCall 1 g_walls_of [(mV 2)])) [A, some (.ds false true (kD K)), some (.imm (sd u)), none, none] = some ((wallsL u).map sd, [A, some (.ds false true (kD K)), some (.imm (sd u)), none, none]) := by
      have w0 := walls_eq u u1 u5
      have ew : ((faces u).map fun p => sd p.1) = (wallsL u).map sd := by unfold wallsL; rw [List.map_map]; rfl
      rw [ew] at w0
      have hb : mFz (mCall 1 g_walls_of [(mV 2)]) [A, some (.ds false true (kD K)), some (.imm (sd u)), none, none] = some (.lst ((wallsL u).map sd), [A, some (.ds false true (kD K)), some (.imm (sd u)), none, none]) := fz_eq (call_eq (ds := [sd u]) rfl rfl w0)
      unfold itD
      rw [hb]; rfl
    have wl := walls_len u
    have e1 := mLc_nm (j := 4) (te := mFz (m2 (fInA false) (.pk 4) (.pk 1))) (f := fun _ => .bl false) hit (by rw [List.length_map]; exact Nat.le_trans (Nat.le_trans wl u5) (by decide)) (by show 4 < 5; decide) (fun d hd => by
      obtain ⟨w, hm, rfl⟩ := List.mem_map.mp hd
      refine fz_eq (s := .imm (.bl false)) (m2_pp (d := sd w) (e := .dct true (kD K)) rfl rfl ?_)
      rw [in_kD, decide_eq_false (hw w hm)]; rfl)
    have e' : ((wallsL u).map sd).map (fun _ => D.bl false) = (wallsL u).map fun x => D.bl ((fun _ : Sd => false) x) := by rw [List.map_map]; rfl
    rw [e'] at e1
    have a := fAny_map (fun _ : Sd => false) (wallsL u)
    rw [show ((wallsL u).map fun _ => false).any id = false by simp] at a
    exact (ifF (tru_v (fz_eq (m1_v (fz_eq e1) a)))).trans rfl
theorem walls_ok {cs : Sd} {ts : List Sd} (h : Tops cs ts) : g_check_walls [webD ts] = some (.imm .non) := by
  have lim : LIM = 16777216 := rfl
  have tl := h.len
  have kt : ∀ s, s ∈ addKs [] ts ↔ s ∈ ts := fun s => by rw [addKs_mem]; simp
  obtain ⟨s', e⟩ := cw_loop (A := some (.imm (webD ts))) (K := addKs [] ts) (known ts) (some (.ds false true (kD (addKs [] ts)))) none rfl rfl fun u hu => by
    obtain ⟨ne, t, ht, hst⟩ := known_mem.mp hu
    obtain ⟨_, u5, _⟩ := h.form (known_mem.mp hu)
    refine ⟨⟨List.length_pos_iff.mpr ne, u5⟩, fun w hw hk => ?_⟩
    obtain ⟨w1, w2, w3⟩ := mem_walls.mp hw
    have := h.anti w ((kt w).mp hk) t ht (w1.trans hst)
    have l2 := hst.length_le
    rw [this] at w2
    omega
  refine runV_nx (σ := [some (.imm (webD ts)), some (.ds false true (kD (addKs [] ts))), s', none, none]) ?_
  have e1 := mDcT_eq (j := 3) (it := itD (mFld 0 0 (mV 0))) (T := ts) (σ := [some (.imm (webD ts)), none, none, none, none]) (σ1 := [some (.imm (webD ts)), none, none, none, none]) rfl (by omega) (by show 3 < 5; decide)
  refine (seq_nx (σ' := [some (.imm (webD ts)), some (.ds false true (kD (addKs [] ts))), none, none, none]) ((set_eq e1 rfl).trans rfl)).trans ?_
  have ek : (known ts).map sd = (kD (known ts)).map (·.1) := by unfold kD; rw [List.map_map]; rfl
  rw [ek] at e
  exact (for_eq (T := .nm 2) (b := cwB) (it := itD (mFld 0 2 (mV 0))) (ds := (kD (known ts)).map (fun p : D × D => p.1)) rfl).trans e
/-! ### the web -/
theorem m_Web_is : m_Web = wSeq (uL wT1) (wSeq (uL (mSet 2 (mNew true))) (wSeq (uL wT3) (wTops (mV 1) (wLots (itR1 (mC (.int 7))) (.nm 6) [6] fun d => (wSeq (uFor (itD (mFz (m1 fSort (.pk 2)))) (.nm 4) wT6b) (wKnown (mV 2) fun k => wFz d k (mDrop (mCall 1 g_check_walls [(mV 0)])))))))) := by
  unfold m_Web wT1 wT3 wT3a wT3b wT6b
  rfl
theorem wSeq_L {m : M Fl} {n : Fr → Unit → Option D} {σ σ' : Fr} (h : m σ = some (.nx, σ')) : wSeq (uL m) n σ () = n σ' () := by
  unfold wSeq uL
  rw [h]
theorem wTops_eq {m : M D} {n : Fr → D → Option D} {σ σ' : Fr} {d : D} (h : m σ = some (d, σ')) : wTops m n σ () = n σ' d := by
  unfold wTops
  rw [h]
theorem wLots_eq {it : MI} {T : Tg} {vs : List Nat} {n : D → Fr → List (List D) → Option D} {σ σ' : Fr} {d : D} {xs : List D} (h : mLc it T mYes (mC .non) vs σ = some (.ls false xs, σ')) : wLots it T vs n σ d = n d σ' (xs.map fun _ => []) := by
  unfold wLots
  rw [h]
theorem wSeq_U {R : Type} {m : MU R} {n : Fr → R → Option D} {σ σ' : Fr} {r r' : R} (h : m σ r = some (.nx, σ', r')) : wSeq m n σ r = n σ' r' := by
  unfold wSeq
  rw [h]
theorem wKnown_eq {m : M D} {n : D → Fr → List (List D) → Option D} {σ σ' : Fr} {d : D} {r : List (List D)} (h : m σ = some (d, σ')) : wKnown m n σ r = n d σ' r := by
  unfold wKnown
  rw [h]
theorem uFor_eq {R : Type} {it : MI} {T : Tg} {b : MU R} {σ σ1 : Fr} {ds : List D} {r : R} (h : it σ = some (ds, σ1)) : uFor it T b σ r = lpU T b ds σ1 r := by
  unfold uFor
  rw [h]
theorem wFz_eq {d k : D} {m : M Fl} {σ σ' : Fr} {r : List (List D)} (h : m (σ.set 0 (some (.imm (.ins 0 [d, .lst (r.map D.lst), k])))) = some (.nx, σ')) : wFz d k m σ r = some (.ins 0 [d, .lst (r.map D.lst), k]) := by
  unfold wFz
  rw [h]
theorem web_lots {cs : Sd} {ts : List Sd} (h : Tops cs ts) {t' p' : Option Ev.S} : ∃ s', mLc (itR1 (mC (.int 7))) (.nm 6) mYes (mC .non) [6] (wA ts (some (.ds false true (kD (known ts)))) t' none p' none) = some (.ls false ((dRng 0 7).map fun _ => D.non), wA ts (some (.ds false true (kD (known ts)))) t' none p' none) ∧
    uFor (itD (mFz (m1 fSort (.pk 2)))) (.nm 4) wT6b (wA ts (some (.ds false true (kD (known ts)))) t' none p' none) (lotsL []) = some (.nx, wA ts (some (.ds false true (kD (known ts)))) t' s' p' none, lotsL (iSort sle (known ts))) := by
  have lim : LIM = 16777216 := rfl
  have kl := known_len h
  have hs : fSort (.dct true (kD (known ts))) = some (.ls false ((iSort sle (known ts)).map sd)) := by
    have e : (kD (known ts)).map (·.1) = (known ts).map sd := by unfold kD; rw [List.map_map]; rfl
    have ok : (okSort ((kD (known ts)).map (·.1)) && D.pls ((kD (known ts)).map (·.1))) = true := by
      rw [e, okSort_sds (by omega) (fun s m => (known_mem.mp m).1), pls_sds]; rfl
    show (if (okSort ((kD (known ts)).map (·.1)) && D.pls ((kD (known ts)).map (·.1))) = true then some (Ev.S.ls false (iSort dLe ((kD (known ts)).map (·.1)))) else none) = _
    rw [if_pos ok, e, iSort_map dLe_sd]
  have fm : ∀ u ∈ iSort sle (known ts), 1 ≤ u.length ∧ u.length ≤ 7 := fun u hu => by
    obtain ⟨a, b, c⟩ := h.form (known_mem.mp (iSort_mem.mp hu))
    exact ⟨List.length_pos_iff.mpr c, by omega⟩
  have ll : (iSort sle (known ts)).length ≤ 128 := by rw [iSort_len]; exact kl
  generalize known ts = K at *
  generalize iSort sle K = L at *
  generalize kD K = KD at *
  unfold wA
  generalize tupS ts = T at *
  obtain ⟨s', k4, e4⟩ := lots_loop (A := some .prv) (B := some (.imm T)) (f := some (.ds false true KD)) (t := t') (p := p') (g := none) L [] none rfl fm (by simp; omega)
  rw [List.nil_append] at e4
  have hit : itD (mFz (m1 fSort (.pk 2))) [some .prv, some (.imm T), some (.ds false true KD), t', none, p', none] = some (L.map sd, [some .prv, some (.imm T), some (.ds false true KD), t', none, p', none]) := by
    unfold itD
    rw [fz_eq (m1_p (d := .dct true KD) rfl hs)]; rfl
  refine ⟨s', ?_, (uFor_eq hit).trans e4⟩
  exact mLc_nm (j := 6) (it := itR1 (mC (.int 7))) (σ := [some .prv, some (.imm T), some (.ds false true KD), t', none, p', none]) (σ1 := [some .prv, some (.imm T), some (.ds false true KD), t', none, p', none]) (ds := dRng 0 7) (te := mC .non) (f := fun _ => .non) rfl (by decide) (by show 6 < 7; decide) (fun _ _ => rfl)
theorem web_fz {ts : List Sd} (cw : g_check_walls [webD ts] = some (.imm .non)) {t' s' p' : Option Ev.S} : wKnown (mV 2) (fun k => wFz (tupS ts) k (mDrop (mCall 1 g_check_walls [(mV 0)]))) (wA ts (some (.ds false true (kD (known ts)))) t' s' p' none) (lotsL (iSort sle (known ts))) = some (webD ts) := by
  unfold webD at *
  unfold wA
  generalize known ts = K at *
  generalize lotsL (iSort sle K) = L at *
  generalize kD K = KD at *
  generalize tupS ts = T at *
  rw [wKnown_eq (d := .dct true KD) (σ' := [some .prv, some (.imm T), some (.imm (.dct true KD)), t', s', p', none]) rfl]
  exact wFz_eq (σ' := [some (.imm (.ins 0 [T, .lst (L.map D.lst), .dct true KD])), some (.imm T), some (.imm (.dct true KD)), t', s', p', none]) (drop_eq (call_eq (ds := [.ins 0 [T, .lst (L.map D.lst), .dct true KD]]) rfl rfl cw))
theorem web_eq {cs : Sd} {ts : List Sd} (h : Tops cs ts) : g_Web [tupS ts] = some (.imm (webD ts)) := by
  suffices q : m_Web (wA ts none none none none none) () = some (webD ts) by
    show (m_Web (wA ts none none none none none) ()).map Ev.S.imm = _
    rw [q]; rfl
  obtain ⟨t', p', k1, k2, e3⟩ := wT3_eq h
  obtain ⟨s', el, eu⟩ := web_lots h (t' := t') (p' := p')
  rw [m_Web_is, wSeq_L (wT1_eq h), wSeq_L (σ' := wA ts (some (.ds false true [])) none none none none) rfl, wSeq_L e3, wTops_eq (d := tupS ts) (σ' := wA ts (some (.ds false true (kD (known ts)))) t' none p' none) rfl, wLots_eq el]
  have e0 : ((dRng 0 7).map fun _ => D.non).map (fun _ => ([] : List D)) = lotsL [] := rfl
  rw [e0, wSeq_U eu]
  exact web_fz (walls_ok h)
end Qk
end

section
set_option Elab.async false
set_option linter.all false
set_option maxRecDepth 100000
/-! Re: drawn corners, drawn webs. -/
namespace Qk
open PySem PySem.Spec L2 Ev Wk
set_option autoImplicit false
/-! ### calls that draw -/
theorem callH {b : Bool} {j n : Nat} {σ σ1 : Fr} {s s0 : Ev.S} {g : Ev.S → List D → Option (Ev.S × Ev.S)} {ms : List (M D)} {ds : List D} {r s' : Ev.S} (e0 : σ[j]? = some (some s0)) (hm : mL ms σ = some (ds, σ1)) (e : σ1[j]? = some (some s)) (h : HandOk b s) (hl : ds.length + 1 = n) (hg : g s ds = some (r, s')) (h' : HandOk true s') :
    ∃ s2, mCallI j n g ms σ = some (r, σ1.set j (some s2)) ∧ HandOk b s2 := by
  refine ⟨s'.setIo b, ?_, h'.io⟩
  have := callI_eq e0 hm e h.ls.1 hl hg
  rw [h.ls.2] at this
  exact this
theorem some_ok {b : Bool} {s : Ev.S} {l : List D} (h : HandOk b s) (h0 : 0 < l.length) (h1 : l.length < 1073741824) : ∃ d s', g_law_some s [.lst l] = some (.imm d, s') ∧ d ∈ l ∧ HandOk true s' := by
  obtain ⟨i, s', e, i0, i1, hh⟩ := call_draw (b := true) (j := 0) (σ := startF (s.setIo true :: [.lst l].map .imm) 2) (s := s.setIo true) (n := (l.length : Int)) (ms := [(mFz (m1 fLen (.pk 1)))]) rfl rfl h.io (by omega) (by omega)
  have hi : i.toNat < l.length := by omega
  refine ⟨l[i.toNat], s', ?_, List.getElem_mem hi, hh⟩
  have hx : fIx (.lst l) (.int i) = some (.imm l[i.toNat]) := by
    show (atI l i).map Ev.S.imm = _
    rw [atI_nat (n := i.toNat) (by omega), List.getElem?_eq_getElem hi]; rfl
  refine runI_rt (σ := [some s', some (.imm (.lst l))]) ?_ rfl hh.ls.1
  exact ret_eq (m2_pv (d := .lst l) (d0 := .lst l) rfl e rfl hx)
/-! ### comprehensions that draw -/
def All2 {α β : Type} (Q : α → β → Prop) : List α → List β → Prop
  | [], [] => True
  | a :: l, b :: m => Q a b ∧ All2 Q l m
  | _, _ => False
theorem lpC_st {j : Nat} {te : M D} {F : Ev.S → Fr} {b : Bool} {Q : D → D → Prop} (h0 : ∀ h, (F h)[j]? = some none) : ∀ (l : List D), (∀ h d, HandOk b h → d ∈ l → ∃ x h', te ((F h).set j (some (.imm d))) = some (x, (F h').set j (some (.imm d))) ∧ HandOk b h' ∧ Q d x) →
    ∀ h, HandOk b h → ∃ xs h', lpC (.nm j) mYes te [j] l (F h) = some (xs, F h') ∧ HandOk b h' ∧ All2 Q l xs
  | [], _, h, hh => ⟨[], h, rfl, hh, trivial⟩
  | d :: l, ht, h, hh => by
    obtain ⟨x, h1, e1, k1, q1⟩ := ht h d hh List.mem_cons_self
    obtain ⟨xs, h2, e2, k2, q2⟩ := lpC_st h0 l (fun h' d' a m => ht h' d' a (List.mem_cons_of_mem _ m)) h1 k1
    refine ⟨x :: xs, h2, ?_, k2, q1, q2⟩
    have hh2 : hide ((F h1).set j (some (.imm d))) [j] = F h1 := by
      show ((F h1).set j (some (.imm d))).set j none = F h1
      rw [List.set_set]; exact set_same (h0 h1)
    have p := put_nm (d := d) (h0 h) rfl
    simp only [lpC, p, mYes, e1, hh2, e2]
theorem shown_none {σ τ : Fr} {j : Nat} (h : τ[j]? = some none) (k : σ[j]? = some none) : shown σ τ [j] = σ := by
  apply List.ext_getElem?
  intro i
  unfold shown
  rw [List.getElem?_mapIdx]
  by_cases e : i = j
  · subst e
    rw [k]
    simp [h]
  · cases q : σ[i]? with
    | none => rfl
    | some x => simp [e]
theorem mLc_st {j : Nat} {it : MI} {te : M D} {σ : Fr} {F : Ev.S → Fr} {b : Bool} {Q : D → D → Prop} {l : List D} {h : Ev.S} (hi : it σ = some (l, F h)) (hl : l.length ≤ LIM) (h0 : ∀ h, (F h)[j]? = some none) (hh : HandOk b h) (ht : ∀ h d, HandOk b h → d ∈ l → ∃ x h', te ((F h).set j (some (.imm d))) = some (x, (F h').set j (some (.imm d))) ∧ HandOk b h' ∧ Q d x) :
    ∃ xs h', mLc it (.nm j) mYes te [j] σ = some (.ls false xs, F h') ∧ HandOk b h' ∧ All2 Q l xs := by
  obtain ⟨xs, h', e, k, q⟩ := lpC_st h0 l ht h hh
  refine ⟨xs, h', ?_, k, q⟩
  have e2 : hide (F h) [j] = F h := set_same (h0 h)
  unfold mLc
  rw [hi]
  show (if l.length ≤ LIM then _ else _) = _
  rw [if_pos hl, e2, e]
  show some (Ev.S.ls false xs, shown (F h') (F h) [j]) = _
  rw [shown_none (h0 h) (h0 h')]
/-! ### corners -/
structure Crn (many : Nat) (cs : Sd) : Prop where
  asc : Asc cs
  len : cs.length = many
  lo : ∀ c ∈ cs, 0 ≤ c ∧ c ≤ 997
theorem crn_of {w : Int} (hw : 1 ≤ w) (hw2 : w ≤ 100) : ∀ (l : List Nat) (xs : List D), l.Pairwise (· < ·) → (∀ i ∈ l, i ≤ 8) → All2 (fun d x => ∃ i r : Int, d = .int i ∧ x = .int (w * i + r) ∧ 0 ≤ r ∧ r < w) (l.map fun i : Nat => D.int i) xs → ∃ cs : Sd, xs = cs.map D.int ∧ Asc cs ∧ cs.length = l.length ∧ (∀ c ∈ cs, ∃ i ∈ l, w * (i : Int) ≤ c ∧ c < w * (i : Int) + w)
  | [], [], _, _, _ => ⟨[], rfl, List.Pairwise.nil, rfl, fun _ m => by cases m⟩
  | [], _ :: _, _, _, h => h.elim
  | _ :: _, [], _, _, h => h.elim
  | i :: l, x :: xs, pw, hb, h => by
    obtain ⟨⟨i', r, e1, rfl, r0, r1⟩, h⟩ := h
    cases e1
    obtain ⟨p1, p2⟩ := List.pairwise_cons.mp pw
    obtain ⟨cs, rfl, c1, c2, c3⟩ := crn_of hw hw2 l xs p2 (fun k m => hb k (List.mem_cons_of_mem _ m)) h
    refine ⟨(w * (i : Int) + r) :: cs, rfl, List.pairwise_cons.mpr ⟨fun c hc => ?_, c1⟩, by simp [c2], fun c hc => ?_⟩
    · obtain ⟨k, hk, k1, k2⟩ := c3 c hc
      have := p1 k hk
      have : w * ((i : Int) + 1) ≤ w * (k : Int) := Int.mul_le_mul_of_nonneg_left (by omega) (by omega)
      rw [Int.mul_add] at this
      omega
    · rcases List.mem_cons.mp hc with rfl | hc
      · exact ⟨i, List.mem_cons_self, by omega, by omega⟩
      · obtain ⟨k, hk, q⟩ := c3 c hc
        exact ⟨k, List.mem_cons_of_mem _ hk, q⟩
theorem corners_ok {b : Bool} {s : Ev.S} {many : Nat} (h : HandOk b s) (hm : many ≤ 8) : ∃ cs s', g_law_corners s [.int many] = some (.ls false (cs.map D.int), s') ∧ Crn many cs ∧ HandOk true s' := by
  have lim : LIM = 16777216 := rfl
  obtain ⟨w, s1, e1, m1', k1⟩ := some_ok (b := true) (s := s.setIo true) (l := [.int 1, .int 1, .int 1, .int 3, .int 100]) h.io (by show 0 < 5; omega) (by show 5 < 1073741824; omega)
  obtain ⟨s2, e2, k2⟩ := callH (b := true) (j := 0) (n := 2) (σ := startF (s.setIo true :: [D.int many].map .imm) 4) (ms := [(mFz (mLst [(mC (.int 1)), (mC (.int 1)), (mC (.int 1)), (mC (.int 3)), (mC (.int 100))]))]) rfl rfl rfl h.io rfl e1 k1
  obtain ⟨wi, rfl, w0, w1⟩ : ∃ wi : Int, w = .int wi ∧ 1 ≤ wi ∧ wi ≤ 100 := by
    simp only [List.mem_cons, List.not_mem_nil, or_false] at m1'
    rcases m1' with rfl | rfl | rfl | rfl | rfl <;> exact ⟨_, rfl, by decide, by decide⟩
  have rng : itR1 (mV 1) [some s2, some (.imm (.int many)), some (.imm (.int wi)), none] = some (dRng 0 many, [some s2, some (.imm (.int many)), some (.imm (.int wi)), none]) := by
    have e : mV 1 [some s2, some (.imm (.int many)), some (.imm (.int wi)), none] = some (.int many, [some s2, some (.imm (.int many)), some (.imm (.int wi)), none]) := rfl
    have ok : okR (many : Int) = true := by unfold okR; simp; omega
    unfold itR1
    rw [e]
    dsimp only
    rw [if_pos ok, Int.toNat_natCast]
  obtain ⟨xs, s3, e3, k3, q3⟩ := mLc_st (j := 3) (F := fun h => [some h, some (.imm (.int many)), some (.imm (.int wi)), none]) (b := true) (te := (mFz (m2 fAdd (.val (mFz (m2 fMul (.pk 2) (.pk 3)))) (.val (mFz (mCallI 0 2 g_law_draw [(mV 2)])))))) (Q := fun d x => ∃ i r : Int, d = .int i ∧ x = .int (wi * i + r) ∧ 0 ≤ r ∧ r < wi) rng (by rw [dRng_int]; simp; omega) (fun _ => rfl) k2 (fun h d hh hd => by
    obtain ⟨i, hi, rfl⟩ := List.mem_map.mp hd
    have hi' := List.mem_range.mp hi
    obtain ⟨r, h', er, r0, r1, kr⟩ := call_draw (b := true) (j := 0) (σ := [some h, some (.imm (.int many)), some (.imm (.int wi)), some (.imm (.int (0 + (i : Int))))]) (s := h) (n := wi) (ms := [mV 2]) rfl rfl hh (by omega) (by omega)
    refine ⟨.int (wi * (0 + (i : Int)) + r), h', ?_, kr, 0 + (i : Int), r, rfl, rfl, r0, r1⟩
    refine fz_eq (s := .imm (.int (wi * (0 + (i : Int)) + r))) (m2_vv (d := .int (wi * (0 + (i : Int)))) (e := .int r) (fz_eq (s := .imm (.int (wi * (0 + (i : Int))))) (m2_pp (d := .int wi) (e := .int (0 + (i : Int))) rfl rfl ?_)) er rfl)
    show (if cMul wi (0 + (i : Int)) = true then some (Ev.S.imm (.int (wi * (0 + (i : Int))))) else none) = _
    rw [if_pos (by unfold cMul sml; simp; omega)])
  have er : dRng 0 many = (List.range many).map fun i : Nat => D.int i := by
    unfold dRng
    exact List.map_congr_left fun i _ => by rw [Int.zero_add]
  rw [er] at q3
  obtain ⟨cs, rfl, c1, c2, c3⟩ := crn_of w0 w1 (List.range many) xs List.pairwise_lt_range (fun i hi => by have := List.mem_range.mp hi; omega) q3
  refine ⟨cs, s3, ?_, ⟨c1, by rw [c2, List.length_range], fun c hc => ?_⟩, k3⟩
  · refine runI_rt (σ := [some s3, some (.imm (.int many)), some (.imm (.int wi)), none]) ?_ rfl k3.ls.1
    refine (seq_nx (σ' := [some s2, some (.imm (.int many)), some (.imm (.int wi)), none]) ((set_eq e2 rfl).trans rfl)).trans ?_
    exact ret_eq e3
  · obtain ⟨i, hi, a1, a2⟩ := c3 c hc
    have hi' := List.mem_range.mp hi
    have b1 : wi * (i : Int) ≤ 100 * 7 := by
      have x1 : wi * (i : Int) ≤ 100 * (i : Int) := Int.mul_le_mul_of_nonneg_right (by omega) (by omega)
      have : 100 * (i : Int) ≤ 100 * 7 := by omega
      omega
    have b0 : 0 ≤ wi * (i : Int) := Int.mul_nonneg (by omega) (by omega)
    omega
/-! ### sorted corners -/
def ile (a b : Int) : Bool := decide (a ≤ b)
theorem dLe_int (a b : Int) : dLe (.int a) (.int b) = ile a b := rfl
theorem insI_pw {a : Int} : ∀ {l : Sd}, Asc l → a ∉ l → Asc (insB ile a l)
  | [], _, _ => List.pairwise_singleton _ _
  | b :: l, h, hn => by
    obtain ⟨h1, h2⟩ := List.pairwise_cons.mp h
    have hab : a ≠ b := fun e => hn (e ▸ List.mem_cons_self)
    unfold insB
    split
    · rename_i c
      have c' : a ≤ b := by unfold ile at c; simpa using c
      refine List.pairwise_cons.mpr ⟨fun x hx => ?_, h⟩
      rcases List.mem_cons.mp hx with rfl | hx
      · omega
      · have := h1 x hx; omega
    · rename_i c
      have c' : b < a := by unfold ile at c; simpa using c
      refine List.pairwise_cons.mpr ⟨fun x hx => ?_, insI_pw h2 fun m => hn (List.mem_cons_of_mem _ m)⟩
      rcases insB_mem.mp hx with rfl | hx
      · exact c'
      · exact h1 x hx
theorem iSortI_pw : ∀ {l : Sd}, l.Nodup → Asc (iSort ile l)
  | [], _ => List.Pairwise.nil
  | a :: l, h => by
    obtain ⟨h1, h2⟩ := List.nodup_cons.mp h
    exact insI_pw (iSortI_pw h2) fun m => h1 (iSort_mem.mp m)
theorem sort_ints {l : Sd} (hl : l.length ≤ LIM) : fSort (.lst (l.map D.int)) = some (.ls false ((iSort ile l).map D.int)) := by
  have ok : okSort (l.map D.int) = true := by
    unfold okSort
    rw [List.length_map, decide_eq_true hl]
    have : (l.map D.int).all D.isI = true := by
      rw [List.all_eq_true]
      intro d hd
      obtain ⟨i, _, rfl⟩ := List.mem_map.mp hd; rfl
    rw [this]; simp
  show (if okSort (l.map D.int) = true then some (Ev.S.ls false (iSort dLe (l.map D.int))) else none) = _
  rw [if_pos ok, iSort_map (f := D.int) dLe_int]
/-! ### tops -/
def dwF (mo sz : Int) (h : Ev.S) (cs : Sd) (fd : List Sd) (t m : Option Ev.S) (l p : List Int) : Fr := [some h, some (.imm (.lst (cs.map D.int))), some (.imm (.int mo)), some (.imm (.int sz)), some (.ls false (fd.map sd)), t, m, some (.ls false (l.map D.int)), some (.ls false (p.map D.int))]
theorem erase_map {α β : Type} (f : α → β) : ∀ (l : List α) (n : Nat), (l.map f).eraseIdx n = (l.eraseIdx n).map f
  | [], _ => rfl
  | _ :: _, 0 => rfl
  | a :: l, n + 1 => by
    show f a :: (l.map f).eraseIdx n = f a :: (l.eraseIdx n).map f
    rw [erase_map f l n]
def dwP : M Fl := (mDrop (mApp 8 (mFz (mPopAt 7 (mFz (mCallI 0 2 g_law_draw [(mFz (m1 fLen (.pk 7)))]))))))
theorem dwP_ok {mo sz : Int} {cs : Sd} {fd : List Sd} {t : Option Ev.S} : ∀ (ks : List D) (h : Ev.S) (m : Option Ev.S) (l p : List Int), okS m = true → HandOk true h → (p ++ l).Nodup → (∀ c ∈ p ++ l, c ∈ cs) → ks.length ≤ l.length → (p ++ l).length ≤ 100 → ∃ h' m' l' p', HandOk true h' ∧ okS m' = true ∧
    lpF (.nm 6) dwP ks (dwF mo sz h cs fd t m l p) = some (.nx, dwF mo sz h' cs fd t m' l' p') ∧ (p' ++ l').Nodup ∧ (∀ c ∈ p' ++ l', c ∈ cs) ∧ p'.length = p.length + ks.length
  | [], h, m, l, p, hm, hh, nd, mem, _, _ => ⟨h, m, l, p, hh, hm, rfl, nd, mem, rfl⟩
  | k :: ks, h, m, l, p, hm, hh, nd, mem, hl, hb => by
    have lim : LIM = 16777216 := rfl
    have hl2 : (k :: ks).length = ks.length + 1 := rfl
    have hb2 : (p ++ l).length = p.length + l.length := List.length_append
    obtain ⟨i, h1, e1, i0, i1, k1⟩ := call_draw (b := true) (j := 0) (σ := dwF mo sz h cs fd t (some (.imm k)) l p) (s := h) (n := (l.length : Int)) (ms := [(mFz (m1 fLen (.pk 7)))]) (by
      have : mFz (m1 fLen (.pk 7)) (dwF mo sz h cs fd t (some (.imm k)) l p) = some (.int l.length, dwF mo sz h cs fd t (some (.imm k)) l p) := by
        refine fz_eq (s := .imm (.int l.length)) (m1_p rfl ?_)
        show some (Ev.S.imm (.int ((l.map D.int).length : Int))) = _
        rw [List.length_map]
      exact mL_cons this mL_nil) rfl hh (by omega) (by omega)
    have hi : i.toNat < l.length := by omega
    have e2 := popAt_eq (i := 7) (l := l.map D.int) (σ := dwF mo sz h cs fd t (some (.imm k)) l p) (σ1 := dwF mo sz h1 cs fd t (some (.imm k)) l p) (d := .int l[i.toNat]) rfl e1 rfl i0 (by rw [List.length_map]; omega) (by rw [List.getElem?_map, List.getElem?_eq_getElem hi]; rfl)
    have er : (l.map D.int).eraseIdx i.toNat = (l.eraseIdx i.toNat).map D.int := erase_map D.int l i.toNat
    rw [er] at e2
    have e3 := app_eq (i := 8) (l := p.map D.int) (σ := dwF mo sz h cs fd t (some (.imm k)) l p) (σ1 := dwF mo sz h1 cs fd t (some (.imm k)) (l.eraseIdx i.toNat) p) rfl (fz_eq e2) rfl (by rw [List.length_map]; omega)
    have e4 : p.map D.int ++ [(Ev.S.imm (D.int l[i.toNat])).toD] = (p ++ [l[i.toNat]]).map D.int := by rw [List.map_append]; rfl
    have perm : (p ++ [l[i.toNat]] ++ l.eraseIdx i.toNat).Perm (p ++ l) := by
      rw [List.append_assoc]
      refine List.Perm.append_left p ?_
      have : ([l[i.toNat]] ++ l.eraseIdx i.toNat).Perm l := by
        rw [List.singleton_append, List.eraseIdx_eq_take_drop_succ]
        have e : l = l.take i.toNat ++ l[i.toNat] :: l.drop (i.toNat + 1) := by
          rw [← List.drop_eq_getElem_cons hi, List.take_append_drop]
        conv => rhs; rw [e]
        exact (List.perm_middle (a := l[i.toNat]) (l₁ := l.take i.toNat) (l₂ := l.drop (i.toNat + 1))).symm
      exact this
    obtain ⟨h', m', l', p', q1, q2, q3, q4, q5, q6⟩ := dwP_ok (cs := cs) (fd := fd) (t := t) ks h1 (some (.imm k)) (l.eraseIdx i.toNat) (p ++ [l[i.toNat]]) rfl k1 (perm.nodup_iff.mpr nd) (fun c hc => mem c (perm.mem_iff.mp hc)) (by rw [List.length_eraseIdx_of_lt hi]; omega) (by rw [perm.length_eq]; exact hb)
    refine ⟨h', m', l', p', q1, q2, ?_, q4, q5, by rw [q6]; simp; omega⟩
    refine (lpF_nx (put_nm (x := m) rfl hm) ?_).trans q3
    show dwP (dwF mo sz h cs fd t (some (.imm k)) l p) = some (.nx, dwF mo sz h1 cs fd t (some (.imm k)) (l.eraseIdx i.toNat) (p ++ [l[i.toNat]]))
    unfold dwP
    rw [e4] at e3
    exact (drop_eq e3).trans rfl
def dwT : M Fl := (mSeq (mPar2 7 8 (m1 fList (.pk 1)) (mLst [])) (mSeq (mFor (itR1 (mFz (m2 fAdd (.val (mC (.int 1))) (.val (mFz (mCallI 0 2 g_law_draw [(mFz (m2 fMin2 (.pk 3) (.val (mFz (m1 fLen (.pk 1))))))])))))) (.nm 6) dwP) (mDrop (mApp 4 (mFz (m1 fTup (.val (mFz (m1 fSort (.pk 8))))))))))
def Dw (cs : Sd) (t : Sd) : Prop := List.Sublist t cs ∧ t ≠ [] ∧ t.length ≤ 5
theorem dict_ints {s : Sd} (h : s ≠ []) : dictable (s.map D.int) = false := by
  cases s with
  | nil => exact absurd rfl h
  | cons a s => rfl
theorem dwT_ok {mo sz : Int} (z1 : 1 ≤ sz) (z5 : sz ≤ 5) {cs : Sd} {many : Nat} (hc : Crn many cs) (h1 : 1 ≤ many) (h8 : many ≤ 8) {h : Ev.S} {fd : List Sd} {t m l p : Option Ev.S} (hh : HandOk true h) (hm : okS m = true) (hl : okS l = true) (hp : okS p = true) (hn : fd.length < 100) : ∃ h' m' l' p' u, HandOk true h' ∧ okS m' = true ∧ Dw cs u ∧
    dwT [some h, some (.imm (.lst (cs.map D.int))), some (.imm (.int mo)), some (.imm (.int sz)), some (.ls false (fd.map sd)), t, m, l, p] = some (.nx, dwF mo sz h' cs (fd ++ [u]) t m' l' p') := by
  have lim : LIM = 16777216 := rfl
  have hlen := hc.len
  have nd : cs.Nodup := hc.asc.imp fun h e => by omega
  have e0 : mPar2 7 8 (m1 fList (.pk 1)) (mLst []) [some h, some (.imm (.lst (cs.map D.int))), some (.imm (.int mo)), some (.imm (.int sz)), some (.ls false (fd.map sd)), t, m, l, p] = some (.nx, dwF mo sz h cs fd t m cs []) := by
    have o1 : okSet [some h, some (.imm (.lst (cs.map D.int))), some (.imm (.int mo)), some (.imm (.int sz)), some (.ls false (fd.map sd)), t, m, l, p] 7 = true := okSet_at (x := l) rfl hl
    have o2 : okSet [some h, some (.imm (.lst (cs.map D.int))), some (.imm (.int mo)), some (.imm (.int sz)), some (.ls false (fd.map sd)), t, m, l, p] 8 = true := okSet_at (x := p) rfl hp
    unfold mPar2
    rw [m1_p (d := .lst (cs.map D.int)) (g := fList) rfl rfl]
    dsimp only
    rw [show mLst [] [some h, some (.imm (.lst (cs.map D.int))), some (.imm (.int mo)), some (.imm (.int sz)), some (.ls false (fd.map sd)), t, m, l, p] = some (.ls false [], [some h, some (.imm (.lst (cs.map D.int))), some (.imm (.int mo)), some (.imm (.int sz)), some (.ls false (fd.map sd)), t, m, l, p]) from rfl]
    dsimp only
    rw [o1, o2]; rfl
  obtain ⟨mn, hmn, mn1, mn2, mn3⟩ : ∃ mn : Int, (if (many : Int) < sz then (many : Int) else sz) = mn ∧ 1 ≤ mn ∧ mn ≤ 5 ∧ mn ≤ many := by
    split
    · exact ⟨_, rfl, by omega, by omega, by omega⟩
    · exact ⟨_, rfl, by omega, by omega, by omega⟩
  obtain ⟨i, s1, e1, i0, i1, k1⟩ := call_draw (b := true) (j := 0) (σ := dwF mo sz h cs fd t m cs []) (s := h) (n := mn) (ms := [(mFz (m2 fMin2 (.pk 3) (.val (mFz (m1 fLen (.pk 1))))))]) (by
    have : mFz (m2 fMin2 (.pk 3) (.val (mFz (m1 fLen (.pk 1))))) (dwF mo sz h cs fd t m cs []) = some (.int mn, dwF mo sz h cs fd t m cs []) := by
      refine fz_eq (s := .imm (.int mn)) (m2_pv (d := .int sz) (d0 := .int sz) (e := .int many) rfl (fz_eq (s := .imm (.int many)) (m1_p rfl ?_)) rfl ?_)
      · show some (Ev.S.imm (.int ((cs.map D.int).length : Int))) = _
        rw [List.length_map, hlen]
      · show some (Ev.S.imm (.int (if (many : Int) < sz then (many : Int) else sz))) = _
        rw [hmn]
    exact mL_cons this mL_nil) rfl hh (by omega) (by omega)
  have hit : itR1 (mFz (m2 fAdd (.val (mC (.int 1))) (.val (mFz (mCallI 0 2 g_law_draw [(mFz (m2 fMin2 (.pk 3) (.val (mFz (m1 fLen (.pk 1))))))]))))) (dwF mo sz h cs fd t m cs []) = some (dRng 0 (1 + i).toNat, dwF mo sz s1 cs fd t m cs []) := by
    have : mFz (m2 fAdd (.val (mC (.int 1))) (.val (mFz (mCallI 0 2 g_law_draw [(mFz (m2 fMin2 (.pk 3) (.val (mFz (m1 fLen (.pk 1))))))])))) (dwF mo sz h cs fd t m cs []) = some (.int (1 + i), dwF mo sz s1 cs fd t m cs []) := fz_eq (s := .imm (.int (1 + i))) (m2_vv (d := .int 1) rfl e1 rfl)
    unfold itR1
    rw [this]
    show (if okR (1 + i) = true then some (dRng 0 (1 + i).toNat, _) else none) = _
    rw [if_pos (by unfold okR; simp; omega)]
  have kl : (dRng 0 (1 + i).toNat).length = (1 + i).toNat := by unfold dRng; simp
  obtain ⟨h', m', l', p', q1, q2, q3, q4, q5, q6⟩ := dwP_ok (cs := cs) (fd := fd) (t := t) (dRng 0 (1 + i).toNat) s1 m cs [] hm k1 (by simpa using nd) (fun c hc => by simpa using hc) (by rw [kl]; omega) (by simp; omega)
  have pl : p'.length = (1 + i).toNat := by rw [q6, kl]; simp
  have ndp : p'.Nodup := (List.nodup_append.mp q4).1
  have mp : ∀ c ∈ p', c ∈ cs := fun c hc => q5 c (List.mem_append_left _ hc)
  have ne : iSort ile p' ≠ [] := fun e => by
    have := congrArg List.length e
    rw [iSort_len, pl] at this
    simp at this; omega
  refine ⟨h', m', l', p', iSort ile p', q1, q2, ⟨asc_sub hc.asc (iSortI_pw ndp) fun c hc => mp c (iSort_mem.mp hc), ne, by rw [iSort_len, pl]; omega⟩, ?_⟩
  refine (seq_nx e0).trans ?_
  refine (seq_nx ((for_eq hit).trans q3)).trans ?_
  have es : mFz (m1 fTup (.val (mFz (m1 fSort (.pk 8))))) (dwF mo sz h' cs fd t m' l' p') = some (sd (iSort ile p'), dwF mo sz h' cs fd t m' l' p') := by
    refine fz_eq (s := .imm (sd (iSort ile p'))) (m1_v (fz_eq (m1_p (d := .lst (p'.map D.int)) rfl (sort_ints (by omega)))) ?_)
    show some (Ev.S.imm (.tup (dictable ((iSort ile p').map D.int)) ((iSort ile p').map D.int))) = _
    rw [dict_ints ne]; rfl
  have e9 := app_eq (i := 4) (l := fd.map sd) (σ := dwF mo sz h' cs fd t m' l' p') (σ1 := dwF mo sz h' cs fd t m' l' p') rfl es rfl (by rw [List.length_map]; omega)
  have e10 : fd.map sd ++ [sd (iSort ile p')] = (fd ++ [iSort ile p']).map sd := by rw [List.map_append]; rfl
  rw [e10] at e9
  exact (drop_eq e9).trans rfl
theorem dwT_loop {mo sz : Int} (z1 : 1 ≤ sz) (z5 : sz ≤ 5) {cs : Sd} {many : Nat} (hc : Crn many cs) (h1 : 1 ≤ many) (h8 : many ≤ 8) : ∀ (ks : List D) (h : Ev.S) (fd : List Sd) (t m l p : Option Ev.S), HandOk true h → okS t = true → okS m = true → okS l = true → okS p = true → fd.length + ks.length < 100 → (∀ u ∈ fd, Dw cs u) → ∃ (h' : Ev.S) (t' m' l' p' : Option Ev.S) (fd' : List Sd), HandOk true h' ∧
    lpF (.nm 5) dwT ks [some h, some (.imm (.lst (cs.map D.int))), some (.imm (.int mo)), some (.imm (.int sz)), some (.ls false (fd.map sd)), t, m, l, p] = some (.nx, [some h', some (.imm (.lst (cs.map D.int))), some (.imm (.int mo)), some (.imm (.int sz)), some (.ls false (fd'.map sd)), t', m', l', p']) ∧ (∀ u ∈ fd', Dw cs u) ∧ fd'.length = fd.length + ks.length
  | [], h, fd, t, m, l, p, hh, _, _, _, _, _, hd => ⟨h, t, m, l, p, fd, hh, rfl, hd, rfl⟩
  | k :: ks, h, fd, t, m, l, p, hh, ht, hm, hl, hp, hn, hd => by
    have hn2 : (k :: ks).length = ks.length + 1 := rfl
    obtain ⟨h', m', l', p', u, q1, q2, q3, q4⟩ := dwT_ok z1 z5 hc h1 h8 (t := some (.imm k)) hh hm hl hp (fd := fd) (by omega)
    obtain ⟨h2, t2, m2', l2, p2, fd2, r1, r2, r3, r4⟩ := dwT_loop z1 z5 hc h1 h8 ks h' (fd ++ [u]) (some (.imm k)) m' (some (.ls false (l'.map D.int))) (some (.ls false (p'.map D.int))) q1 rfl q2 rfl rfl (by rw [List.length_append, List.length_singleton]; omega) (fun v hv => by
      rcases List.mem_append.mp hv with z | z
      · exact hd v z
      · rw [List.mem_singleton.mp z]; exact q3)
    refine ⟨h2, t2, m2', l2, p2, fd2, r1, ?_, r3, by rw [r4, List.length_append, List.length_singleton]; omega⟩
    exact (lpF_nx (put_nm (x := t) rfl ht) q4).trans r2
theorem bySize_nodup {sn : List Sd} (nd : sn.Nodup) : (bySize sn).Nodup := by
  unfold bySize List.Nodup
  rw [List.pairwise_flatMap]
  refine ⟨fun i _ => ?_, ?_⟩
  · exact pw_nodup (iSort_pw (nd.filter _))
  · refine (List.pairwise_lt_range (n := 7)).imp ?_
    intro i j hij x hx y hy e
    have h1 := (ofSize_mem.mp hx).2
    have h2 := (ofSize_mem.mp hy).2
    rw [e] at h1; omega
theorem drawn_ok {mo sz : Int} (o0 : 0 ≤ mo) (o5 : mo ≤ 5) (z1 : 1 ≤ sz) (z5 : sz ≤ 5) {b : Bool} {s : Ev.S} {cs : Sd} {many : Nat} (hc : Crn many cs) (h1 : 1 ≤ many) (h6 : many ≤ 7) (h : HandOk b s) : ∃ ts s', g_law_drawn s [.lst (cs.map D.int), .int mo, .int sz] = some (.imm (tupS ts), s') ∧ Tops cs ts ∧ HandOk true s' := by
  have lim : LIM = 16777216 := rfl
  obtain ⟨n, s1, e1, n0, n1, k1⟩ := call_draw (b := true) (j := 0) (σ := [some (s.setIo true), some (.imm (.lst (cs.map D.int))), some (.imm (.int mo)), some (.imm (.int sz)), some (.ls false []), none, none, none, none]) (s := s.setIo true) (n := mo + 1) (ms := [(mFz (m2 fAdd (.pk 2) (.val (mC (.int 1)))))]) rfl rfl h.io (by omega) (by omega)
  have hit : itR1 (mFz (mCallI 0 2 g_law_draw [(mFz (m2 fAdd (.pk 2) (.val (mC (.int 1)))))])) [some (s.setIo true), some (.imm (.lst (cs.map D.int))), some (.imm (.int mo)), some (.imm (.int sz)), some (.ls false []), none, none, none, none] = some (dRng 0 n.toNat, [some s1, some (.imm (.lst (cs.map D.int))), some (.imm (.int mo)), some (.imm (.int sz)), some (.ls false (([] : List Sd).map sd)), none, none, none, none]) := by
    unfold itR1
    rw [e1]
    show (if okR n = true then some (dRng 0 n.toNat, _) else none) = _
    rw [if_pos (by unfold okR; simp; omega)]; rfl
  have kl : (dRng 0 n.toNat).length = n.toNat := by unfold dRng; simp
  obtain ⟨h', t', m', l', p', ts, q1, q2, q3, q4⟩ := dwT_loop z1 z5 hc h1 (by omega) (dRng 0 n.toNat) s1 [] none none none none k1 rfl rfl rfl rfl (by rw [kl]; simp; omega) (fun _ m => by cases m)
  have tl : ts.length ≤ 5 := by rw [q4, kl]; simp; omega
  obtain ⟨sn, w1, w2, w3, w4, w5⟩ := sides_eq (cs := cs) (ts := ts) (d := .lst (ts.map sd)) (by rw [hc.len]; exact h6) q3 (by omega) rfl
  have bm : ∀ s, s ∈ bySize sn ↔ Under ts s := fun s => by
    rw [bySize_mem, w3]
    refine ⟨fun z => z.1, fun z => ⟨z, ?_⟩⟩
    obtain ⟨ne, t, ht, hst⟩ := z
    have := hst.length_le
    have := (q3 t ht).2.2
    exact ⟨List.length_pos_iff.mpr ne, by omega⟩
  have bl : (bySize sn).length ≤ 128 := by
    refine Nat.le_trans (nodup_le (m := sn) (bySize_nodup w2) fun s hs => (bySize_mem.mp hs).1) w5
  have cl : Clo (bySize sn) := fun s hs f hf => by
    obtain ⟨ne, t, ht, hst⟩ := (bm s).mp hs
    obtain ⟨f1, f2, f3⟩ := mem_walls.mp hf
    exact (bm f).mpr ⟨f3, t, ht, f1.trans hst⟩
  have te := tops_eq (W := bySize sn) (fun s hs => by
    obtain ⟨ne, t, ht, hst⟩ := (bm s).mp hs
    have := hst.length_le
    have := (q3 t ht).2.2
    exact ⟨List.length_pos_iff.mpr ne, by omega⟩) (by omega)
  refine ⟨maxL (bySize sn), h', ?_, maxL_tops hc.asc (by rw [hc.len]; exact h6) (fun c m => ⟨(hc.lo c m).1, Int.le_trans (hc.lo c m).2 (by decide)⟩) q3 (bySize_nodup w2) bm cl, q1⟩
  refine runI_rt (σ := [some h', some (.imm (.lst (cs.map D.int))), some (.imm (.int mo)), some (.imm (.int sz)), some (.imm (.lst (ts.map sd))), t', m', l', p']) ?_ rfl q1.ls.1
  refine (seq_nx (σ' := [some (s.setIo true), some (.imm (.lst (cs.map D.int))), some (.imm (.int mo)), some (.imm (.int sz)), some (.ls false []), none, none, none, none]) rfl).trans ?_
  refine (seq_nx ((for_eq hit).trans q2)).trans ?_
  refine ret_eq (call_eq (ds := [.lst ((bySize sn).map sd)]) (mL_cons (fz_eq (s := .ls false ((bySize sn).map sd)) (call_eq (ds := [.lst (ts.map sd)]) rfl rfl w1)) mL_nil) rfl te)
end Qk
end

section
set_option Elab.async false
set_option linter.all false
set_option maxRecDepth 100000
/-! Rr: how long texts of deep values are. -/
namespace Qk
open PySem PySem.Spec L2 Ev Wk
set_option autoImplicit false
mutual
def wt : D → Nat
  | .non => 4
  | .bl _ => 5
  | .int i => i.natAbs.log2 + 2
  | .str x => (reprText x).length
  | .tup _ l => wts l + 3
  | .lst l => wts l + 3
  | _ => 0
def wts : List D → Nat
  | [] => 0
  | d :: l => wt d + 2 + wts l
end
mutual
/-- ints are not too great -/
def sho : D → Bool
  | .int i => decide (i.natAbs.log2 < 1920)
  | .tup _ l => shos l
  | .lst l => shos l
  | _ => true
def shos : List D → Bool
  | [] => true
  | d :: l => sho d && shos l
end
mutual
theorem shown_ok : ∀ d : D, d.pl = true → sho d = true → d.toP.showable = true ∧ d.toP.shown.length ≤ wt d
  | .non, _, _ => ⟨rfl, by decide⟩
  | .bl b, _, _ => ⟨rfl, by cases b <;> decide⟩
  | .int i, _, h => ⟨h, by
    have := int_text_length_le (a := i) (k := i.natAbs.log2 + 1) (by omega) (by omega)
    show (Str.ofString (toString i)).length ≤ i.natAbs.log2 + 2
    rw [ofString_length]; exact this⟩
  | .str x, _, _ => ⟨rfl, Nat.le_refl _⟩
  | .tup k l, h, s => by
    obtain ⟨h1, h2, h3⟩ := showns_ok l h s
    refine ⟨h1, ?_⟩
    show (tupleText (PyData.shownAll (D.toPs l))).length ≤ wts l + 3
    unfold tupleText
    rw [strLen_append, strLen_append]
    have e1 : ((PySem.Str.ofString "(" : Str)).length = 1 := rfl
    have e2 : ((PySem.Str.ofString (if ((PyData.shownAll (D.toPs l)).length == 1) = true then ",)" else ")")) : Str).length ≤ 2 := by split <;> decide
    cases q : PyData.shownAll (D.toPs l) with
    | nil =>
      rw [q] at e2
      have : (Str.join ", " ([] : List Str)).length = 0 := rfl
      rw [this]
      have := e1
      omega
    | cons t ts =>
      rw [q] at e2 h2
      have := join_length_add (t :: ts) (by simp)
      have := e1
      omega
  | .lst l, h, s => by
    obtain ⟨h1, h2, h3⟩ := showns_ok l h s
    refine ⟨h1, ?_⟩
    show (listText (PyData.shownAll (D.toPs l))).length ≤ wts l + 3
    unfold listText
    rw [strLen_append]
    have e1 : ((PySem.Str.ofString "]" : Str)).length = 1 := rfl
    cases q : PyData.shownAll (D.toPs l) with
    | nil =>
      have : (textFrom 0 "[" ([] : List Str)).length = 1 := rfl
      rw [this]; have := e1; omega
    | cons t ts =>
      rw [q] at h2
      have hY : (textFrom 0 "[" (t :: ts)).length = (textFrom 1 (("[" : Str) ++ (if (0 : Nat) > 0 then ", " else "" : String) ++ t) ts).length := rfl
      have h := textFrom_length_pos ts 1 (("[" : Str) ++ (if (0 : Nat) > 0 then ", " else "" : String) ++ t) (Nat.succ_pos 0)
      have e3 : (("[" : Str) ++ (if (0 : Nat) > 0 then ", " else "" : String) ++ t).length = 1 + t.length := by
        rw [strLen_append, strLen_append]; rfl
      rw [hY, h, e3]
      rw [piled_cons] at h2
      have := e1
      omega
  | .dct _ _, h, _ => by cases h
  | .ins _ _, h, _ => by cases h
  | .scr _, h, _ => by cases h
  | .adr, h, _ => by cases h
  | .at_ _, h, _ => by cases h
theorem showns_ok : ∀ l : List D, D.pls l = true → shos l = true → PyData.showableAll (D.toPs l) = true ∧ piled (PyData.shownAll (D.toPs l)) ≤ wts l ∧ (PyData.shownAll (D.toPs l)).length = l.length
  | [], _, _ => ⟨rfl, Nat.le_refl _, rfl⟩
  | d :: l, h, s => by
    have h' : (d.pl && D.pls l) = true := h
    have s' : (sho d && shos l) = true := s
    rw [Bool.and_eq_true] at h' s'
    obtain ⟨a1, a2⟩ := shown_ok d h'.1 s'.1
    obtain ⟨b1, b2, b3⟩ := showns_ok l h'.2 s'.2
    refine ⟨?_, ?_, ?_⟩
    · show (PyData.showable d.toP && PyData.showableAll (D.toPs l)) = true
      rw [a1, b1]; rfl
    · show piled (d.toP.shown :: PyData.shownAll (D.toPs l)) ≤ wt d + 2 + wts l
      rw [piled_cons]; omega
    · show (d.toP.shown :: PyData.shownAll (D.toPs l)).length = _
      rw [List.length_cons, List.length_cons, b3]
end
/-- what may be shown -/
def Shw (d : D) : Prop := d.pl = true ∧ sho d = true ∧ d.dp ≤ 100 ∧ wt d ≤ LIM
theorem repr_eq {d : D} (h : Shw d) : fRepr d = some (.imm (.str d.toP.shown)) := by
  obtain ⟨h1, h2, h3, h4⟩ := h
  obtain ⟨a1, a2⟩ := shown_ok d h1 h2
  unfold fRepr okRp
  rw [h1, a1, decide_eq_true h3, decide_eq_true (Nat.le_trans a2 h4)]
  rfl
/-- two things alike -/
theorem is_eq {d e : D} (h : Shw d) (k : Shw e) (hp : d.toP = e.toP) : g_law_is [d, e] = some (.imm (.bl true)) := by
  have h1 := repr_eq h
  have h2 := repr_eq k
  rw [hp] at h1
  have e1 : mFz (m1 fRepr (.pk 0)) [some (.imm d), some (.imm e)] = some (.str e.toP.shown, [some (.imm d), some (.imm e)]) := fz_eq (m1_p (d := d) rfl h1)
  have e2 : mFz (m1 fRepr (.pk 1)) [some (.imm d), some (.imm e)] = some (.str e.toP.shown, [some (.imm d), some (.imm e)]) := fz_eq (m1_p (d := e) rfl h2)
  refine runV_rt (σ := [some (.imm d), some (.imm e)]) ?_
  unfold m_law_is
  refine ret_eq (s := .imm (.bl true)) ?_
  have hs : startF ([d, e].map Ev.S.imm) 2 = [some (.imm d), some (.imm e)] := rfl
  rw [hs]
  unfold m2 A.two
  simp only [A.go, A.fin, e1, e2, fEqS, decide_true]
end Qk
end

section
set_option Elab.async false
set_option linter.all false
set_option maxRecDepth 100000
/-! Sa: webs told by what lies under their tops. -/
namespace Qk
open PySem PySem.Spec L2 Ev Wk
set_option autoImplicit false
/-- sides of few corners -/
structure Fam (cs : Sd) (S : List Sd) : Prop where
  asc : Asc cs
  few : cs.length ≤ 7
  lo : ∀ c ∈ cs, 0 ≤ c ∧ c ≤ 999
  sub : ∀ t ∈ S, List.Sublist t cs ∧ t ≠ [] ∧ t.length ≤ 5
  len : S.length ≤ 128
theorem Tops.fam {cs : Sd} {ts : List Sd} (h : Tops cs ts) : Fam cs ts := ⟨h.asc, h.few, h.lo, h.sub, h.len⟩
theorem Tops.fam_of {cs : Sd} {ts S : List Sd} (h : Tops cs ts) (nd : S.Nodup) (hs : ∀ s ∈ S, Under ts s) : Fam cs S := ⟨h.asc, h.few, h.lo, fun s m => by
  obtain ⟨ne, t, ht, hst⟩ := hs s m
  obtain ⟨a, b, c⟩ := h.sub t ht
  exact ⟨hst.trans a, ne, Nat.le_trans hst.length_le c⟩, Nat.le_trans (nodup_le nd fun s m => known_mem.mpr (hs s m)) (known_len h)⟩
theorem Fam.ne {cs : Sd} {S : List Sd} (h : Fam cs S) {s : Sd} (hs : s ∈ S) : 1 ≤ s.length ∧ s.length ≤ 5 := ⟨List.length_pos_iff.mpr (h.sub s hs).2.1, (h.sub s hs).2.2⟩
theorem Fam.under {cs : Sd} {S : List Sd} (h : Fam cs S) {s : Sd} (hs : Under S s) : List.Sublist s cs ∧ s ≠ [] ∧ s.length ≤ 5 := by
  obtain ⟨ne, t, ht, hst⟩ := hs
  obtain ⟨a, b, c⟩ := h.sub t ht
  exact ⟨hst.trans a, ne, Nat.le_trans hst.length_le c⟩
theorem Fam.parts_len {cs : Sd} {S L : List Sd} (h : Fam cs S) (nd : L.Nodup) (hs : ∀ s ∈ L, Under S s) : L.length ≤ 128 :=
  Nat.le_trans (nodup_le (m := partsL cs) nd fun s m => mem_parts.mpr ⟨(h.under (hs s m)).1, (h.under (hs s m)).2.1⟩) (Nat.le_trans (Qk.parts_len cs) (Nat.pow_le_pow_right (by decide) h.few : 2 ^ cs.length ≤ 2 ^ 7))
theorem clo_known (S : List Sd) : Clo (known S) := fun s hs f hf => by
  obtain ⟨ne, t, ht, hst⟩ := known_mem.mp hs
  obtain ⟨f1, f2, f3⟩ := mem_walls.mp hf
  exact known_mem.mpr ⟨f3, t, ht, f1.trans hst⟩
theorem maxL_mem {W : List Sd} {s : Sd} : s ∈ maxL W ↔ s ∈ W ∧ s ∉ coverL W := by
  unfold maxL
  rw [iSort_mem, List.mem_filter, decide_eq_true_eq]
/-- each side lies under a greatest one -/
theorem up_max {W : List Sd} (h5 : ∀ s ∈ W, s.length ≤ 5) : ∀ (n : Nat) (s : Sd), s ∈ W → 5 ≤ s.length + n → ∃ t ∈ maxL W, List.Sublist s t
  | n, s, hs, hn => by
    by_cases hc : s ∈ coverL W
    · obtain ⟨u, hu, hw⟩ := List.mem_flatMap.mp hc
      obtain ⟨w1, w2, w3⟩ := mem_walls.mp hw
      have := h5 u hu
      match n, hn with
      | 0, hn => omega
      | n + 1, hn =>
        obtain ⟨t, ht, k⟩ := up_max h5 n u hu (by omega)
        exact ⟨t, ht, w1.trans k⟩
    · exact ⟨s, maxL_mem.mpr ⟨hs, hc⟩, List.Sublist.refl _⟩
theorem maxL_under {W : List Sd} (h5 : ∀ s ∈ W, s.length ≤ 5) (ne : ∀ s ∈ W, s ≠ []) (cl : Clo W) (s : Sd) : Under (maxL W) s ↔ s ∈ W := by
  constructor
  · rintro ⟨n, t, ht, k⟩
    exact cl.sub (maxL_mem.mp ht).1 k n
  · intro hs
    obtain ⟨t, ht, k⟩ := up_max h5 5 s hs (by omega)
    exact ⟨ne s hs, t, ht, k⟩
theorem tops_uniq {cs ds : Sd} {us vs : List Sd} (h : Tops cs us) (k : Tops ds vs) (e : ∀ s, Under us s ↔ Under vs s) : us = vs := by
  have one : ∀ {cs ds : Sd} {us vs : List Sd}, Tops cs us → Tops ds vs → (∀ s, Under us s ↔ Under vs s) → ∀ t, t ∈ us → t ∈ vs := fun h k e t ht => by
    obtain ⟨ne, u, hu, tu⟩ := (e t).mp (h.under ht)
    obtain ⟨_, v, hv, uv⟩ := (e u).mpr (k.under hu)
    have := h.anti t ht v hv (tu.trans uv)
    have l1 := tu.length_le
    have l2 := uv.length_le
    rw [tu.eq_of_length (by rw [← this] at l2; omega)]
    exact hu
  exact sorted_eq (r := lt) lt_irrefl (fun a b => lt_trans a b) h.srt k.srt fun t => ⟨one h k e t, one k h (fun s => (e s).symm) t⟩
/-- the tops over some sides -/
def hull (S : List Sd) : List Sd := maxL (known S)
theorem hull_tops {cs : Sd} {S : List Sd} (h : Fam cs S) : Tops cs (hull S) := maxL_tops h.asc h.few h.lo h.sub (known_nodup S) (fun s => known_mem) (clo_known S)
theorem hull_under {cs : Sd} {S : List Sd} (h : Fam cs S) (s : Sd) : Under (hull S) s ↔ Under S s := by
  unfold hull
  rw [maxL_under (fun s m => (h.under (known_mem.mp m)).2.2) (fun s m => (known_mem.mp m).1) (clo_known S), known_mem]
theorem hull_eq {cs ds : Sd} {S T : List Sd} (h : Fam cs S) (k : Fam ds T) (e : ∀ s, Under S s ↔ Under T s) : hull S = hull T :=
  tops_uniq (hull_tops h) (hull_tops k) fun s => by rw [hull_under h, hull_under k, e]
theorem hull_tops_eq {cs ds : Sd} {S ts : List Sd} (h : Fam cs S) (k : Tops ds ts) (e : ∀ s, Under S s ↔ Under ts s) : hull S = ts :=
  tops_uniq (hull_tops h) k fun s => by rw [hull_under h, e]
/-! ### lots by sizes -/
theorem sorts_eq {S T : List Sd} (hS : S.Nodup) (hT : T.Nodup) (e : ∀ s, s ∈ S ↔ s ∈ T) : iSort sle S = iSort sle T :=
  sorted_eq (r := lt) lt_irrefl (fun a b => lt_trans a b) (iSort_pw hS) (iSort_pw hT) fun s => by rw [iSort_mem, iSort_mem, e]
theorem bySize_eq {S T : List Sd} (hS : S.Nodup) (hT : T.Nodup) (e : ∀ s, s ∈ S ↔ s ∈ T) : bySize S = bySize T := by
  unfold bySize
  congr 1
  funext i
  unfold ofSize
  exact sorts_eq (hS.filter _) (hT.filter _) fun s => by rw [List.mem_filter, List.mem_filter, e]
theorem bySize_filter {S : List Sd} (hS : S.Nodup) (p : Sd → Bool) : (bySize S).filter p = bySize (S.filter p) := by
  unfold bySize
  rw [List.filter_flatMap]
  congr 1
  funext i
  unfold ofSize
  refine sorted_eq (r := lt) lt_irrefl (fun a b => lt_trans a b) ((iSort_pw (hS.filter _)).filter _) (iSort_pw ((hS.filter _).filter _)) fun s => ?_
  rw [List.mem_filter, iSort_mem, iSort_mem, List.mem_filter, List.mem_filter, List.mem_filter]
  constructor
  · rintro ⟨⟨a, b⟩, c⟩; exact ⟨⟨a, c⟩, b⟩
  · rintro ⟨⟨a, c⟩, b⟩; exact ⟨⟨a, b⟩, c⟩
/-- the whole of a family: all parts, by sizes -/
def wh (S : List Sd) : List Sd := bySize (known S)
theorem wh_mem {cs : Sd} {S : List Sd} (h : Fam cs S) {s : Sd} : s ∈ wh S ↔ Under S s := by
  unfold wh
  rw [bySize_mem, known_mem]
  refine ⟨fun z => z.1, fun z => ⟨z, List.length_pos_iff.mpr z.1, ?_⟩⟩
  have := (h.under z).2.2
  omega
theorem wh_nodup (S : List Sd) : (wh S).Nodup := bySize_nodup (known_nodup S)
theorem wh_len {cs : Sd} {S : List Sd} (h : Fam cs S) : (wh S).length ≤ 128 := h.parts_len (wh_nodup S) fun s m => (wh_mem h).mp m
theorem sides_wh {cs : Sd} {S : List Sd} {d : D} (h : Fam cs S) (hd : fList d = some (.ls false (S.map sd))) : g_law_sides [d] = some (.ls false ((wh S).map sd)) := by
  obtain ⟨sn, e, nd, un, _, _⟩ := sides_eq h.few h.sub h.len hd
  rw [e, bySize_eq nd (known_nodup S) fun s => by rw [un, known_mem]]; rfl
theorem tops_wh {cs : Sd} {S : List Sd} (h : Fam cs S) : g_law_tops [.lst ((wh S).map sd)] = some (.imm (tupS (hull S))) := by
  have lim : LIM = 16777216 := rfl
  have wl := wh_len h
  rw [tops_eq (W := wh S) (fun s m => ⟨List.length_pos_iff.mpr (h.under ((wh_mem h).mp m)).2.1, (h.under ((wh_mem h).mp m)).2.2⟩) (by omega)]
  have cl : Clo (wh S) := fun s hs f hf => (wh_mem h).mpr (known_mem.mp (clo_known S s (known_mem.mpr ((wh_mem h).mp hs)) f hf))
  have t1 : Tops cs (maxL (wh S)) := maxL_tops h.asc h.few h.lo h.sub (wh_nodup S) (fun s => wh_mem h) cl
  rw [tops_uniq t1 (hull_tops h) fun s => by rw [maxL_under (fun s m => (h.under ((wh_mem h).mp m)).2.2) (fun s m => ((wh_mem h).mp m).1) cl, hull_under h, wh_mem h]]
/-- the law's own web -/
theorem law_web_eq {cs : Sd} {S : List Sd} (h : Fam cs S) : g_law_web [.lst (S.map sd)] = some (.imm (webD (hull S))) := by
  refine runV_rt (σ := [some (.imm (.lst (S.map sd)))]) ?_
  refine ret_eq (call_eq (ds := [tupS (hull S)]) (mL_cons (fz_eq (s := .imm (tupS (hull S))) (call_eq (ds := [.lst ((wh S).map sd)]) (mL_cons (fz_eq (s := .ls false ((wh S).map sd)) (call_eq (ds := [.lst (S.map sd)]) rfl rfl (sides_wh h rfl))) mL_nil) rfl (tops_wh h))) mL_nil) rfl (web_eq (hull_tops h)))
end Qk
end

section
set_option Elab.async false
set_option linter.all false
set_option maxRecDepth 100000
/-! Sb: web_by. -/
namespace Qk
open PySem PySem.Spec L2 Ev Wk
set_option autoImplicit false
def bIn : M Fl := (mSeq (mPut 1 (mV 4) (mC (.bl true))) (mIf (mT (m2 (fI2 fun i j => .bl (decide (j < i))) (.val (mFz (m1 fLen (.pk 1)))) (.val (mC (.int 600))))) mNo mNx))
def bOut : M Fl := mFor (itD (mFz (mCall 1 g_parts_of [(mV 2)]))) (.nm 4) bIn
theorem b_in {A t c q : Option Ev.S} : ∀ (S K : List Sd) (p : Option Ev.S), okS p = true → (∀ n, n ≤ S.length → (addKs K (S.take n)).length ≤ 600) → ∃ p', okS p' = true ∧
    lpF (.nm 4) bIn (S.map sd) [A, some (.ds false true (kD K)), t, c, p, q] = some (.nx, [A, some (.ds false true (kD (addKs K S))), t, c, p', q])
  | [], K, p, hp, _ => ⟨p, hp, rfl⟩
  | u :: S, K, p, hp, hb => by
    have b0 : K.length ≤ 600 := hb 0 (Nat.zero_le _)
    have b1 : (addK K u).length ≤ 600 := hb 1 (by simp)
    obtain ⟨p', k, e⟩ := b_in (A := A) (t := t) (c := c) (q := q) S (addK K u) (some (.imm (sd u))) rfl (fun n hn => by
      have := hb (n + 1) (by simp; omega)
      rwa [List.take_succ_cons] at this)
    refine ⟨p', k, ?_⟩
    rw [List.map_cons]
    refine (lpF_nx (put_nm (x := p) rfl hp) ?_).trans e
    show bIn [A, some (.ds false true (kD K)), t, c, some (.imm (sd u)), q] = some (.nx, [A, some (.ds false true (kD (addK K u))), t, c, some (.imm (sd u)), q])
    have e1 : mPut 1 (mV 4) (mC (.bl true)) [A, some (.ds false true (kD K)), t, c, some (.imm (sd u)), q] = some (.nx, [A, some (.ds false true (kD (addK K u))), t, c, some (.imm (sd u)), q]) := by
      have hl : (kD K).length < LIM := by rw [kD_len]; exact Nat.lt_of_le_of_lt b0 (by decide)
      unfold mPut
      simp [mC, vw, mV, Ev.S.toD, keyOk_sd, hl, dPut_kD]
    refine (seq_nx e1).trans ?_
    refine (ifF (σ' := [A, some (.ds false true (kD (addK K u))), t, c, some (.imm (sd u)), q]) (mT_eq (m2_vv (fz_eq (m1_p rfl rfl)) rfl ?_))).trans rfl
    show some (Ev.S.imm (.bl (decide ((600 : Int) < ((kD (addK K u)).length : Int))))) = _
    rw [kD_len, decide_eq_false (by omega)]
theorem b_out {A c q : Option Ev.S} : ∀ (ts K : List Sd) (t p : Option Ev.S), okS t = true → okS p = true → (∀ t ∈ ts, 1 ≤ t.length ∧ t.length ≤ 5) → (∀ n, n ≤ (ts.flatMap partsL).length → (addKs K ((ts.flatMap partsL).take n)).length ≤ 600) → ∃ t' p', okS t' = true ∧ okS p' = true ∧
    lpF (.nm 2) bOut (ts.map sd) [A, some (.ds false true (kD K)), t, c, p, q] = some (.nx, [A, some (.ds false true (kD (addKs K (ts.flatMap partsL)))), t', c, p', q])
  | [], K, t, p, ht, hp, _, _ => ⟨t, p, ht, hp, rfl⟩
  | u :: ts, K, t, p, ht, hp, hs, hb => by
    obtain ⟨u1, u5⟩ := hs u List.mem_cons_self
    have ef : (u :: ts).flatMap partsL = partsL u ++ ts.flatMap partsL := by rw [List.flatMap_cons]
    rw [ef] at hb
    obtain ⟨p1, k1, e1⟩ := b_in (A := A) (t := some (.imm (sd u))) (c := c) (q := q) (partsL u) K p hp fun n hn => by
      have := hb n (by rw [List.length_append]; omega)
      rwa [List.take_append_of_le_length hn] at this
    obtain ⟨t', p', k2, k3, e2⟩ := b_out (A := A) (c := c) (q := q) ts (addKs K (partsL u)) (some (.imm (sd u))) p1 rfl k1 (fun v hv => hs v (List.mem_cons_of_mem _ hv)) fun n hn => by
      have := hb ((partsL u).length + n) (by rw [List.length_append]; omega)
      rw [List.take_length_add_append] at this
      have e : addKs K (partsL u ++ (ts.flatMap partsL).take n) = addKs (addKs K (partsL u)) ((ts.flatMap partsL).take n) := by unfold addKs; rw [List.foldl_append]
      rwa [e] at this
    refine ⟨t', p', k2, k3, ?_⟩
    rw [List.map_cons, ef]
    have e3 : addKs K (partsL u ++ ts.flatMap partsL) = addKs (addKs K (partsL u)) (ts.flatMap partsL) := by unfold addKs; rw [List.foldl_append]
    rw [e3]
    refine (lpF_nx (put_nm (x := t) rfl ht) ?_).trans e2
    show bOut [A, some (.ds false true (kD K)), some (.imm (sd u)), c, p, q] = _
    have hit : itD (mFz (mCall 1 g_parts_of [(mV 2)])) [A, some (.ds false true (kD K)), some (.imm (sd u)), c, p, q] = some ((partsL u).map sd, [A, some (.ds false true (kD K)), some (.imm (sd u)), c, p, q]) := by
      have hb : mFz (mCall 1 g_parts_of [(mV 2)]) [A, some (.ds false true (kD K)), some (.imm (sd u)), c, p, q] = some (.lst ((partsL u).map sd), [A, some (.ds false true (kD K)), some (.imm (sd u)), c, p, q]) := fz_eq (call_eq (ds := [sd u]) rfl rfl (parts_eq u u1 u5))
      unfold itD
      rw [hb]; rfl
    exact (for_eq hit).trans e1
def bCov : MI := itD (mFz (mCall 1 g_walls_of [(mV 2)]))
theorem b_cov {A Kd c p : Option Ev.S} : ∀ (T K : List Sd), (∀ u ∈ T, 1 ≤ u.length ∧ u.length ≤ 5) →
    lpDd (.nm 2) mYes bCov (.nm 5) mYes (mV 5) (mC (.bl true)) [2, 5] [5] (T.map sd) (kD K) [A, Kd, none, c, p, none] = some (kD (addKs K (coverL T)), [A, Kd, none, c, p, none])
  | [], K, _ => rfl
  | u :: T, K, hu => by
    obtain ⟨u1, u5⟩ := hu u List.mem_cons_self
    have ef : coverL (u :: T) = wallsL u ++ coverL T := by unfold coverL; rw [List.flatMap_cons]
    have e3 : addKs K (wallsL u ++ coverL T) = addKs (addKs K (wallsL u)) (coverL T) := by unfold addKs; rw [List.foldl_append]
    rw [ef, e3, List.map_cons]
    have hit : bCov [A, Kd, some (.imm (sd u)), c, p, none] = some ((wallsL u).map sd, [A, Kd, some (.imm (sd u)), c, p, none]) := by
      have w0 := walls_eq u u1 u5
      have ew : ((faces u).map fun p => sd p.1) = (wallsL u).map sd := by unfold wallsL; rw [List.map_map]; rfl
      rw [ew] at w0
      have hb : mFz (mCall 1 g_walls_of [(mV 2)]) [A, Kd, some (.imm (sd u)), c, p, none] = some (.lst ((wallsL u).map sd), [A, Kd, some (.imm (sd u)), c, p, none]) := fz_eq (call_eq (ds := [sd u]) rfl rfl w0)
      unfold bCov itD
      rw [hb]; rfl
    have e5 := dcT_loop (σ := [A, Kd, some (.imm (sd u)), c, p, none]) (j := 5) rfl (wallsL u) K
    unfold lpDd
    rw [show Tg.put (.nm 2) (sd u) [A, Kd, none, c, p, none] = some [A, Kd, some (.imm (sd u)), c, p, none] from rfl]
    dsimp only
    rw [show mYes [A, Kd, some (.imm (sd u)), c, p, none] = some (true, [A, Kd, some (.imm (sd u)), c, p, none]) from rfl]
    dsimp only
    rw [hit]
    dsimp only
    rw [show hide [A, Kd, some (.imm (sd u)), c, p, none] [5] = [A, Kd, some (.imm (sd u)), c, p, none] from rfl, e5]
    exact b_cov T (addKs K (wallsL u)) fun v hv => hu v (List.mem_cons_of_mem _ hv)
theorem web_by_eq {cs : Sd} {S : List Sd} (h : Fam cs S) : g_web_by [.lst (S.map sd)] = some (.imm (webD (hull S))) := by
  have lim : LIM = 16777216 := rfl
  obtain ⟨t', p', k1, k2, e⟩ := b_out (A := some (.imm (.lst (S.map sd)))) (c := none) (q := none) S [] none none rfl rfl (fun t ht => h.ne ht) fun n _ => by
    refine Nat.le_trans (h.parts_len (addKs_nodup List.nodup_nil) fun s hs => ?_) (by decide)
    rcases addKs_mem.mp hs with z | z
    · cases z
    · obtain ⟨t, ht, hz⟩ := List.mem_flatMap.mp (List.mem_of_mem_take z)
      obtain ⟨h1, h2⟩ := mem_parts.mp hz
      exact ⟨h2, t, ht, h1⟩
  have kl : (known S).length ≤ 128 := h.parts_len (known_nodup S) fun s m => known_mem.mp m
  have k5 : ∀ u ∈ known S, 1 ≤ u.length ∧ u.length ≤ 5 := fun u hu => ⟨List.length_pos_iff.mpr (h.under (known_mem.mp hu)).2.1, (h.under (known_mem.mp hu)).2.2⟩
  have cl : (addKs [] (coverL (known S))).length ≤ 128 := h.parts_len (addKs_nodup List.nodup_nil) fun s hs => by
    rcases addKs_mem.mp hs with z | z
    · cases z
    · obtain ⟨t, ht, hz⟩ := List.mem_flatMap.mp z
      exact known_mem.mp (clo_known S t ht s hz)
  have hw := web_eq (hull_tops h)
  have hne : ∀ s ∈ known S, s ≠ [] := fun s m => (known_mem.mp m).1
  unfold hull at *
  rw [show addKs [] (S.flatMap partsL) = known S from rfl] at e
  generalize known S = K at *
  have b := b_cov (A := some (.imm (.lst (S.map sd)))) (Kd := some (.imm (.dct true (kD K)))) (c := none) (p := p') K [] k5
  have ek : K.map sd = (kD K).map (·.1) := by unfold kD; rw [List.map_map]; rfl
  have e3 : mDd (itD (mV 1)) (.nm 2) mYes bCov (.nm 5) mYes (mV 5) (mC (.bl true)) [2, 5] [5] [some (.imm (.lst (S.map sd))), some (.ds false true (kD K)), t', none, p', none] = some (.ds false true (kD (addKs [] (coverL K))), [some (.imm (.lst (S.map sd))), some (.imm (.dct true (kD K))), t', none, p', none]) := by
    have hi : itD (mV 1) [some (.imm (.lst (S.map sd))), some (.ds false true (kD K)), t', none, p', none] = some (K.map sd, [some (.imm (.lst (S.map sd))), some (.imm (.dct true (kD K))), t', none, p', none]) := by rw [ek]; rfl
    unfold mDd
    rw [hi]
    dsimp only
    rw [show hide [some (.imm (.lst (S.map sd))), some (.imm (.dct true (kD K))), t', none, p', none] [2, 5] = [some (.imm (.lst (S.map sd))), some (.imm (.dct true (kD K))), none, none, p', none] from rfl, show ([] : List (D × D)) = kD [] from rfl, b]
    dsimp only
    rw [if_pos (by rw [kD_len]; omega)]
    rfl
  generalize hC : addKs [] (coverL K) = C at *
  have hCm : ∀ s, s ∈ C ↔ s ∈ coverL K := fun s => by rw [← hC, addKs_mem]; simp
  have e4 := mLc_if (j := 2) (it := itD (mV 1)) (tt := (mT (m2 (fInA true) (.pk 2) (.pk 3)))) (te := mV 2) (f := id) (p := inD true C) (l := K.map sd) (σ := [some (.imm (.lst (S.map sd))), some (.imm (.dct true (kD K))), t', some (.ds false true (kD C)), p', none]) (σ1 := [some (.imm (.lst (S.map sd))), some (.imm (.dct true (kD K))), t', some (.ds false true (kD C)), p', none]) (by rw [ek]; rfl) (by rw [List.length_map]; omega) (by show 2 < 6; decide) (fun d hd => by
    obtain ⟨s, _, rfl⟩ := List.mem_map.mp hd
    refine ⟨mT_eq (m2_pp (d := sd s) (e := .dct true (kD C)) rfl rfl ?_), fun _ => rfl⟩
    rw [in_kD, inD_sd])
  have ef : ((K.map sd).filter (inD true C)).map id = (K.filter fun s => decide (s ∉ coverL K)).map sd := by
    rw [List.map_id, List.filter_map]
    congr 1
    exact List.filter_congr fun s _ => by
      show inD true C (sd s) = _
      rw [inD_sd]; simp [hCm s]
  rw [ef] at e4
  have fl := List.length_filter_le (fun s : Sd => decide (s ∉ coverL K)) K
  have so := sort_sds (S := K.filter fun s => decide (s ∉ coverL K)) (by omega) fun s h => hne s (List.mem_filter.mp h).1
  refine runV_rt (σ := [some (.imm (.lst (S.map sd))), some (.imm (.dct true (kD K))), t', some (.ds false true (kD C)), p', none]) ?_
  refine (seq_nx (σ' := [some (.imm (.lst (S.map sd))), some (.ds false true (kD [])), none, none, none, none]) rfl).trans ?_
  refine (seq_nx ((for_eq (ds := S.map sd) rfl).trans e)).trans ?_
  refine (seq_nx ((set_eq e3 rfl).trans rfl)).trans ?_
  exact ret_eq (call_eq (ds := [tupS (maxL K)]) (mL_cons (fz_eq (s := .imm (tupS (maxL K))) (m1_v (fz_eq (m1_v (fz_eq e4) so)) rfl)) mL_nil) rfl hw)
end Qk
end

section
set_option Elab.async false
set_option linter.all false
set_option maxRecDepth 100000
/-! Sc: is_within, is_part, skeleton, star, link, all_sides. -/
namespace Qk
open PySem PySem.Spec L2 Ev Wk
set_option autoImplicit false
theorem any_ints (s : Sd) (c : Int) : ((s.map D.int).any fun z => D.eqv z (.int c)) = decide (c ∈ s) := by
  induction s with
  | nil => rfl
  | cons a s ih =>
    rw [List.map_cons, List.any_cons, ih]
    show ((a == c) || _) = _
    by_cases h : a = c
    · subst h; simp
    · rw [beq_eq_false_iff_ne.mpr h, Bool.false_or]
      have : (c ∈ a :: s) ↔ c ∈ s := by rw [List.mem_cons]; exact ⟨fun z => z.elim (fun e => absurd e.symm h) id, .inr⟩
      simp [this]
theorem flat_ints (s : Sd) : (s.map D.int).all D.flat = true := by
  rw [List.all_map, List.all_eq_true]
  intro a _; rfl
theorem in_ints (b : Bool) (c : Int) (s : Sd) : fInA b (.int c) (sd s) = some (.imm (.bl (b ^^ decide (c ∈ s)))) := by
  show (if (D.flat (.int c) && (s.map D.int).all D.flat) = true then some (Ev.S.imm (.bl (b ^^ ((s.map D.int).any fun z => D.eqv z (.int c))))) else none) = _
  rw [flat_ints, any_ints]; rfl
def wtB (p s : Sd) : Bool := p.all fun c => decide (c ∈ s)
theorem wtB_ok {p s : Sd} : wtB p s = true ↔ ∀ c ∈ p, c ∈ s := by
  unfold wtB
  rw [List.all_eq_true]
  simp
theorem wtB_sub {cs p s : Sd} (asc : Asc cs) (hp : List.Sublist p cs) (hs : List.Sublist s cs) : wtB p s = true ↔ List.Sublist p s := by
  rw [wtB_ok]
  exact ⟨fun h => asc_sub (asc.sublist hs) (asc.sublist hp) h, fun h c hc => h.mem hc⟩
theorem within_eq {p s : Sd} (hl : p.length ≤ LIM) : g_is_within [sd p, sd s] = some (.imm (.bl (wtB p s))) := by
  refine runV_rt (σ := [some (.imm (sd p)), some (.imm (sd s)), none]) ?_
  have e := mLc_nm (j := 2) (it := itD (mV 0)) (te := mFz (m2 (fInA false) (.pk 2) (.pk 1))) (σ := [some (.imm (sd p)), some (.imm (sd s)), none]) (σ1 := [some (.imm (sd p)), some (.imm (sd s)), none]) (ds := p.map D.int) (f := fun d => match d with | .int c => .bl (decide (c ∈ s)) | _ => .non) rfl (by rw [List.length_map]; exact hl) (by show 2 < 3; decide) (fun d hd => by
    obtain ⟨c, _, rfl⟩ := List.mem_map.mp hd
    refine fz_eq (s := .imm (.bl (decide (c ∈ s)))) (m2_pp (d := .int c) (e := sd s) rfl rfl ?_)
    rw [in_ints]; simp)
  rw [List.map_map] at e
  have a := fAll_map (fun c : Int => decide (c ∈ s)) p
  have ea : (p.map fun c => decide (c ∈ s)).all id = wtB p s := by unfold wtB; rw [List.all_map]; rfl
  rw [ea] at a
  exact ret_eq (m1_v (fz_eq e) a)
/-- all tops of the other stand in the web -/
theorem is_part_eq {ts us : List Sd} (hl : us.length ≤ LIM) : g_is_part [webD ts, webD us] = some (.imm (.bl (us.all fun u => decide (u ∈ known ts)))) := by
  unfold webD
  generalize lotsL (iSort sle (known ts)) = L1
  generalize lotsL (iSort sle (known us)) = L2
  generalize kD (known us) = K2
  generalize known ts = K1
  generalize hT : tupS ts = T1
  refine runV_rt (σ := [some (.imm (.ins 0 [T1, .lst (L1.map D.lst), .dct true (kD K1)])), some (.imm (.ins 0 [tupS us, .lst (L2.map D.lst), .dct true K2])), none]) ?_
  have e := mLc_nm (j := 2) (it := itD (mFld 0 0 (mV 1))) (te := mFz (m2 (fInA false) (.pk 2) (.val (mFld 0 2 (mV 0))))) (σ := [some (.imm (.ins 0 [T1, .lst (L1.map D.lst), .dct true (kD K1)])), some (.imm (.ins 0 [tupS us, .lst (L2.map D.lst), .dct true K2])), none]) (σ1 := [some (.imm (.ins 0 [T1, .lst (L1.map D.lst), .dct true (kD K1)])), some (.imm (.ins 0 [tupS us, .lst (L2.map D.lst), .dct true K2])), none]) (ds := us.map sd) (f := fun d => .bl (inD false K1 d)) rfl (by rw [List.length_map]; exact hl) (by show 2 < 3; decide) (fun d hd => by
    obtain ⟨u, _, rfl⟩ := List.mem_map.mp hd
    refine fz_eq (s := .imm (.bl (inD false K1 (sd u)))) (m2_pv (d := sd u) (d0 := sd u) (e := .dct true (kD K1)) rfl rfl rfl ?_)
    rw [in_kD, inD_sd])
  rw [List.map_map] at e
  have ef : (us.map ((fun d => D.bl (inD false K1 d)) ∘ sd)) = us.map fun u => D.bl (decide (u ∈ K1)) := List.map_congr_left fun u _ => by
    show D.bl (inD false K1 (sd u)) = _
    rw [inD_sd]; simp
  rw [ef] at e
  have a := fAll_map (fun u : Sd => decide (u ∈ K1)) us
  have ea : (us.map fun u => decide (u ∈ K1)).all id = us.all fun u => decide (u ∈ K1) := by rw [List.all_map]; rfl
  rw [ea] at a
  have e1 : m1 fIsW2 (.pk 1) (startF ([.ins 0 [T1, .lst (L1.map D.lst), .dct true (kD K1)], .ins 0 [tupS us, .lst (L2.map D.lst), .dct true K2]].map Ev.S.imm) 3) = some (.imm (.bl true), [some (.imm (.ins 0 [T1, .lst (L1.map D.lst), .dct true (kD K1)])), some (.imm (.ins 0 [tupS us, .lst (L2.map D.lst), .dct true K2])), none]) := m1_p rfl rfl
  refine ret_eq ?_
  unfold mAnd
  rw [e1]
  exact m1_v (fz_eq e) a
theorem is_part_no {W d : D} (h : fIsW2 d = some (.imm (.bl false))) : g_is_part [W, d] = some (.imm (.bl false)) := by
  refine runV_rt (σ := [some (.imm W), some (.imm d), none]) ?_
  refine ret_eq ?_
  have e1 : m1 fIsW2 (.pk 1) (startF ([W, d].map Ev.S.imm) 3) = some (.imm (.bl false), [some (.imm W), some (.imm d), none]) := m1_p rfl h
  unfold mAnd
  rw [e1]
theorem all_known {cs : Sd} {ts us : List Sd} (k : Tops cs us) (h : ∀ s, Under us s → Under ts s) : (us.all fun u => decide (u ∈ known ts)) = true := by
  rw [List.all_eq_true]
  intro u hu
  rw [decide_eq_true_eq, known_mem]
  exact h u (k.under hu)
/-! ### skeleton -/
theorem deg_asked {d : Int} (h : 0 ≤ d) : g_degree_asked [.int d] = some (.imm .non) := by
  have e0 : g_is_from_nought [.int d] = some (.imm (.bl true)) := by
    have : g_is_from_nought [.int d] = some (.imm (.bl (decide ((0 : Int) ≤ d)))) := rfl
    rw [this, decide_eq_true h]
  have e1 : bNot (mTru (.val (mFz (mCall 1 g_is_from_nought [(mV 0)])))) [some (.imm (.int d))] = some (false, [some (.imm (.int d))]) := not_eq (tru_v (fz_eq (call_eq (ds := [.int d]) rfl rfl e0)))
  exact runV_nx (σ := [some (.imm (.int d))]) ((ifF e1).trans rfl)
def leD (n : Int) : D → Bool
  | .tup _ l => decide ((l.length : Int) ≤ n)
  | _ => false
theorem leD_sds (n : Int) (S : List Sd) : ((S.map sd).filter (leD n)).map id = (S.filter fun s => decide ((s.length : Int) ≤ n)).map sd := by
  rw [List.map_id, List.filter_map]
  congr 1
  exact List.filter_congr fun s _ => by
    show decide (((s.map D.int).length : Int) ≤ n) = _
    rw [List.length_map]
theorem flt_fam {cs : Sd} {S L : List Sd} (h : Fam cs S) (nd : L.Nodup) (hs : ∀ s ∈ L, Under S s) : Fam cs L := ⟨h.asc, h.few, h.lo, fun s m => h.under (hs s m), h.parts_len nd hs⟩
theorem skel_eq {cs : Sd} {ts : List Sd} (h : Tops cs ts) {d : Int} (hd : 0 ≤ d) : g_skeleton [webD ts, .int d] = some (.imm (webD (hull ((known ts).filter fun s => decide ((s.length : Int) ≤ d + 1))))) := by
  have lim : LIM = 16777216 := rfl
  have kl := known_len h
  have F : Fam cs ((known ts).filter fun s => decide ((s.length : Int) ≤ d + 1)) := flt_fam h.fam ((known_nodup ts).filter _) fun s m => known_mem.mp (List.mem_filter.mp m).1
  have hw := web_by_eq F
  unfold webD at *
  generalize lotsL (iSort sle (known ts)) = L1 at *
  generalize hK : known ts = K at *
  generalize hT : tupS ts = T1 at *
  have ek : K.map sd = (kD K).map (·.1) := by unfold kD; rw [List.map_map]; rfl
  refine runV_rt (σ := [some (.imm (.ins 0 [T1, .lst (L1.map D.lst), .dct true (kD K)])), some (.imm (.int d)), none]) ?_
  refine (seq_nx (drop_eq (call_eq (ds := [.int d]) rfl rfl (deg_asked hd)))).trans ?_
  have e := mLc_if (j := 2) (it := itD (mFld 0 2 (mV 0))) (tt := (mT (m2 (fI2 fun i j => .bl (decide (i ≤ j))) (.val (mFz (m1 fLen (.pk 2)))) (.val (mFz (m2 fAdd (.pk 1) (.val (mC (.int 1))))))))) (te := mV 2) (f := id) (p := leD (d + 1)) (l := K.map sd) (σ := [some (.imm (.ins 0 [T1, .lst (L1.map D.lst), .dct true (kD K)])), some (.imm (.int d)), none]) (σ1 := [some (.imm (.ins 0 [T1, .lst (L1.map D.lst), .dct true (kD K)])), some (.imm (.int d)), none]) (by rw [ek]; rfl) (by rw [List.length_map]; omega) (by show 2 < 3; decide) (fun x hx => by
    obtain ⟨s, _, rfl⟩ := List.mem_map.mp hx
    refine ⟨mT_eq (m2_vv (d := .int (s.map D.int).length) (e := .int (d + 1)) (fz_eq (s := .imm (.int (s.map D.int).length)) (m1_p (d := sd s) rfl rfl)) (fz_eq (s := .imm (.int (d + 1))) (m2_pv (d := .int d) (d0 := .int d) (e := .int 1) rfl rfl rfl rfl)) rfl), fun _ => rfl⟩)
  rw [leD_sds] at e
  generalize (K.filter fun s => decide ((s.length : Int) ≤ d + 1)) = S at *
  exact ret_eq (call_eq (ds := [.lst (S.map sd)]) (mL_cons (fz_eq e) mL_nil) rfl hw)
/-! ### star -/
theorem side_ok {ts : List Sd} {s : Sd} (f : formB s = true) (h : s ∈ known ts) : g_side_asked [webD ts, sd s] = some (.imm .non) := by
  unfold webD
  generalize known ts = K at *
  generalize lotsL (iSort sle K) = L1 at *
  generalize hT : tupS ts = T1 at *
  have e0 := side_form_eq s
  rw [f] at e0
  have t1 : bNot (mTru (.val (mFz (mCall 1 g_is_side_form [(mV 1)])))) [some (.imm (.ins 0 [T1, .lst (L1.map D.lst), .dct true (kD K)])), some (.imm (sd s))] = some (false, [some (.imm (.ins 0 [T1, .lst (L1.map D.lst), .dct true (kD K)])), some (.imm (sd s))]) := not_eq (tru_v (fz_eq (call_eq (ds := [sd s]) rfl rfl e0)))
  have t2 : mT (m2 (fInA true) (.pk 1) (.val (mFld 0 2 (mV 0)))) [some (.imm (.ins 0 [T1, .lst (L1.map D.lst), .dct true (kD K)])), some (.imm (sd s))] = some (false, [some (.imm (.ins 0 [T1, .lst (L1.map D.lst), .dct true (kD K)])), some (.imm (sd s))]) := by
    refine mT_eq (m2_pv (d := sd s) (d0 := sd s) (e := .dct true (kD K)) rfl rfl rfl ?_)
    rw [in_kD, decide_eq_true h]; rfl
  exact runV_nx (σ := [some (.imm (.ins 0 [T1, .lst (L1.map D.lst), .dct true (kD K)])), some (.imm (sd s))]) ((ifF ((orF t1).trans t2)).trans rfl)
def wtD (p : Sd) : D → Bool
  | .tup _ l => p.all fun c => l.any fun z => D.eqv z (.int c)
  | _ => false
theorem wtD_sd (p s : Sd) : wtD p (sd s) = wtB p s := by
  unfold wtD wtB sd
  dsimp only
  congr 1
  funext c
  exact any_ints s c
theorem wtD_sds (p : Sd) (S : List Sd) : (S.map sd).filter (wtD p) = (S.filter (wtB p)).map sd := by
  rw [List.filter_map]
  congr 1
  exact List.filter_congr fun s _ => wtD_sd p s
theorem star_eq {cs : Sd} {ts : List Sd} (h : Tops cs ts) {s : Sd} (hs : Under ts s) : g_star [webD ts, sd s] = some (.imm (webD (hull (ts.filter (wtB s))))) := by
  have lim : LIM = 16777216 := rfl
  have tl := h.len
  obtain ⟨f1, f2, f3⟩ := h.form hs
  have F : Fam cs (ts.filter (wtB s)) := flt_fam h.fam ((pw_nodup h.srt).filter _) fun t m => h.under (List.mem_filter.mp m).1
  have hw := web_by_eq F
  have a := side_ok f1 (known_mem.mpr hs)
  unfold webD at *
  generalize lotsL (iSort sle (known ts)) = L1 at *
  generalize kD (known ts) = K at *
  refine runV_rt (σ := [some (.imm (.ins 0 [tupS ts, .lst (L1.map D.lst), .dct true K])), some (.imm (sd s)), none]) ?_
  refine (seq_nx (drop_eq (call_eq (ds := [.ins 0 [tupS ts, .lst (L1.map D.lst), .dct true K], sd s]) rfl rfl a))).trans ?_
  have e := mLc_if (j := 2) (it := itD (mFld 0 0 (mV 0))) (tt := (mTru (.val (mFz (mCall 2 g_is_within [(mV 1), (mV 2)]))))) (te := mV 2) (f := id) (p := wtD s) (l := ts.map sd) (σ := [some (.imm (.ins 0 [tupS ts, .lst (L1.map D.lst), .dct true K])), some (.imm (sd s)), none]) (σ1 := [some (.imm (.ins 0 [tupS ts, .lst (L1.map D.lst), .dct true K])), some (.imm (sd s)), none]) rfl (by rw [List.length_map]; omega) (by show 2 < 3; decide) (fun x hx => by
    obtain ⟨t, _, rfl⟩ := List.mem_map.mp hx
    rw [wtD_sd]
    exact ⟨tru_v (fz_eq (call_eq (ds := [sd s, sd t]) rfl rfl (within_eq (by omega)))), fun _ => rfl⟩)
  rw [List.map_id, wtD_sds] at e
  exact ret_eq (call_eq (ds := [.lst ((ts.filter (wtB s)).map sd)]) (mL_cons (fz_eq e) mL_nil) rfl hw)
/-! ### link -/
def minus (t s : Sd) : Sd := t.filter fun c => decide (c ∉ s)
def ninI (s : Sd) : D → Bool
  | .int c => decide (c ∉ s)
  | _ => false
def minD (s : Sd) : D → D
  | .tup _ l => .tup (dictable (l.filter (ninI s))) (l.filter (ninI s))
  | _ => .non
theorem ninI_ints (s t : Sd) : (t.map D.int).filter (ninI s) = (minus t s).map D.int := by
  rw [List.filter_map]; rfl
/-- the tuple of some ints; empty ones are of another make -/
def sdE (s : Sd) : D := .tup (dictable (s.map D.int)) (s.map D.int)
theorem sdE_sd {s : Sd} (h : s ≠ []) : sdE s = sd s := by unfold sdE; rw [dict_ints h]; rfl
theorem minD_sd (s t : Sd) : minD s (sd t) = sdE (minus t s) := by
  show D.tup (dictable ((t.map D.int).filter (ninI s))) ((t.map D.int).filter (ninI s)) = _
  rw [ninI_ints]; rfl
def neD : D → Bool
  | .tup _ l => !l.isEmpty
  | _ => false
theorem neD_sds (S : List Sd) : ((S.map sdE).filter neD) = (S.filter fun s => !s.isEmpty).map sd := by
  rw [List.filter_map]
  have : (S.filter (neD ∘ sdE)) = S.filter fun s => !s.isEmpty := List.filter_congr fun s _ => by
    show (!(s.map D.int).isEmpty) = _
    cases s <;> rfl
  rw [this]
  refine List.map_congr_left fun s m => sdE_sd fun e => ?_
  have := (List.mem_filter.mp m).2
  rw [e] at this; cases this
def restsL (ts : List Sd) (s : Sd) : List Sd := ((ts.filter (wtB s)).map fun t => minus t s).filter fun r => !r.isEmpty
theorem minus_sub (t s : Sd) : List.Sublist (minus t s) t := List.filter_sublist
theorem rests_under {ts : List Sd} {s r : Sd} (hr : r ∈ restsL ts s) : r ≠ [] ∧ ∃ t ∈ ts, wtB s t = true ∧ r = minus t s := by
  unfold restsL at hr
  obtain ⟨h1, h2⟩ := List.mem_filter.mp hr
  obtain ⟨t, ht, rfl⟩ := List.mem_map.mp h1
  obtain ⟨a, b⟩ := List.mem_filter.mp ht
  exact ⟨fun e => (by rw [e] at h2; cases h2), t, a, b, rfl⟩
theorem rests_mem {ts : List Sd} {s t : Sd} (ht : t ∈ ts) (hw : wtB s t = true) (ne : minus t s ≠ []) : minus t s ∈ restsL ts s := by
  unfold restsL
  refine List.mem_filter.mpr ⟨List.mem_map.mpr ⟨t, List.mem_filter.mpr ⟨ht, hw⟩, rfl⟩, ?_⟩
  cases h : minus t s with
  | nil => exact absurd h ne
  | cons a l => rfl
theorem rests_fam {cs : Sd} {ts : List Sd} (h : Tops cs ts) (s : Sd) : Fam cs (restsL ts s) := ⟨h.asc, h.few, h.lo, fun r m => by
  obtain ⟨ne, t, ht, hw, rfl⟩ := rests_under m
  obtain ⟨a, b, c⟩ := h.sub t ht
  exact ⟨(minus_sub t s).trans a, ne, Nat.le_trans (minus_sub t s).length_le c⟩, by
  unfold restsL
  refine Nat.le_trans (List.length_filter_le _ _) ?_
  rw [List.length_map]
  exact Nat.le_trans (List.length_filter_le _ _) h.len⟩
theorem link_eq {cs : Sd} {ts : List Sd} (h : Tops cs ts) {s : Sd} (hs : Under ts s) : g_link [webD ts, sd s] = some (.imm (webD (hull (restsL ts s)))) := by
  have lim : LIM = 16777216 := rfl
  have tl := h.len
  obtain ⟨f1, f2, f3⟩ := h.form hs
  have hw := web_by_eq (rests_fam h s)
  have a := side_ok f1 (known_mem.mpr hs)
  have t5 : ∀ t ∈ ts, t.length ≤ 5 := fun t ht => (h.sub t ht).2.2
  unfold webD at *
  generalize lotsL (iSort sle (known ts)) = L1 at *
  generalize kD (known ts) = K at *
  refine runV_rt (σ := [some (.imm (.ins 0 [tupS ts, .lst (L1.map D.lst), .dct true K])), some (.imm (sd s)), some (.imm (.lst (((ts.filter (wtB s)).map fun t => minus t s).map sdE))), none, none, none]) ?_
  refine (seq_nx (drop_eq (call_eq (ds := [.ins 0 [tupS ts, .lst (L1.map D.lst), .dct true K], sd s]) rfl rfl a))).trans ?_
  have e := mLc_if (j := 3) (it := itD (mFld 0 0 (mV 0))) (tt := (mTru (.val (mFz (mCall 2 g_is_within [(mV 1), (mV 3)]))))) (te := (mFz (m1 fTup (.val (mFz (mLc (itD (mV 3)) (.nm 5) (mT (m2 (fInA true) (.pk 5) (.pk 1))) (mV 5) [5])))))) (f := minD s) (p := wtD s) (l := ts.map sd) (σ := [some (.imm (.ins 0 [tupS ts, .lst (L1.map D.lst), .dct true K])), some (.imm (sd s)), none, none, none, none]) (σ1 := [some (.imm (.ins 0 [tupS ts, .lst (L1.map D.lst), .dct true K])), some (.imm (sd s)), none, none, none, none]) rfl (by rw [List.length_map]; omega) (by show 3 < 6; decide) (fun x hx => by
    obtain ⟨t, ht, rfl⟩ := List.mem_map.mp hx
    rw [wtD_sd]
    refine ⟨tru_v (fz_eq (call_eq (ds := [sd s, sd t]) rfl rfl (within_eq (by omega)))), fun _ => ?_⟩
    have e2 := mLc_if (j := 5) (it := itD (mV 3)) (tt := (mT (m2 (fInA true) (.pk 5) (.pk 1)))) (te := mV 5) (f := id) (p := ninI s) (l := t.map D.int) (σ := [some (.imm (.ins 0 [tupS ts, .lst (L1.map D.lst), .dct true K])), some (.imm (sd s)), none, some (.imm (sd t)), none, none]) (σ1 := [some (.imm (.ins 0 [tupS ts, .lst (L1.map D.lst), .dct true K])), some (.imm (sd s)), none, some (.imm (sd t)), none, none]) rfl (by rw [List.length_map]; have := t5 t ht; omega) (by show 5 < 6; decide) (fun y hy => by
      obtain ⟨c, _, rfl⟩ := List.mem_map.mp hy
      refine ⟨mT_eq (m2_pp (d := .int c) (e := sd s) rfl rfl ?_), fun _ => rfl⟩
      rw [in_ints]
      show some (Ev.S.imm (.bl (true ^^ decide (c ∈ s)))) = some (Ev.S.imm (.bl (decide (c ∉ s))))
      simp)
    rw [List.map_id] at e2
    refine fz_eq (s := .imm (minD s (sd t))) (m1_v (fz_eq e2) ?_)
    rfl)
  have em : ((ts.map sd).filter (wtD s)).map (minD s) = ((ts.filter (wtB s)).map fun t => minus t s).map sdE := by
    rw [wtD_sds, List.map_map, List.map_map]
    exact List.map_congr_left fun t _ => minD_sd s t
  rw [em] at e
  refine (seq_nx ((set_eq e rfl).trans rfl)).trans ?_
  have fl := List.length_filter_le (wtB s) ts
  have e3 := mLc_if (j := 4) (it := itD (mV 2)) (tt := mTru (.pk 4)) (te := mV 4) (f := id) (p := neD) (l := ((ts.filter (wtB s)).map fun t => minus t s).map sdE) (σ := [some (.imm (.ins 0 [tupS ts, .lst (L1.map D.lst), .dct true K])), some (.imm (sd s)), some (.ls false (((ts.filter (wtB s)).map fun t => minus t s).map sdE)), none, none, none]) (σ1 := [some (.imm (.ins 0 [tupS ts, .lst (L1.map D.lst), .dct true K])), some (.imm (sd s)), some (.imm (.lst (((ts.filter (wtB s)).map fun t => minus t s).map sdE))), none, none, none]) rfl (by rw [List.length_map, List.length_map]; omega) (by show 4 < 6; decide) (fun x hx => by
    obtain ⟨r, _, rfl⟩ := List.mem_map.mp hx
    refine ⟨?_, fun _ => rfl⟩
    cases r <;> rfl)
  rw [List.map_id, neD_sds] at e3
  exact ret_eq (call_eq (ds := [.lst ((restsL ts s).map sd)]) (mL_cons (fz_eq e3) mL_nil) rfl hw)
end Qk
end

section
set_option Elab.async false
set_option linter.all false
set_option maxRecDepth 100000
/-! Sd: all_sides, == of webs, what is shown. -/
namespace Qk
open PySem PySem.Spec L2 Ev Wk
set_option autoImplicit false
/-! ### all_sides -/
theorem ll_loop {W : Option Ev.S} : ∀ LL : List (List D), (∀ l ∈ LL, l.length ≤ LIM) →
    lpLl (.nm 1) mYes (itD (mV 1)) (.nm 2) mYes (mV 2) [1, 2] [2] (LL.map D.lst) [W, none, none] = some (LL.flatten, [W, none, none])
  | [], _ => rfl
  | l :: LL, h => by
    have e := lpC_nm (j := 2) (te := mV 2) (σ := [W, some (.imm (.lst l)), none]) (f := id) rfl (ds := l) (fun d _ => rfl)
    rw [List.map_id] at e
    rw [List.map_cons, List.flatten_cons]
    unfold lpLl
    rw [show Tg.put (.nm 1) (D.lst l) [W, none, none] = some [W, some (.imm (.lst l)), none] from rfl]
    dsimp only
    rw [show mYes [W, some (.imm (.lst l)), none] = some (true, [W, some (.imm (.lst l)), none]) from rfl]
    dsimp only
    rw [show itD (mV 1) [W, some (.imm (.lst l)), none] = some (l, [W, some (.imm (.lst l)), none]) from rfl]
    dsimp only
    rw [show hide [W, some (.imm (.lst l)), none] [2] = [W, some (.imm (.lst l)), none] from rfl, e]
    dsimp only
    rw [show hide [W, some (.imm (.lst l)), none] [1, 2] = [W, none, none] from rfl, ll_loop LL fun x hx => h x (List.mem_cons_of_mem _ hx)]
theorem lots_flat {K : List Sd} (nd : K.Nodup) : (lotsL (iSort sle K)).flatten = (bySize K).map sd := by
  unfold lotsL bySize ofSize
  rw [List.map_flatMap, ← List.flatMap_def]
  congr 1
  funext i
  congr 1
  exact sorted_eq (r := lt) lt_irrefl (fun a b => lt_trans a b) ((iSort_pw nd).filter _) (iSort_pw (nd.filter _)) fun s => by
    rw [List.mem_filter, iSort_mem, iSort_mem, List.mem_filter]
theorem all_sides_eq {cs : Sd} {ts : List Sd} (h : Tops cs ts) : g_all_sides [webD ts] = some (.imm (tupS (wh ts))) := by
  have lim : LIM = 16777216 := rfl
  have kl := known_len h
  have wl := wh_len h.fam
  have lf := lots_flat (known_nodup ts)
  have ll : ∀ l ∈ lotsL (iSort sle (known ts)), l.length ≤ LIM := fun l hl => by
    obtain ⟨i, _, rfl⟩ := List.mem_map.mp hl
    rw [List.length_map]
    refine Nat.le_trans (List.length_filter_le _ _) ?_
    rw [iSort_len]; omega
  rw [show bySize (known ts) = wh ts from rfl] at lf
  unfold webD
  generalize lotsL (iSort sle (known ts)) = L at *
  generalize kD (known ts) = K at *
  generalize tupS ts = T at *
  have e0 := ll_loop (W := some (.imm (.ins 0 [T, .lst (L.map D.lst), .dct true K]))) L ll
  have e : mLl (itD (mFld 0 1 (mV 0))) (.nm 1) mYes (itD (mV 1)) (.nm 2) mYes (mV 2) [1, 2] [2] [some (.imm (.ins 0 [T, .lst (L.map D.lst), .dct true K])), none, none] = some (.ls false ((wh ts).map sd), [some (.imm (.ins 0 [T, .lst (L.map D.lst), .dct true K])), none, none]) := by
    unfold mLl
    rw [show itD (mFld 0 1 (mV 0)) [some (.imm (.ins 0 [T, .lst (L.map D.lst), .dct true K])), none, none] = some (L.map D.lst, [some (.imm (.ins 0 [T, .lst (L.map D.lst), .dct true K])), none, none]) from rfl]
    dsimp only
    rw [show hide [some (.imm (.ins 0 [T, .lst (L.map D.lst), .dct true K])), none, none] [1, 2] = [some (.imm (.ins 0 [T, .lst (L.map D.lst), .dct true K])), none, none] from rfl, e0]
    dsimp only
    rw [lf, if_pos (by rw [List.length_map]; omega)]
    rfl
  exact runV_rt (ret_eq (m1_v (fz_eq e) rfl))
/-! ### == -/
theorem eqvs_self : ∀ S : List Sd, D.eqvs (S.map sd) (S.map sd) = true
  | [] => rfl
  | s :: S => by
    show (D.eqv (sd s) (sd s) && D.eqvs (S.map sd) (S.map sd)) = true
    rw [eqv_sd, eqvs_self S]; simp
theorem tupS_sh (S : List Sd) : (tupS S).sh = true := by
  have := lst_sh S
  exact this
theorem web_same (ts : List Sd) : g_Web_eq [webD ts, webD ts] = some (.imm (.bl true)) := by
  unfold webD
  generalize lotsL (iSort sle (known ts)) = L
  generalize kD (known ts) = K
  have e : fEq (tupS ts) (tupS ts) = some (.imm (.bl true)) := by
    unfold fEq
    rw [tupS_sh]
    show some (Ev.S.imm (.bl (D.eqvs (ts.map sd) (ts.map sd)))) = _
    rw [eqvs_self]
  generalize tupS ts = T at *
  have e1 : m1 fIsW2 (.pk 1) (startF ([.ins 0 [T, .lst (L.map D.lst), .dct true K], .ins 0 [T, .lst (L.map D.lst), .dct true K]].map Ev.S.imm) 2) = some (.imm (.bl true), startF ([.ins 0 [T, .lst (L.map D.lst), .dct true K], .ins 0 [T, .lst (L.map D.lst), .dct true K]].map Ev.S.imm) 2) := m1_p rfl rfl
  refine runV_rt (σ := [some (.imm (.ins 0 [T, .lst (L.map D.lst), .dct true K])), some (.imm (.ins 0 [T, .lst (L.map D.lst), .dct true K]))]) (ret_eq ?_)
  unfold mAnd
  rw [e1]
  exact m2_vv (d := T) (e := T) rfl rfl e
theorem eqO_same {ma mb : M D} {σ σ1 σ2 : Fr} {ts : List Sd} (neg : Bool) (ha : ma σ = some (webD ts, σ1)) (hb : mb σ1 = some (webD ts, σ2)) : mEqO g_Web_eq neg ma mb σ = some (.imm (.bl (neg ^^ true)), σ2) := by
  have w := web_same ts
  unfold webD at *
  unfold mEqO
  simp only [ha, hb, w]
/-! ### shown -/
theorem log_le {a k : Nat} (h : a < 2 ^ k) : a.log2 ≤ k := by
  by_cases e : a = 0
  · subst e; exact Nat.zero_le _
  · exact Nat.le_of_lt ((Nat.log2_lt e).mpr h)
theorem ints_wt : ∀ s : Sd, (∀ c ∈ s, 0 ≤ c ∧ c ≤ 999) → wts (s.map D.int) ≤ 14 * s.length ∧ shos (s.map D.int) = true
  | [], _ => ⟨Nat.le_refl _, rfl⟩
  | a :: s, h => by
    obtain ⟨h1, h2⟩ := ints_wt s fun c hc => h c (List.mem_cons_of_mem _ hc)
    obtain ⟨a0, a9⟩ := h a List.mem_cons_self
    have lg : a.natAbs.log2 ≤ 10 := log_le (by omega)
    refine ⟨?_, ?_⟩
    · show (a.natAbs.log2 + 2) + 2 + wts (s.map D.int) ≤ 14 * (s.length + 1)
      omega
    · show (decide (a.natAbs.log2 < 1920) && shos (s.map D.int)) = true
      rw [h2, decide_eq_true (by omega)]; rfl
theorem sds_wt : ∀ S : List Sd, (∀ s ∈ S, s.length ≤ 5 ∧ ∀ c ∈ s, 0 ≤ c ∧ c ≤ 999) → wts (S.map sd) ≤ 75 * S.length ∧ shos (S.map sd) = true
  | [], _ => ⟨Nat.le_refl _, rfl⟩
  | s :: S, h => by
    obtain ⟨h1, h2⟩ := sds_wt S fun c hc => h c (List.mem_cons_of_mem _ hc)
    obtain ⟨s5, sc⟩ := h s List.mem_cons_self
    obtain ⟨i1, i2⟩ := ints_wt s sc
    refine ⟨?_, ?_⟩
    · show (wts (s.map D.int) + 3) + 2 + wts (S.map sd) ≤ 75 * (S.length + 1)
      omega
    · show (shos (s.map D.int) && shos (S.map sd)) = true
      rw [i2, h2]; rfl
theorem tupS_shw {S : List Sd} (hl : S.length ≤ 128) (h : ∀ s ∈ S, s.length ≤ 5 ∧ ∀ c ∈ s, 0 ≤ c ∧ c ≤ 999) : Shw (tupS S) := by
  have lim : LIM = 16777216 := rfl
  obtain ⟨a, b⟩ := sds_wt S h
  refine ⟨pls_sds S, b, ?_, ?_⟩
  · have := dps_sds S
    show D.dps (S.map sd) + 1 ≤ 100
    omega
  · show wts (S.map sd) + 3 ≤ LIM
    omega
theorem wh_shw {cs : Sd} {S : List Sd} (h : Fam cs S) : Shw (tupS (wh S)) := tupS_shw (wh_len h) fun s m => by
  obtain ⟨a, b, c⟩ := h.under ((wh_mem h).mp m)
  exact ⟨c, fun x hx => h.lo x (a.mem hx)⟩
theorem shw_b (b : Bool) : Shw (.bl b) := by cases b <;> exact ⟨rfl, rfl, by decide, by decide⟩
end Qk
end

section
set_option Elab.async false
set_option linter.all false
set_option maxRecDepth 100000
/-! Se: the star and the link of a side. -/
namespace Qk
open PySem PySem.Spec L2 Ev Wk
set_option autoImplicit false
/-! ### mathematics -/
def lkB (W : List Sd) (s o : Sd) : Bool := !(o.any fun c => decide (c ∈ s)) && decide (iSort ile (o ++ s) ∈ W)
theorem lkB_ok {W : List Sd} {s o : Sd} : lkB W s o = true ↔ (∀ c ∈ o, c ∉ s) ∧ iSort ile (o ++ s) ∈ W := by
  unfold lkB
  rw [Bool.and_eq_true, decide_eq_true_eq, Bool.not_eq_true', List.any_eq_false]
  simp
theorem asc_nodup {s : Sd} (h : Asc s) : s.Nodup := h.imp fun a e => by omega
theorem lk_iff {cs : Sd} {ts : List Sd} (h : Tops cs ts) {s o : Sd} (hs : Under ts s) (ho : Under ts o) : lkB (wh ts) s o = true ↔ Under (restsL ts s) o := by
  obtain ⟨sc, sne, s5⟩ := h.fam.under hs
  obtain ⟨oc, one, o5⟩ := h.fam.under ho
  have as := h.asc.sublist sc
  have ao := h.asc.sublist oc
  rw [lkB_ok]
  constructor
  · rintro ⟨dis, hm⟩
    obtain ⟨une, t, ht, ut⟩ := (wh_mem h.fam).mp hm
    have mt : ∀ c, c ∈ o ++ s → c ∈ t := fun c hc => ut.mem (iSort_mem.mpr hc)
    have tc := (h.sub t ht).1
    have w : wtB s t = true := wtB_ok.mpr fun c hc => mt c (List.mem_append_right _ hc)
    have om : List.Sublist o (minus t s) := asc_sub ((h.asc.sublist tc).sublist (minus_sub t s)) ao fun c hc => List.mem_filter.mpr ⟨mt c (List.mem_append_left _ hc), by rw [decide_eq_true_eq]; exact dis c hc⟩
    refine ⟨one, minus t s, rests_mem ht w fun e => ?_, om⟩
    rw [e] at om
    exact one (List.sublist_nil.mp om)
  · rintro ⟨_, r, hr, orr⟩
    obtain ⟨ne, t, ht, hw, rfl⟩ := rests_under hr
    have tc := (h.sub t ht).1
    have dis : ∀ c ∈ o, c ∉ s := fun c hc => by
      have := (List.mem_filter.mp (orr.mem hc)).2
      rwa [decide_eq_true_eq] at this
    have nd : (o ++ s).Nodup := by
      rw [List.nodup_append]
      exact ⟨asc_nodup ao, asc_nodup as, fun a ha b hb e => dis a ha (e ▸ hb)⟩
    refine ⟨dis, (wh_mem h.fam).mpr ⟨fun e => ?_, t, ht, asc_sub (h.asc.sublist tc) (iSortI_pw nd) fun c hc => ?_⟩⟩
    · have := congrArg List.length e
      rw [iSort_len, List.length_append, List.length_nil] at this
      have := List.length_pos_iff.mpr one
      omega
    · rcases List.mem_append.mp (iSort_mem.mp hc) with z | z
      · exact (minus_sub t s).mem (orr.mem z)
      · exact wtB_ok.mp hw c z
theorem rests_down {cs : Sd} {ts : List Sd} (h : Tops cs ts) {s o : Sd} (ho : Under (restsL ts s) o) : Under ts o := by
  obtain ⟨ne, r, hr, k⟩ := ho
  obtain ⟨_, t, ht, _, rfl⟩ := rests_under hr
  exact ⟨ne, t, ht, k.trans (minus_sub t s)⟩
def linksL (ts : List Sd) (s : Sd) : List Sd := (wh ts).filter (lkB (wh ts) s)
theorem links_mem {cs : Sd} {ts : List Sd} (h : Tops cs ts) {s o : Sd} (hs : Under ts s) : o ∈ linksL ts s ↔ Under (restsL ts s) o := by
  unfold linksL
  rw [List.mem_filter, wh_mem h.fam]
  exact ⟨fun ⟨a, b⟩ => (lk_iff h hs a).mp b, fun k => ⟨rests_down h k, (lk_iff h hs (rests_down h k)).mpr k⟩⟩
theorem links_fam {cs : Sd} {ts : List Sd} (h : Tops cs ts) (s : Sd) : Fam cs (linksL ts s) := flt_fam h.fam ((wh_nodup ts).filter _) fun t m => (wh_mem h.fam).mp (List.mem_filter.mp m).1
theorem links_hull {cs : Sd} {ts : List Sd} (h : Tops cs ts) {s : Sd} (hs : Under ts s) : hull (linksL ts s) = hull (restsL ts s) := by
  refine hull_eq (links_fam h s) (rests_fam h s) fun o => ⟨?_, ?_⟩
  · rintro ⟨ne, l, hl, k⟩
    obtain ⟨_, r, hr, k2⟩ := (links_mem h hs).mp hl
    exact ⟨ne, r, hr, k.trans k2⟩
  · intro k
    exact ⟨k.1, o, (links_mem h hs).mpr k, List.Sublist.refl _⟩
theorem links_wh {cs : Sd} {ts : List Sd} (h : Tops cs ts) {s : Sd} (hs : Under ts s) : wh (hull (restsL ts s)) = (wh ts).filter fun o => decide (o ∈ linksL ts s) := by
  rw [show wh ts = bySize (known ts) from rfl, bySize_filter (known_nodup ts)]
  refine bySize_eq (known_nodup _) ((known_nodup ts).filter _) fun o => ?_
  rw [known_mem, hull_under (rests_fam h s), List.mem_filter, decide_eq_true_eq, links_mem h hs, known_mem]
  exact ⟨fun k => ⟨rests_down h k, k⟩, fun k => k.2⟩
def starsL (ts : List Sd) (s : Sd) : List Sd := (wh ts).filter (wtB s)
theorem stars_fam {cs : Sd} {ts : List Sd} (h : Tops cs ts) (s : Sd) : Fam cs (starsL ts s) := flt_fam h.fam ((wh_nodup ts).filter _) fun t m => (wh_mem h.fam).mp (List.mem_filter.mp m).1
theorem tstars_fam {cs : Sd} {ts : List Sd} (h : Tops cs ts) (s : Sd) : Fam cs (ts.filter (wtB s)) := flt_fam h.fam ((pw_nodup h.srt).filter _) fun t m => h.under (List.mem_filter.mp m).1
theorem stars_hull {cs : Sd} {ts : List Sd} (h : Tops cs ts) (s : Sd) : hull (starsL ts s) = hull (ts.filter (wtB s)) := by
  refine hull_eq (stars_fam h s) (tstars_fam h s) fun o => ⟨?_, ?_⟩
  · rintro ⟨ne, l, hl, k⟩
    obtain ⟨a, b⟩ := List.mem_filter.mp hl
    obtain ⟨lne, t, ht, lt⟩ := (wh_mem h.fam).mp a
    exact ⟨ne, t, List.mem_filter.mpr ⟨ht, wtB_ok.mpr fun c hc => lt.mem (wtB_ok.mp b c hc)⟩, k.trans lt⟩
  · rintro ⟨ne, t, ht, k⟩
    obtain ⟨a, b⟩ := List.mem_filter.mp ht
    exact ⟨ne, t, List.mem_filter.mpr ⟨(wh_mem h.fam).mpr (h.under a), b⟩, k⟩
/-! ### the law -/
def abF (W : List Sd) (web : D) (s : Sd) (st lk o b ab ar : Option Ev.S) : Fr := [some (.imm (.lst (W.map sd))), some (.imm web), some (.imm (sd s)), st, lk, o, b, ab, ar, none]
def lkBody : M Fl := (mSeq (mSet 6 (m1 fTup (.val (mFz (m1 fSort (.val (mFz (m2 fAdd (.pk 5) (.pk 2))))))))) (mIf (bAnd (bNot (mTru (.val (mFz (m1 fAny (.val (mFz (mLc (itD (mV 5)) (.nm 9) mYes (mFz (m2 (fInA false) (.pk 9) (.pk 2))) [9])))))))) (mT (m2 (fInA false) (.pk 6) (.pk 0)))) (mDrop (mApp 4 (mV 5))) mNx))
theorem add_sd {o s : Sd} (ho : o ≠ []) (hs : s ≠ []) (hl : o.length + s.length ≤ LIM) : fAdd (sd o) (sd s) = some (.imm (sd (o ++ s))) := by
  have h1 : o.map D.int ≠ [] := fun e => ho (List.map_eq_nil_iff.mp e)
  have h2 : s.map D.int ≠ [] := fun e => hs (List.map_eq_nil_iff.mp e)
  show (if (o.map D.int).length + (s.map D.int).length ≤ LIM then some (Ev.S.imm (if o.map D.int = [] then .tup false (s.map D.int) else if s.map D.int = [] then .tup false (o.map D.int) else .tup (dictable (o.map D.int ++ s.map D.int)) (o.map D.int ++ s.map D.int))) else none) = _
  rw [if_pos (by rw [List.length_map, List.length_map]; exact hl), if_neg h1, if_neg h2, ← List.map_append, dict_ints (by simp [ho])]
  rfl
theorem sort_sd {s : Sd} (hl : s.length ≤ LIM) : fSort (sd s) = some (.ls false ((iSort ile s).map D.int)) := sort_ints hl
theorem lk_loop {W : List Sd} {web : D} {s : Sd} {st ab ar : Option Ev.S} (hs : s ≠ []) (s5 : s.length ≤ 5) : ∀ (T L : List Sd) (o b : Option Ev.S), okS o = true → okS b = true → (∀ t ∈ T, t ≠ [] ∧ t.length ≤ 5) → L.length + T.length < LIM → ∃ o' b', okS o' = true ∧ okS b' = true ∧
    lpF (.nm 5) lkBody (T.map sd) (abF W web s st (some (.ls false (L.map sd))) o b ab ar) = some (.nx, abF W web s st (some (.ls false ((L ++ T.filter (lkB W s)).map sd))) o' b' ab ar)
  | [], L, o, b, ho, hb, _, _ => ⟨o, b, ho, hb, by simp [lpF]⟩
  | t :: T, L, o, b, ho, hb, ht, hl => by
    have lim : LIM = 16777216 := rfl
    obtain ⟨tne, t5⟩ := ht t List.mem_cons_self
    have hl2 : (t :: T).length = T.length + 1 := rfl
    have stp : lkBody (abF W web s st (some (.ls false (L.map sd))) (some (.imm (sd t))) b ab ar) = some (.nx, abF W web s st (some (.ls false ((L ++ (if lkB W s t then [t] else [])).map sd))) (some (.imm (sd t))) (some (.imm (sd (iSort ile (t ++ s))))) ab ar) := by
      have e1 : m1 fTup (.val (mFz (m1 fSort (.val (mFz (m2 fAdd (.pk 5) (.pk 2))))))) (abF W web s st (some (.ls false (L.map sd))) (some (.imm (sd t))) b ab ar) = some (.imm (sd (iSort ile (t ++ s))), abF W web s st (some (.ls false (L.map sd))) (some (.imm (sd t))) b ab ar) := by
        have e0 : mFz (m2 fAdd (.pk 5) (.pk 2)) (abF W web s st (some (.ls false (L.map sd))) (some (.imm (sd t))) b ab ar) = some (sd (t ++ s), abF W web s st (some (.ls false (L.map sd))) (some (.imm (sd t))) b ab ar) := fz_eq (s := .imm (sd (t ++ s))) (m2_pp (d := sd t) (e := sd s) rfl rfl (add_sd tne hs (by omega)))
        refine m1_v (fz_eq (m1_v e0 (sort_sd (by rw [List.length_append]; omega)))) ?_
        show some (Ev.S.imm (.tup (dictable ((iSort ile (t ++ s)).map D.int)) ((iSort ile (t ++ s)).map D.int))) = _
        rw [dict_ints]; rfl
        intro e
        have := congrArg List.length e
        rw [iSort_len, List.length_append, List.length_nil] at this
        have := List.length_pos_iff.mpr tne
        omega
      refine (seq_nx (σ' := abF W web s st (some (.ls false (L.map sd))) (some (.imm (sd t))) (some (.imm (sd (iSort ile (t ++ s))))) ab ar) ((set_eq e1 (okSet_at (x := b) rfl hb)).trans rfl)).trans ?_
      generalize hU : iSort ile (t ++ s) = U
      have e2 := mLc_nm (j := 9) (it := itD (mV 5)) (te := mFz (m2 (fInA false) (.pk 9) (.pk 2))) (σ := abF W web s st (some (.ls false (L.map sd))) (some (.imm (sd t))) (some (.imm (sd U))) ab ar) (σ1 := abF W web s st (some (.ls false (L.map sd))) (some (.imm (sd t))) (some (.imm (sd U))) ab ar) (ds := t.map D.int) (f := fun d => match d with | .int c => .bl (decide (c ∈ s)) | _ => .non) rfl (by rw [List.length_map]; omega) (by show 9 < 10; decide) (fun d hd => by
        obtain ⟨c, _, rfl⟩ := List.mem_map.mp hd
        refine fz_eq (s := .imm (.bl (decide (c ∈ s)))) (m2_pp (d := .int c) (e := sd s) rfl rfl ?_)
        rw [in_ints]; simp)
      rw [List.map_map] at e2
      have a := fAny_map (fun c : Int => decide (c ∈ s)) t
      have ea : (t.map fun c => decide (c ∈ s)).any id = t.any fun c => decide (c ∈ s) := by rw [List.any_map]; rfl
      rw [ea] at a
      have t1 := not_eq (tru_v (fz_eq (m1_v (fz_eq e2) a)))
      have t2 : mT (m2 (fInA false) (.pk 6) (.pk 0)) (abF W web s st (some (.ls false (L.map sd))) (some (.imm (sd t))) (some (.imm (sd U))) ab ar) = some (decide (U ∈ W), abF W web s st (some (.ls false (L.map sd))) (some (.imm (sd t))) (some (.imm (sd U))) ab ar) := by
        refine mT_eq (m2_pp (d := sd U) (e := .lst (W.map sd)) rfl rfl ?_)
        rw [in_sds]; simp
      have tb : bAnd (bNot (mTru (.val (mFz (m1 fAny (.val (mFz (mLc (itD (mV 5)) (.nm 9) mYes (mFz (m2 (fInA false) (.pk 9) (.pk 2))) [9])))))))) (mT (m2 (fInA false) (.pk 6) (.pk 0))) (abF W web s st (some (.ls false (L.map sd))) (some (.imm (sd t))) (some (.imm (sd U))) ab ar) = some (lkB W s t, abF W web s st (some (.ls false (L.map sd))) (some (.imm (sd t))) (some (.imm (sd U))) ab ar) := by
        unfold lkB
        rw [hU]
        cases hq : (t.any fun c => decide (c ∈ s)) with
        | true => rw [hq] at t1; exact (andF t1).trans rfl
        | false => rw [hq] at t1; exact (andT t1).trans (by rw [t2]; simp)
      cases hk : lkB W s t with
      | true =>
        rw [hk] at tb
        refine (ifT tb).trans ?_
        have e9 := app_eq (i := 4) (m := mV 5) (d := sd t) (l := L.map sd) (σ := abF W web s st (some (.ls false (L.map sd))) (some (.imm (sd t))) (some (.imm (sd U))) ab ar) (σ1 := abF W web s st (some (.ls false (L.map sd))) (some (.imm (sd t))) (some (.imm (sd U))) ab ar) rfl rfl rfl (by rw [List.length_map]; omega)
        rw [show L.map sd ++ [sd t] = (L ++ (if true then [t] else [])).map sd by rw [List.map_append]; rfl] at e9
        exact (drop_eq e9).trans rfl
      | false =>
        rw [hk] at tb
        refine (ifF tb).trans ?_
        rw [show L ++ (if false = true then [t] else []) = L by simp]; rfl
    obtain ⟨o', b', k1, k2, e⟩ := lk_loop (W := W) (web := web) (st := st) (ab := ab) (ar := ar) hs s5 T (L ++ (if lkB W s t then [t] else [])) (some (.imm (sd t))) (some (.imm (sd (iSort ile (t ++ s))))) rfl rfl (fun u hu => ht u (List.mem_cons_of_mem _ hu)) (by
      rw [List.length_append]
      split <;> simp <;> omega)
    refine ⟨o', b', k1, k2, ?_⟩
    rw [List.map_cons]
    refine (lpF_nx (put_nm (x := o) rfl ho) stp).trans (e.trans ?_)
    rw [List.append_assoc, List.filter_cons]
    split <;> simp
theorem is_about_ok {cs : Sd} {ts : List Sd} (h : Tops cs ts) {s : Sd} (hs : Under ts s) : g_law_is_about [.lst ((wh ts).map sd), webD ts, sd s] = some (.imm (.bl true)) := by
  have lim : LIM = 16777216 := rfl
  obtain ⟨sc, sne, s5⟩ := h.fam.under hs
  have wl := wh_len h.fam
  have e_st := star_eq h hs
  have e_lk := link_eq h hs
  have w_st := law_web_eq (stars_fam h s)
  have w_lk := law_web_eq (links_fam h s)
  rw [stars_hull h s] at w_st
  rw [links_hull h hs] at w_lk
  have t1 := hull_tops (tstars_fam h s)
  have t2 := hull_tops (rests_fam h s)
  have as := all_sides_eq t2
  have p1 := is_part_eq (ts := ts) (us := hull (ts.filter (wtB s))) (by have := t1.len; omega)
  rw [all_known t1 fun o k => by
    obtain ⟨ne, t, ht, q⟩ := (hull_under (tstars_fam h s) o).mp k
    exact ⟨ne, t, (List.mem_filter.mp ht).1, q⟩] at p1
  have p2 := is_part_eq (ts := hull (ts.filter (wtB s))) (us := hull (restsL ts s)) (by have := t2.len; omega)
  rw [all_known t2 fun o k => by
    obtain ⟨ne, r, hr, q⟩ := (hull_under (rests_fam h s) o).mp k
    obtain ⟨_, t, ht, hw, rfl⟩ := rests_under hr
    exact (hull_under (tstars_fam h s) o).mpr ⟨ne, t, List.mem_filter.mpr ⟨ht, hw⟩, q.trans (minus_sub t s)⟩] at p2
  have q1 : ∀ (ma mb : M D) (σ σ1 σ2 : Fr), ma σ = some (webD (hull (ts.filter (wtB s))), σ1) → mb σ1 = some (webD (hull (ts.filter (wtB s))), σ2) → mEqO g_Web_eq true ma mb σ = some (.imm (.bl false), σ2) := fun ma mb σ σ1 σ2 a b => eqO_same true a b
  have q2 : ∀ (ma mb : M D) (σ σ1 σ2 : Fr), ma σ = some (webD (hull (restsL ts s)), σ1) → mb σ1 = some (webD (hull (restsL ts s)), σ2) → mEqO g_Web_eq true ma mb σ = some (.imm (.bl false), σ2) := fun ma mb σ σ1 σ2 a b => eqO_same true a b
  have lw := links_wh h hs
  have sh := wh_shw t2.fam
  have is := is_eq sh sh rfl
  have wne : ∀ t ∈ wh ts, t ≠ [] ∧ t.length ≤ 5 := fun t ht => (h.fam.under ((wh_mem h.fam).mp ht)).2
  unfold starsL at w_st
  unfold linksL at w_lk lw
  generalize webD (hull (ts.filter (wtB s))) = A at *
  generalize webD (hull (restsL ts s)) = B at *
  generalize webD ts = Wb at *
  rw [lw] at as is
  generalize wh ts = W at *
  have f1 := List.length_filter_le (wtB s) W
  have f2 := List.length_filter_le (lkB W s) W
  -- the stars
  have e1 := mLc_if (j := 5) (it := itD (mV 0)) (tt := (mTru (.val (mFz (m1 fAll (.val (mFz (mLc (itD (mV 2)) (.nm 9) mYes (mFz (m2 (fInA false) (.pk 9) (.pk 5))) [9])))))))) (te := mV 5) (f := id) (p := wtD s) (l := W.map sd) (σ := abF W Wb s none none none none none none) (σ1 := abF W Wb s none none none none none none) rfl (by rw [List.length_map]; omega) (by show 5 < 10; decide) (fun x hx => by
    obtain ⟨t, ht, rfl⟩ := List.mem_map.mp hx
    rw [wtD_sd]
    refine ⟨?_, fun _ => rfl⟩
    have e2 := mLc_nm (j := 9) (it := itD (mV 2)) (te := mFz (m2 (fInA false) (.pk 9) (.pk 5))) (σ := abF W Wb s none none (some (.imm (sd t))) none none none) (σ1 := abF W Wb s none none (some (.imm (sd t))) none none none) (ds := s.map D.int) (f := fun d => match d with | .int c => .bl (decide (c ∈ t)) | _ => .non) rfl (by rw [List.length_map]; omega) (by show 9 < 10; decide) (fun d hd => by
      obtain ⟨c, _, rfl⟩ := List.mem_map.mp hd
      refine fz_eq (s := .imm (.bl (decide (c ∈ t)))) (m2_pp (d := .int c) (e := sd t) rfl rfl ?_)
      rw [in_ints]; simp)
    rw [List.map_map] at e2
    have a := fAll_map (fun c : Int => decide (c ∈ t)) s
    have ea : (s.map fun c => decide (c ∈ t)).all id = wtB s t := by unfold wtB; rw [List.all_map]; rfl
    rw [ea] at a
    exact tru_v (fz_eq (m1_v (fz_eq e2) a)))
  rw [List.map_id, wtD_sds] at e1
  obtain ⟨o', b', k1, k2, e3⟩ := lk_loop (W := W) (web := Wb) (st := some (.ls false ((W.filter (wtB s)).map sd))) (ab := none) (ar := none) sne s5 W [] none none rfl rfl wne (by simp; omega)
  rw [List.nil_append] at e3
  generalize hS : W.filter (wtB s) = SS at *
  generalize hL : W.filter (lkB W s) = LL at *
  refine runV_rt (σ := abF W Wb s (some (.imm (.lst (SS.map sd)))) (some (.imm (.lst (LL.map sd)))) o' b' (some (.imm A)) (some (.imm B))) ?_
  refine (seq_nx (σ' := abF W Wb s (some (.ls false (SS.map sd))) none none none none none) ((set_eq e1 rfl).trans rfl)).trans ?_
  refine (seq_nx (σ' := abF W Wb s (some (.ls false (SS.map sd))) (some (.ls false (([] : List Sd).map sd))) none none none none) rfl).trans ?_
  refine (seq_nx ((for_eq (ds := W.map sd) rfl).trans e3)).trans ?_
  have e4 : mPar 7 8 [(mFz (mCall 2 g_star [(mV 1), (mV 2)])), (mFz (mCall 2 g_link [(mV 1), (mV 2)]))] (abF W Wb s (some (.ls false (SS.map sd))) (some (.ls false (LL.map sd))) o' b' none none) = some (.nx, abF W Wb s (some (.ls false (SS.map sd))) (some (.ls false (LL.map sd))) o' b' (some (.imm A)) (some (.imm B))) := by
    have m : mL [(mFz (mCall 2 g_star [(mV 1), (mV 2)])), (mFz (mCall 2 g_link [(mV 1), (mV 2)]))] (abF W Wb s (some (.ls false (SS.map sd))) (some (.ls false (LL.map sd))) o' b' none none) = some ([A, B], abF W Wb s (some (.ls false (SS.map sd))) (some (.ls false (LL.map sd))) o' b' none none) := mL_cons (fz_eq (s := .imm A) (call_eq (ds := [Wb, sd s]) rfl rfl e_st)) (mL_cons (fz_eq (s := .imm B) (call_eq (ds := [Wb, sd s]) rfl rfl e_lk)) mL_nil)
    unfold mPar
    rw [m]; rfl
  refine (seq_nx e4).trans ?_
  have g1 := mT_eq (q1 (mV 7) (mFz (mCall 1 g_law_web [(mV 3)])) (abF W Wb s (some (.ls false (SS.map sd))) (some (.ls false (LL.map sd))) o' b' (some (.imm A)) (some (.imm B))) _ (abF W Wb s (some (.imm (.lst (SS.map sd)))) (some (.ls false (LL.map sd))) o' b' (some (.imm A)) (some (.imm B))) rfl (fz_eq (s := .imm A) (call_eq (ds := [.lst (SS.map sd)]) rfl rfl w_st)))
  have g2 := mT_eq (q2 (mV 8) (mFz (mCall 1 g_law_web [(mV 4)])) (abF W Wb s (some (.imm (.lst (SS.map sd)))) (some (.ls false (LL.map sd))) o' b' (some (.imm A)) (some (.imm B))) _ (abF W Wb s (some (.imm (.lst (SS.map sd)))) (some (.imm (.lst (LL.map sd)))) o' b' (some (.imm A)) (some (.imm B))) rfl (fz_eq (s := .imm B) (call_eq (ds := [.lst (LL.map sd)]) rfl rfl w_lk)))
  refine (seq_nx ((ifF ((orF g1).trans g2)).trans rfl)).trans ?_
  have e5 := mLc_if (j := 5) (it := itD (mV 0)) (tt := (mT (m2 (fInA false) (.pk 5) (.pk 4)))) (te := mV 5) (f := id) (p := inD false LL) (l := W.map sd) (σ := abF W Wb s (some (.imm (.lst (SS.map sd)))) (some (.imm (.lst (LL.map sd)))) o' b' (some (.imm A)) (some (.imm B))) (σ1 := abF W Wb s (some (.imm (.lst (SS.map sd)))) (some (.imm (.lst (LL.map sd)))) o' b' (some (.imm A)) (some (.imm B))) rfl (by rw [List.length_map]; omega) (by show 5 < 10; decide) (fun x hx => by
    obtain ⟨t, _, rfl⟩ := List.mem_map.mp hx
    refine ⟨mT_eq (m2_pp (d := sd t) (e := .lst (LL.map sd)) rfl rfl ?_), fun _ => rfl⟩
    rw [in_sds, inD_sd])
  have ef : ((W.map sd).filter (inD false LL)) = (W.filter fun o => decide (o ∈ LL)).map sd := by
    rw [List.filter_map]
    congr 1
    exact List.filter_congr fun t _ => by
      show inD false LL (sd t) = _
      rw [inD_sd]; simp
  rw [List.map_id, ef] at e5
  generalize (W.filter fun o => decide (o ∈ LL)) = FF at *
  have g3 := not_eq (tru_v (fz_eq (call_eq (n := 2) (ms := [(mFz (mCall 1 g_all_sides [(mV 8)])), (mFz (m1 fTup (.val (mFz (mLc (itD (mV 0)) (.nm 5) (mT (m2 (fInA false) (.pk 5) (.pk 4))) (mV 5) [5])))))]) (ds := [tupS FF, tupS FF]) (mL_cons (fz_eq (s := .imm (tupS FF)) (call_eq (n := 1) (ms := [mV 8]) (ds := [B]) (σ := abF W Wb s (some (.imm (.lst (SS.map sd)))) (some (.imm (.lst (LL.map sd)))) o' b' (some (.imm A)) (some (.imm B))) rfl rfl as)) (mL_cons (fz_eq (s := .imm (tupS FF)) (m1_v (fz_eq e5) rfl)) mL_nil)) rfl is)))
  refine (seq_nx ((ifF g3).trans rfl)).trans ?_
  have g4 : ∀ (i j : Nat) (P Q : D) (σ : Fr), mV i σ = some (P, σ) → mV j σ = some (Q, σ) → g_is_part [P, Q] = some (.imm (.bl true)) → m2 (fIsB false) (.val (mFz (mCall 2 g_is_part [(mV i), (mV j)]))) (.val (mC (.bl true))) σ = some (.imm (.bl true), σ) := fun i j P Q σ a b c => m2_vv (d := .bl true) (e := .bl true) (fz_eq (s := .imm (.bl true)) (call_eq (ds := [P, Q]) (mL_cons a (mL_cons b mL_nil)) rfl c)) rfl rfl
  refine ret_eq ?_
  unfold mAnd
  rw [g4 1 7 Wb A _ rfl rfl p1]
  exact g4 7 8 A B _ rfl rfl p2
end Qk
end

section
set_option Elab.async false
set_option linter.all false
set_option maxRecDepth 100000
/-! Sf: skeletons. -/
namespace Qk
open PySem PySem.Spec L2 Ev Wk
set_option autoImplicit false
def leP (n : Int) (s : Sd) : Bool := decide ((s.length : Int) ≤ n)
theorem leP_down {n : Int} {s u : Sd} (h : leP n u = true) (k : List.Sublist s u) : leP n s = true := by
  unfold leP at *
  rw [decide_eq_true_eq] at *
  have := k.length_le
  omega
theorem kf_fam {cs : Sd} {ts : List Sd} (h : Tops cs ts) (p : Sd → Bool) : Fam cs ((known ts).filter p) := flt_fam h.fam ((known_nodup ts).filter _) fun s m => known_mem.mp (List.mem_filter.mp m).1
theorem wf_fam {cs : Sd} {ts : List Sd} (h : Tops cs ts) (p : Sd → Bool) : Fam cs ((wh ts).filter p) := flt_fam h.fam ((wh_nodup ts).filter _) fun t m => (wh_mem h.fam).mp (List.mem_filter.mp m).1
theorem kf_under {cs : Sd} {ts : List Sd} (h : Tops cs ts) (n : Int) (s : Sd) : Under ((known ts).filter (leP n)) s ↔ Under ts s ∧ leP n s = true := by
  constructor
  · rintro ⟨ne, u, hu, k⟩
    obtain ⟨a, b⟩ := List.mem_filter.mp hu
    obtain ⟨une, t, ht, ut⟩ := known_mem.mp a
    exact ⟨⟨ne, t, ht, k.trans ut⟩, leP_down b k⟩
  · rintro ⟨a, b⟩
    exact ⟨a.1, s, List.mem_filter.mpr ⟨known_mem.mpr a, b⟩, List.Sublist.refl _⟩
theorem wf_hull {cs : Sd} {ts : List Sd} (h : Tops cs ts) (p : Sd → Bool) : hull ((wh ts).filter p) = hull ((known ts).filter p) := by
  refine hull_eq (wf_fam h p) (kf_fam h p) fun s => ?_
  have : ∀ u, u ∈ (wh ts).filter p ↔ u ∈ (known ts).filter p := fun u => by rw [List.mem_filter, List.mem_filter, wh_mem h.fam, known_mem]
  exact ⟨fun ⟨a, u, b, c⟩ => ⟨a, u, (this u).mp b, c⟩, fun ⟨a, u, b, c⟩ => ⟨a, u, (this u).mpr b, c⟩⟩
theorem wf_wh {cs : Sd} {ts : List Sd} (h : Tops cs ts) (n : Int) : wh (hull ((known ts).filter (leP n))) = (wh ts).filter (leP n) := by
  rw [show wh ts = bySize (known ts) from rfl, bySize_filter (known_nodup ts)]
  refine bySize_eq (known_nodup _) ((known_nodup ts).filter _) fun s => ?_
  rw [known_mem, hull_under (kf_fam h _), kf_under h, List.mem_filter, known_mem]
theorem kf_all {cs : Sd} {ts : List Sd} (h : Tops cs ts) {n : Int} (hn : 5 ≤ n) : hull ((known ts).filter (leP n)) = ts := by
  refine hull_tops_eq (kf_fam h _) h fun s => ?_
  rw [kf_under h]
  refine ⟨fun a => a.1, fun a => ⟨a, ?_⟩⟩
  unfold leP
  rw [decide_eq_true_eq]
  have := (h.form a).2.1
  omega
def skF (W : List Sd) (web : D) (d x y : Option Ev.S) : Fr := [some (.imm (.lst (W.map sd))), some (.imm web), d, x, y]
def skBody : M Fl := (mSeq (mSet 3 (mCall 2 g_skeleton [(mV 1), (mV 2)])) (mSeq (mIf (mT (mEqO g_Web_eq true (mV 3) (mFz (mCall 1 g_law_web [(mFz (mLc (itD (mV 0)) (.nm 4) (mT (m2 (fI2 fun i j => .bl (decide (i ≤ j))) (.val (mFz (m1 fLen (.pk 4)))) (.val (mFz (m2 fAdd (.pk 2) (.val (mC (.int 1)))))))) (mV 4) [4]))])))) (mRet (mIm (mC (.bl false)))) mNx) (mIf (bNot (mTru (.val (mFz (mCall 2 g_law_is [(mFz (mCall 1 g_all_sides [(mV 3)])), (mFz (m1 fTup (.val (mFz (mLc (itD (mV 0)) (.nm 4) (mT (m2 (fI2 fun i j => .bl (decide (i ≤ j))) (.val (mFz (m1 fLen (.pk 4)))) (.val (mFz (m2 fAdd (.pk 2) (.val (mC (.int 1)))))))) (mV 4) [4])))))]))))) (mRet (mIm (mC (.bl false)))) mNx)))
theorem sk_body {cs : Sd} {ts : List Sd} (h : Tops cs ts) {d : Int} (hd : 0 ≤ d) {x : Option Ev.S} (hx : okS x = true) : ∃ x', okS x' = true ∧ skBody (skF (wh ts) (webD ts) (some (.imm (.int d))) x none) = some (.nx, skF (wh ts) (webD ts) (some (.imm (.int d))) x' none) := by
  have lim : LIM = 16777216 := rfl
  have wl := wh_len h.fam
  have e_sk := skel_eq h hd
  have e_lw := law_web_eq (wf_fam h (leP (d + 1)))
  rw [wf_hull h] at e_lw
  have as := all_sides_eq (hull_tops (kf_fam h (leP (d + 1))))
  have sh := wh_shw (hull_tops (kf_fam h (leP (d + 1)))).fam
  rw [wf_wh h] at as sh
  have is := is_eq sh sh rfl
  rw [show (fun s : Sd => decide ((s.length : Int) ≤ d + 1)) = leP (d + 1) from rfl] at e_sk
  have q1 : ∀ (ma mb : M D) (σ σ1 σ2 : Fr), ma σ = some (webD (hull ((known ts).filter (leP (d + 1)))), σ1) → mb σ1 = some (webD (hull ((known ts).filter (leP (d + 1)))), σ2) → mEqO g_Web_eq true ma mb σ = some (.imm (.bl false), σ2) := fun ma mb σ σ1 σ2 a b => eqO_same true a b
  generalize webD (hull ((known ts).filter (leP (d + 1)))) = A at *
  generalize webD ts = Wb at *
  generalize wh ts = W at *
  have e1 : ∀ y, mLc (itD (mV 0)) (.nm 4) (mT (m2 (fI2 fun i j => .bl (decide (i ≤ j))) (.val (mFz (m1 fLen (.pk 4)))) (.val (mFz (m2 fAdd (.pk 2) (.val (mC (.int 1)))))))) (mV 4) [4] (skF W Wb (some (.imm (.int d))) y none) = some (.ls false ((W.filter (leP (d + 1))).map sd), skF W Wb (some (.imm (.int d))) y none) := fun y => by
    have e := mLc_if (j := 4) (it := itD (mV 0)) (tt := (mT (m2 (fI2 fun i j => .bl (decide (i ≤ j))) (.val (mFz (m1 fLen (.pk 4)))) (.val (mFz (m2 fAdd (.pk 2) (.val (mC (.int 1))))))))) (te := mV 4) (f := id) (p := leD (d + 1)) (l := W.map sd) (σ := skF W Wb (some (.imm (.int d))) y none) (σ1 := skF W Wb (some (.imm (.int d))) y none) rfl (by rw [List.length_map]; omega) (by show 4 < 5; decide) (fun x hx => by
      obtain ⟨s, _, rfl⟩ := List.mem_map.mp hx
      refine ⟨mT_eq (m2_vv (d := .int (s.map D.int).length) (e := .int (d + 1)) (fz_eq (s := .imm (.int (s.map D.int).length)) (m1_p (d := sd s) rfl rfl)) (fz_eq (s := .imm (.int (d + 1))) (m2_pv (d := .int d) (d0 := .int d) (e := .int 1) rfl rfl rfl rfl)) rfl), fun _ => rfl⟩)
    rw [leD_sds] at e
    exact e
  generalize W.filter (leP (d + 1)) = FF at *
  refine ⟨some (.imm A), rfl, ?_⟩
  refine (seq_nx (σ' := skF W Wb (some (.imm (.int d))) (some (.imm A)) none) ((set_eq (call_eq (ds := [Wb, .int d]) rfl rfl e_sk) (okSet_at (x := x) rfl hx)).trans rfl)).trans ?_
  have g1 := mT_eq (q1 (mV 3) (mFz (mCall 1 g_law_web [(mFz (mLc (itD (mV 0)) (.nm 4) (mT (m2 (fI2 fun i j => .bl (decide (i ≤ j))) (.val (mFz (m1 fLen (.pk 4)))) (.val (mFz (m2 fAdd (.pk 2) (.val (mC (.int 1)))))))) (mV 4) [4]))])) (skF W Wb (some (.imm (.int d))) (some (.imm A)) none) _ _ rfl (fz_eq (s := .imm A) (call_eq (ds := [.lst (FF.map sd)]) (mL_cons (fz_eq (e1 _)) mL_nil) rfl e_lw)))
  refine (seq_nx ((ifF g1).trans rfl)).trans ?_
  have g3 := not_eq (tru_v (fz_eq (call_eq (n := 2) (ms := [(mFz (mCall 1 g_all_sides [(mV 3)])), (mFz (m1 fTup (.val (mFz (mLc (itD (mV 0)) (.nm 4) (mT (m2 (fI2 fun i j => .bl (decide (i ≤ j))) (.val (mFz (m1 fLen (.pk 4)))) (.val (mFz (m2 fAdd (.pk 2) (.val (mC (.int 1)))))))) (mV 4) [4])))))]) (ds := [tupS FF, tupS FF]) (mL_cons (fz_eq (s := .imm (tupS FF)) (call_eq (n := 1) (ms := [mV 3]) (ds := [A]) (σ := skF W Wb (some (.imm (.int d))) (some (.imm A)) none) rfl rfl as)) (mL_cons (fz_eq (s := .imm (tupS FF)) (m1_v (fz_eq (e1 _)) rfl)) mL_nil)) rfl is)))
  exact (ifF g3).trans rfl
theorem sk_loop {cs : Sd} {ts : List Sd} (h : Tops cs ts) : ∀ (ks : List Nat) (d x : Option Ev.S), okS d = true → okS x = true → ∃ d' x', lpF (.nm 2) skBody (ks.map fun k : Nat => D.int (k : Int)) (skF (wh ts) (webD ts) d x none) = some (.nx, skF (wh ts) (webD ts) d' x' none)
  | [], d, x, _, _ => ⟨d, x, rfl⟩
  | k :: ks, d, x, hd, hx => by
    obtain ⟨x1, k1, e1⟩ := sk_body h (d := (k : Int)) (by omega) hx
    obtain ⟨d', x', e2⟩ := sk_loop h ks (some (.imm (.int k))) x1 rfl k1
    exact ⟨d', x', (lpF_nx (put_nm (x := d) rfl hd) e1).trans e2⟩
theorem skels_ok {cs : Sd} {ts : List Sd} (h : Tops cs ts) : g_law_are_skeletons_right [.lst ((wh ts).map sd), webD ts] = some (.imm (.bl true)) := by
  obtain ⟨d', x', e⟩ := sk_loop h (List.range 8) none none rfl rfl
  have e_sk := skel_eq h (d := 1000000000000000000000000000000) (by decide)
  rw [show (fun s : Sd => decide ((s.length : Int) ≤ (1000000000000000000000000000000 : Int) + 1)) = leP ((1000000000000000000000000000000 : Int) + 1) from rfl, kf_all h (by decide)] at e_sk
  have q1 : ∀ (ma mb : M D) (σ σ1 σ2 : Fr), ma σ = some (webD ts, σ1) → mb σ1 = some (webD ts, σ2) → mEqO g_Web_eq false ma mb σ = some (.imm (.bl true), σ2) := fun ma mb σ σ1 σ2 a b => eqO_same false a b
  generalize webD ts = Wb at *
  generalize wh ts = W at *
  refine runV_rt (σ := skF W Wb d' x' none) ?_
  refine (seq_nx ((for_eq (ds := (List.range 8).map fun k : Nat => D.int (k : Int)) rfl).trans e)).trans ?_
  refine ret_eq (q1 _ _ _ (skF W Wb d' x' none) _ (fz_eq (s := .imm Wb) (call_eq (ds := [Wb, .int 1000000000000000000000000000000]) ?_ rfl e_sk)) rfl)
  refine mL_cons (σ1 := skF W Wb d' x' none) rfl (mL_cons (σ1 := skF W Wb d' x' none) ?_ mL_nil)
  exact fz_eq (s := .imm (.int 1000000000000000000000000000000)) (m2_vv (d := .int 10) (e := .int 30) rfl rfl rfl)
end Qk
end

section
set_option Elab.async false
set_option linter.all false
set_option maxRecDepth 100000
/-! Sg: parts of webs. -/
namespace Qk
open PySem PySem.Spec L2 Ev Wk
set_option autoImplicit false
/-! ### a comprehension whose test draws -/
theorem lpC_pick {j : Nat} {tt : M Bool} {F : Ev.S → Fr} {b : Bool} (h0 : ∀ h, (F h)[j]? = some none) : ∀ (T : List Sd), (∀ h s, HandOk b h → s ∈ T → ∃ x h', tt ((F h).set j (some (.imm (sd s)))) = some (x, (F h').set j (some (.imm (sd s)))) ∧ HandOk b h') →
    ∀ h, HandOk b h → ∃ S h', lpC (.nm j) tt (mV j) [j] (T.map sd) (F h) = some (S.map sd, F h') ∧ HandOk b h' ∧ List.Sublist S T
  | [], _, h, hh => ⟨[], h, rfl, hh, List.Sublist.refl _⟩
  | s :: T, ht, h, hh => by
    obtain ⟨x, h1, e1, k1⟩ := ht h s hh List.mem_cons_self
    obtain ⟨S, h2, e2, k2, q2⟩ := lpC_pick h0 T (fun h' d' a m => ht h' d' a (List.mem_cons_of_mem _ m)) h1 k1
    have hj : j < (F h1).length := (List.getElem?_eq_some_iff.mp (h0 h1)).1
    have hh2 : hide ((F h1).set j (some (.imm (sd s)))) [j] = F h1 := by
      show ((F h1).set j (some (.imm (sd s)))).set j none = F h1
      rw [List.set_set]; exact set_same (h0 h1)
    have p := put_nm (d := sd s) (h0 h) rfl
    have hv : mV j ((F h1).set j (some (.imm (sd s)))) = some (sd s, (F h1).set j (some (.imm (sd s)))) := by
      unfold mV
      rw [List.getElem?_set_self hj]
    cases x with
    | true => exact ⟨s :: S, h2, by simp only [List.map_cons, lpC, p, e1, hv, hh2, e2], k2, q2.cons₂ s⟩
    | false => exact ⟨S, h2, by simp only [List.map_cons, lpC, p, e1, hh2, e2], k2, q2.cons s⟩
theorem mLc_pick {j : Nat} {it : MI} {tt : M Bool} {σ : Fr} {F : Ev.S → Fr} {b : Bool} {T : List Sd} {h : Ev.S} (hi : it σ = some (T.map sd, F h)) (hl : T.length ≤ LIM) (h0 : ∀ h, (F h)[j]? = some none) (hh : HandOk b h) (ht : ∀ h s, HandOk b h → s ∈ T → ∃ x h', tt ((F h).set j (some (.imm (sd s)))) = some (x, (F h').set j (some (.imm (sd s)))) ∧ HandOk b h') :
    ∃ S h', mLc it (.nm j) tt (mV j) [j] σ = some (.ls false (S.map sd), F h') ∧ HandOk b h' ∧ List.Sublist S T := by
  obtain ⟨S, h', e, k, q⟩ := lpC_pick h0 T ht h hh
  refine ⟨S, h', ?_, k, q⟩
  have e2 : hide (F h) [j] = F h := set_same (h0 h)
  unfold mLc
  rw [hi]
  show (if (T.map sd).length ≤ LIM then _ else _) = _
  rw [if_pos (by rw [List.length_map]; exact hl), e2, e]
  show some (Ev.S.ls false (S.map sd), shown (F h') (F h) [j]) = _
  rw [shown_none (h0 h) (h0 h')]
/-! ### mathematics -/
theorem part_len {cs : Sd} {ts S : List Sd} (h : Tops cs ts) (hS : List.Sublist S (wh ts)) : (ts.all fun t => decide (t ∈ known (hull S))) = decide ((wh S).length = (wh ts).length) := by
  have F : Fam cs S := flt_fam h.fam ((wh_nodup ts).sublist hS) fun s m => (wh_mem h.fam).mp (hS.mem m)
  have down : ∀ s, Under S s → Under ts s := fun s ⟨ne, u, hu, k⟩ => by
    obtain ⟨_, t, ht, ut⟩ := (wh_mem h.fam).mp (hS.mem hu)
    exact ⟨ne, t, ht, k.trans ut⟩
  rw [Bool.eq_iff_iff, List.all_eq_true, decide_eq_true_eq]
  constructor
  · intro a
    have up : ∀ s, Under ts s → Under S s := fun s ⟨ne, t, ht, k⟩ => by
      have := a t ht
      rw [decide_eq_true_eq, known_mem, hull_under F] at this
      obtain ⟨_, u, hu, tu⟩ := this
      exact ⟨ne, u, hu, k.trans tu⟩
    unfold wh
    rw [bySize_eq (known_nodup S) (known_nodup ts) fun s => by rw [known_mem, known_mem]; exact ⟨down s, up s⟩]
  · intro e t ht
    rw [decide_eq_true_eq, known_mem, hull_under F]
    have hm : t ∈ wh ts := (wh_mem h.fam).mpr (h.under ht)
    by_cases q : t ∈ wh S
    · exact (wh_mem F).mp q
    · exfalso
      have := nodup_le (l := t :: wh S) (m := wh ts) (List.nodup_cons.mpr ⟨q, wh_nodup S⟩) fun x hx => by
        rcases List.mem_cons.mp hx with rfl | hx
        · exact hm
        · exact (wh_mem h.fam).mpr (down x ((wh_mem F).mp hx))
      rw [List.length_cons] at this
      omega
theorem due_eq {cs ds : Sd} {ts us : List Sd} (h : Tops cs ts) (k : Tops ds us) : (us.all fun u => decide (u ∈ known ts)) = ((wh us).all fun u => decide (u ∈ wh ts)) := by
  rw [Bool.eq_iff_iff, List.all_eq_true, List.all_eq_true]
  constructor
  · intro a s hs
    obtain ⟨ne, u, hu, su⟩ := (wh_mem k.fam).mp hs
    have := a u hu
    rw [decide_eq_true_eq, known_mem] at this
    obtain ⟨_, t, ht, ut⟩ := this
    rw [decide_eq_true_eq, wh_mem h.fam]
    exact ⟨ne, t, ht, su.trans ut⟩
  · intro a u hu
    have := a u ((wh_mem k.fam).mpr (k.under hu))
    rw [decide_eq_true_eq, wh_mem h.fam] at this
    rw [decide_eq_true_eq, known_mem]
    exact this
/-! ### parts drawn -/
def paF (W : List Sd) (web : D) (h : Ev.S) (t o d q s l : Option Ev.S) : Fr := [some h, some (.imm (.lst (W.map sd))), some (.imm web), t, o, d, q, s, l, none]
def paBody : M Fl := (mSeq (mSet 7 (mLc (itD (mV 1)) (.nm 9) (mT (m2 fEq (.val (mFz (mCallI 0 2 g_law_draw [(mC (.int 3))]))) (.val (mC (.int 0))))) (mV 9) [9])) (mSeq (mSet 8 (mCall 1 g_law_web [(mV 7)])) (mIf (bOr (mT (m2 (fIsB true) (.val (mFz (mCall 2 g_is_part [(mV 2), (mV 8)]))) (.val (mC (.bl true))))) (bNot (mTru (.val (mFz (mCall 2 g_law_is [(mFz (mCall 2 g_is_part [(mV 8), (mV 2)])), (mFz (m2 fEq (.val (mFz (m1 fLen (.val (mFz (mCall 1 g_law_sides [(mV 7)])))))) (.val (mFz (m1 fLen (.pk 1))))))])))))) (mRet (mIm (mC (.bl false)))) mNx)))
theorem pa_body {cs : Sd} {ts : List Sd} (h : Tops cs ts) {hd : Ev.S} {t s l : Option Ev.S} (hh : HandOk true hd) (hs : okS s = true) (hl : okS l = true) : ∃ hd' s' l', HandOk true hd' ∧ okS s' = true ∧ okS l' = true ∧
    paBody (paF (wh ts) (webD ts) hd t none none none s l) = some (.nx, paF (wh ts) (webD ts) hd' t none none none s' l') := by
  have lim : LIM = 16777216 := rfl
  have wl := wh_len h.fam
  have tl := h.len
  obtain ⟨S, hd', e1, k1, hS⟩ := mLc_pick (j := 9) (it := itD (mV 1)) (tt := (mT (m2 fEq (.val (mFz (mCallI 0 2 g_law_draw [(mC (.int 3))]))) (.val (mC (.int 0)))))) (σ := paF (wh ts) (webD ts) hd t none none none s l) (F := fun x => paF (wh ts) (webD ts) x t none none none s l) (T := wh ts) (h := hd) (b := true) rfl (by omega) (fun _ => rfl) hh (fun x u hx _ => by
    obtain ⟨d, x', d1, _, _, d4⟩ := call_draw (b := true) (j := 0) (σ := (paF (wh ts) (webD ts) x t none none none s l).set 9 (some (.imm (sd u)))) (s := x) (n := 3) (ms := [(mC (.int 3))]) rfl rfl hx (by decide) (by decide)
    exact ⟨_, x', mT_eq (m2_vv (e := .int 0) d1 rfl rfl), d4⟩)
  have F : Fam cs S := flt_fam h.fam ((wh_nodup ts).sublist hS) fun s m => (wh_mem h.fam).mp (hS.mem m)
  have w1 := law_web_eq F
  have t1 := hull_tops F
  have p1 := is_part_eq (ts := ts) (us := hull S) (by have := t1.len; omega)
  rw [all_known t1 fun o k => by
    obtain ⟨ne, u, hu, q⟩ := (hull_under F o).mp k
    obtain ⟨_, v, hv, uv⟩ := (wh_mem h.fam).mp (hS.mem hu)
    exact ⟨ne, v, hv, q.trans uv⟩] at p1
  have p2 := is_part_eq (ts := hull S) (us := ts) (by omega)
  rw [part_len h hS] at p2
  have ls := sides_wh (d := .lst (S.map sd)) F rfl
  have sl := wh_len F
  generalize webD (hull S) = A at *
  generalize webD ts = Wb at *
  generalize wh ts = W at *
  generalize wh S = V at *
  refine ⟨hd', some (.imm (.lst (S.map sd))), some (.imm A), k1, rfl, rfl, ?_⟩
  refine (seq_nx (σ' := paF W Wb hd' t none none none (some (.ls false (S.map sd))) l) ((set_eq e1 (okSet_at (x := s) rfl hs)).trans rfl)).trans ?_
  refine (seq_nx (σ' := paF W Wb hd' t none none none (some (.imm (.lst (S.map sd)))) (some (.imm A))) ((set_eq (call_eq (ds := [.lst (S.map sd)]) (σ' := paF W Wb hd' t none none none (some (.imm (.lst (S.map sd)))) l) rfl rfl w1) (okSet_at (x := l) rfl hl)).trans rfl)).trans ?_
  have g1 : mT (m2 (fIsB true) (.val (mFz (mCall 2 g_is_part [(mV 2), (mV 8)]))) (.val (mC (.bl true)))) (paF W Wb hd' t none none none (some (.imm (.lst (S.map sd)))) (some (.imm A))) = some (false, paF W Wb hd' t none none none (some (.imm (.lst (S.map sd)))) (some (.imm A))) := mT_eq (m2_vv (d := .bl true) (e := .bl true) (fz_eq (s := .imm (.bl true)) (call_eq (ds := [Wb, A]) rfl rfl p1)) rfl rfl)
  have g2 : mFz (m2 fEq (.val (mFz (m1 fLen (.val (mFz (mCall 1 g_law_sides [(mV 7)])))))) (.val (mFz (m1 fLen (.pk 1))))) (paF W Wb hd' t none none none (some (.imm (.lst (S.map sd)))) (some (.imm A))) = some (.bl (decide (V.length = W.length)), paF W Wb hd' t none none none (some (.imm (.lst (S.map sd)))) (some (.imm A))) := by
    refine fz_eq (s := .imm (.bl (decide (V.length = W.length)))) (m2_vv (d := .int V.length) (e := .int W.length) (fz_eq (s := .imm (.int V.length)) (m1_v (fz_eq (call_eq (ds := [.lst (S.map sd)]) rfl rfl ls)) ?_)) (fz_eq (s := .imm (.int W.length)) (m1_p (d := .lst (W.map sd)) rfl ?_)) ?_)
    · show some (Ev.S.imm (.int ((V.map sd).length : Int))) = _
      rw [List.length_map]
    · show some (Ev.S.imm (.int ((W.map sd).length : Int))) = _
      rw [List.length_map]
    · show some (Ev.S.imm (.bl ((V.length : Int) == (W.length : Int)))) = _
      congr 3
      by_cases q : V.length = W.length
      · rw [q]; simp
      · rw [decide_eq_false q, beq_eq_false_iff_ne]; omega
  have g3 := not_eq (tru_v (fz_eq (call_eq (n := 2) (ms := [(mFz (mCall 2 g_is_part [(mV 8), (mV 2)])), (mFz (m2 fEq (.val (mFz (m1 fLen (.val (mFz (mCall 1 g_law_sides [(mV 7)])))))) (.val (mFz (m1 fLen (.pk 1))))))]) (ds := [.bl (decide (V.length = W.length)), .bl (decide (V.length = W.length))]) (mL_cons (fz_eq (s := .imm (.bl (decide (V.length = W.length)))) (call_eq (n := 2) (ms := [(mV 8), (mV 2)]) (ds := [A, Wb]) (σ := paF W Wb hd' t none none none (some (.imm (.lst (S.map sd)))) (some (.imm A))) rfl rfl p2)) (mL_cons g2 mL_nil)) rfl (is_eq (shw_b _) (shw_b _) rfl))))
  exact (ifF ((orF g1).trans g3)).trans rfl
theorem pa_loop {cs : Sd} {ts : List Sd} (h : Tops cs ts) : ∀ (ks : List D) (hd : Ev.S) (t s l : Option Ev.S), HandOk true hd → okS t = true → okS s = true → okS l = true → ∃ hd' t' s' l', HandOk true hd' ∧
    lpF (.nm 3) paBody ks (paF (wh ts) (webD ts) hd t none none none s l) = some (.nx, paF (wh ts) (webD ts) hd' t' none none none s' l')
  | [], hd, t, s, l, hh, _, _, _ => ⟨hd, t, s, l, hh, rfl⟩
  | k :: ks, hd, t, s, l, hh, ht, hs, hl => by
    obtain ⟨hd1, s1, l1, k1, k2, k3, e1⟩ := pa_body h (t := some (.imm k)) hh hs hl
    obtain ⟨hd', t', s', l', k4, e2⟩ := pa_loop h ks hd1 (some (.imm k)) s1 l1 k1 rfl k2 k3
    exact ⟨hd', t', s', l', k4, (lpF_nx (put_nm (x := t) rfl ht) e1).trans e2⟩
theorem tops_nil (cs : Sd) (a : Asc cs) (f : cs.length ≤ 7) (lo : ∀ c ∈ cs, 0 ≤ c ∧ c ≤ 999) : Tops cs [] := ⟨a, f, lo, fun _ m => (by cases m), List.Pairwise.nil, fun _ m => (by cases m)⟩
theorem crn5 : Crn 5 [0, 1, 2, 3, 4] := ⟨by decide, rfl, by decide⟩
theorem parts_ok {b : Bool} {cs : Sd} {ts : List Sd} {s : Ev.S} (h : Tops cs ts) (hh : HandOk b s) : ∃ s', g_law_are_parts_right s [.lst ((wh ts).map sd), webD ts] = some (.imm (.bl true), s') ∧ HandOk true s' := by
  have lim : LIM = 16777216 := rfl
  have wl := wh_len h.fam
  obtain ⟨h1, t1, s1, l1, k1, e1⟩ := pa_loop h (dRng 0 3) (s.setIo true) none none none hh.io rfl rfl rfl
  obtain ⟨us, h2, d2, hu, k2⟩ := drawn_ok (mo := 3) (sz := 3) (by decide) (by decide) (by decide) (by decide) (s := h1) crn5 (by decide) (by decide) k1
  obtain ⟨h3, e2, k3⟩ := callH (b := true) (j := 0) (n := 4) (g := g_law_drawn) (σ := paF (wh ts) (webD ts) h1 t1 none none none s1 l1) (σ1 := paF (wh ts) (webD ts) h1 t1 none none none s1 l1) (ms := [(mFz (mLst [(mC (.int 0)), (mC (.int 1)), (mC (.int 2)), (mC (.int 3)), (mC (.int 4))])), (mC (.int 3)), (mC (.int 3))]) rfl rfl rfl k1 rfl d2 k2
  have sw := sides_wh (d := tupS us) hu.fam rfl
  have ul := wh_len hu.fam
  have wu := web_eq hu
  have w0 := web_eq (tops_nil cs h.asc h.few h.lo)
  have p1 := is_part_eq (ts := ts) (us := us) (by have := hu.len; omega)
  rw [due_eq h hu] at p1
  have p0 := is_part_eq (ts := ts) (us := []) (Nat.zero_le _)
  have pn := fun d => is_part_no (W := webD ts) (d := d)
  obtain ⟨K, hK⟩ : ∃ K : List D, webD ts = .ins 0 (tupS ts :: K) := ⟨_, rfl⟩
  generalize webD us = U at *
  generalize webD [] = Z at *
  rw [hK] at e1 e2 p1 p0 pn ⊢
  generalize tupS us = TU at *
  have nT : fIsW2 (tupS ts) = some (.imm (.bl false)) := rfl
  generalize tupS ts = TT at *
  generalize wh ts = W at *
  generalize wh us = V at *
  have e3 := mLc_nm (j := 9) (it := itD (mFz (mCall 1 g_law_sides [(mV 4)]))) (te := mFz (m2 (fInA false) (.pk 9) (.pk 1))) (σ := paF W (.ins 0 (TT :: K)) h3 t1 (some (.imm TU)) none none s1 l1) (σ1 := paF W (.ins 0 (TT :: K)) h3 t1 (some (.imm TU)) none none s1 l1) (ds := V.map sd) (f := fun d => .bl (inD false W d)) (by
    unfold itD
    rw [fz_eq (s := .ls false (V.map sd)) (call_eq (n := 1) (g := g_law_sides) (ms := [mV 4]) (σ := paF W (.ins 0 (TT :: K)) h3 t1 (some (.imm TU)) none none s1 l1) (σ' := paF W (.ins 0 (TT :: K)) h3 t1 (some (.imm TU)) none none s1 l1) (ds := [TU]) rfl rfl sw)]; rfl) (by rw [List.length_map]; omega) (by show 9 < 10; decide) (fun d hd => by
    obtain ⟨u, _, rfl⟩ := List.mem_map.mp hd
    refine fz_eq (s := .imm (.bl (inD false W (sd u)))) (m2_pp (d := sd u) (e := .lst (W.map sd)) rfl rfl ?_)
    rw [in_sds, inD_sd])
  rw [List.map_map] at e3
  have ef : (V.map ((fun d => D.bl (inD false W d)) ∘ sd)) = V.map fun u => D.bl (decide (u ∈ W)) := List.map_congr_left fun u _ => by
    show D.bl (inD false W (sd u)) = _
    rw [inD_sd]; simp
  rw [ef] at e3
  have a := fAll_map (fun u : Sd => decide (u ∈ W)) V
  have ea : (V.map fun u => decide (u ∈ W)).all id = V.all fun u => decide (u ∈ W) := by rw [List.all_map]; rfl
  rw [ea] at a
  generalize (V.all fun u => decide (u ∈ W)) = due at *
  obtain ⟨dq, h4, d4, m4, k4⟩ := some_ok (b := true) (s := h3) (l := [.non, TT, .str "", .int 0, .bl true, .lst [.ins 0 (TT :: K)], .tup (dictable [.ins 0 (TT :: K)]) [.ins 0 (TT :: K)], .tup (dictable []) []]) k3 (by show 0 < 8; omega) (by show 8 < 1073741824; omega)
  have nq : fIsW2 dq = some (.imm (.bl false)) := by
    simp only [List.mem_cons, List.not_mem_nil, or_false] at m4
    rcases m4 with rfl | rfl | rfl | rfl | rfl | rfl | rfl | rfl
    · rfl
    · exact nT
    all_goals rfl
  obtain ⟨h5, e5, k5⟩ := callH (b := true) (j := 0) (n := 2) (g := g_law_some) (σ := paF W (.ins 0 (TT :: K)) h3 t1 (some (.imm TU)) (some (.imm (.bl due))) none s1 l1) (σ1 := paF W (.ins 0 (TT :: K)) h3 t1 (some (.imm TU)) (some (.imm (.bl due))) none s1 l1) (ms := [(mFz (mLst [(mC .non), (mFld 0 0 (mV 2)), (mC (.str "")), (mC (.int 0)), (mC (.bl true)), (mFz (mLst [(mV 2)])), (mFz (mTup [(mV 2)])), (mFz (mTup []))]))]) (ds := [.lst [.non, TT, .str "", .int 0, .bl true, .lst [.ins 0 (TT :: K)], .tup (dictable [.ins 0 (TT :: K)]) [.ins 0 (TT :: K)], .tup (dictable []) []]]) rfl rfl rfl k3 rfl d4 k4
  have pq := pn dq nq
  refine ⟨h5, runI_rt (σ := paF W (.ins 0 (TT :: K)) h5 t1 (some (.imm TU)) (some (.imm (.bl due))) (some (.imm dq)) s1 l1) ?_ rfl k5.ls.1, k5⟩
  refine (seq_nx ((for_eq (ds := dRng 0 3) rfl).trans e1)).trans ?_
  refine (seq_nx (σ' := paF W (.ins 0 (TT :: K)) h3 t1 (some (.imm TU)) none none s1 l1) ((set_eq e2 rfl).trans rfl)).trans ?_
  refine (seq_nx (σ' := paF W (.ins 0 (TT :: K)) h3 t1 (some (.imm TU)) (some (.imm (.bl due))) none s1 l1) ((set_eq (m1_v (fz_eq e3) a) rfl).trans rfl)).trans ?_
  refine (seq_nx (σ' := paF W (.ins 0 (TT :: K)) h5 t1 (some (.imm TU)) (some (.imm (.bl due))) (some (.imm dq)) s1 l1) ((set_eq e5 rfl).trans rfl)).trans ?_
  have shl : ∀ x : Bool, Shw (.lst [.bl x, .bl false, .bl true]) := fun x => by cases x <;> exact ⟨rfl, rfl, by decide, by decide⟩
  have i1 : mFz (mCall 2 g_is_part [(mV 2), (mFz (mCall 1 g_Web [(mV 4)]))]) (paF W (.ins 0 (TT :: K)) h5 t1 (some (.imm TU)) (some (.imm (.bl due))) (some (.imm dq)) s1 l1) = some (.bl due, paF W (.ins 0 (TT :: K)) h5 t1 (some (.imm TU)) (some (.imm (.bl due))) (some (.imm dq)) s1 l1) := fz_eq (s := .imm (.bl due)) (call_eq (ds := [.ins 0 (TT :: K), U]) (mL_cons rfl (mL_cons (fz_eq (s := .imm U) (call_eq (ds := [TU]) rfl rfl wu)) mL_nil)) rfl p1)
  have i2 : mFz (mCall 2 g_is_part [(mV 2), (mV 6)]) (paF W (.ins 0 (TT :: K)) h5 t1 (some (.imm TU)) (some (.imm (.bl due))) (some (.imm dq)) s1 l1) = some (.bl false, paF W (.ins 0 (TT :: K)) h5 t1 (some (.imm TU)) (some (.imm (.bl due))) (some (.imm dq)) s1 l1) := fz_eq (s := .imm (.bl false)) (call_eq (ds := [.ins 0 (TT :: K), dq]) rfl rfl pq)
  have i3 : mFz (mCall 2 g_is_part [(mV 2), (mFz (mCall 1 g_Web [(mFz (mTup []))]))]) (paF W (.ins 0 (TT :: K)) h5 t1 (some (.imm TU)) (some (.imm (.bl due))) (some (.imm dq)) s1 l1) = some (.bl true, paF W (.ins 0 (TT :: K)) h5 t1 (some (.imm TU)) (some (.imm (.bl due))) (some (.imm dq)) s1 l1) := fz_eq (s := .imm (.bl true)) (call_eq (ds := [.ins 0 (TT :: K), Z]) (mL_cons rfl (mL_cons (fz_eq (s := .imm Z) (call_eq (ds := [tupS []]) rfl rfl w0)) mL_nil)) rfl p0)
  exact ret_eq (call_eq (ds := [.lst [.bl due, .bl false, .bl true], .lst [.bl due, .bl false, .bl true]]) (mL_cons (fz_eq (s := .ls false [.bl due, .bl false, .bl true]) (lst_eq (mL_cons i1 (mL_cons i2 (mL_cons i3 mL_nil))) (show 3 ≤ LIM by decide))) rfl) rfl (is_eq (shl due) (shl due) rfl))
end Qk
end

section
set_option Elab.async false
set_option linter.all false
set_option maxRecDepth 100000
/-! Sh: what is refused. -/
namespace Qk
open PySem PySem.Spec L2 Ev Wk
set_option autoImplicit false
/-! ### raising -/
theorem xc_some {n : Nat} {g : List D → Option Nat} {ms : List (M D)} {σ σ1 : Fr} {ds : List D} {c : Nat} (h : mL ms σ = some (ds, σ1)) (hl : ds.length = n) (hg : g ds = some c) : xCall n g ms σ = some (c, σ1) := by
  unfold xCall; rw [h]; dsimp only; rw [if_pos hl, hg]
theorem xif_yes {t : M Bool} {m : MX} {σ σ' : Fr} (h : t σ = some (true, σ')) : xIf t m σ = m σ' := by unfold xIf; rw [h]
theorem runX_some {n c : Nat} {m : MX} {ds : List D} {σ : Fr} (h : m (startF (ds.map .imm) n) = some (c, σ)) : runX n m ds = some c := by unfold runX; rw [h]; rfl
theorem word_raise {wd : Nat → Str} {n c : Nat} {m : M Ev.S} {mx : MX} {σ σ' : Fr} (h : mx σ = some (c, σ')) (hc : c < n) : mWord wd n m mx σ = some (.imm (.str (wd c)), σ') := by
  unfold mWord; rw [h]; dsimp only; rw [if_pos hc]
theorem deg_raise {W d : D} (h : g_is_from_nought [d] = some (.imm (.bl false))) : gx_skeleton [W, d] = some 0 := by
  have e : gx_degree_asked [d] = some 0 := runX_some (σ := [some (.imm d)]) ((xif_yes (not_eq (tru_v (fz_eq (call_eq (ds := [d]) rfl rfl h))))).trans rfl)
  exact runX_some (σ := [some (.imm W), some (.imm d), none]) (xc_some (ds := [d]) rfl rfl e)
/-- no side of the web -/
def NoS (W d : D) : Prop := gx_side_asked [W, d] = some 1
theorem noS_form {W d : D} (h : g_is_side_form [d] = some (.imm (.bl false))) : NoS W d :=
  runX_some (σ := [some (.imm W), some (.imm d)]) ((xif_yes (orT (not_eq (tru_v (fz_eq (call_eq (ds := [d]) rfl rfl h)))))).trans rfl)
theorem noS_known {ts : List Sd} {s : Sd} (f : formB s = true) (h : s ∉ known ts) : NoS (webD ts) (sd s) := by
  unfold webD
  generalize known ts = K at *
  generalize lotsL (iSort sle K) = L1 at *
  generalize hT : tupS ts = T1 at *
  have e0 := side_form_eq s
  rw [f] at e0
  have t1 : bNot (mTru (.val (mFz (mCall 1 g_is_side_form [(mV 1)])))) [some (.imm (.ins 0 [T1, .lst (L1.map D.lst), .dct true (kD K)])), some (.imm (sd s))] = some (false, [some (.imm (.ins 0 [T1, .lst (L1.map D.lst), .dct true (kD K)])), some (.imm (sd s))]) := not_eq (tru_v (fz_eq (call_eq (ds := [sd s]) rfl rfl e0)))
  have t2 : mT (m2 (fInA true) (.pk 1) (.val (mFld 0 2 (mV 0)))) [some (.imm (.ins 0 [T1, .lst (L1.map D.lst), .dct true (kD K)])), some (.imm (sd s))] = some (true, [some (.imm (.ins 0 [T1, .lst (L1.map D.lst), .dct true (kD K)])), some (.imm (sd s))]) := by
    refine mT_eq (m2_pv (d := sd s) (d0 := sd s) (e := .dct true (kD K)) rfl rfl rfl ?_)
    rw [in_kD, decide_eq_false h]; rfl
  exact runX_some (σ := [some (.imm (.ins 0 [T1, .lst (L1.map D.lst), .dct true (kD K)])), some (.imm (sd s))]) ((xif_yes ((orF t1).trans t2)).trans rfl)
theorem star_raise {W d : D} (h : NoS W d) : gx_star [W, d] = some 1 := runX_some (σ := [some (.imm W), some (.imm d), none]) (xc_some (ds := [W, d]) rfl rfl h)
theorem link_raise {W d : D} (h : NoS W d) : gx_link [W, d] = some 1 := runX_some (σ := [some (.imm W), some (.imm d), none, none, none, none]) (xc_some (ds := [W, d]) rfl rfl h)
theorem form_lst (l : List D) : g_is_side_form [.lst l] = some (.imm (.bl false)) := by
  refine runV_rt (σ := [some (.imm (.lst l)), none]) ?_
  exact seq_rt ((ifT (σ' := [some (.imm (.lst l)), none]) (orT rfl)).trans (ret_eq rfl))
def oddL : List D := [.non, .int (-1), .bl true, .str "0", .tup false [.int 0], .lst [], .tup false [.int 1, .int 1]]
def sidL (W : List Sd) : List D := [.non, .int 0, .str "", .tup true [], .lst [.int 0], sd [998, 999], .tup false [.bl true], sd [-1], sd [1000], sd [1, 0], .lst (W.map sd), .tup false (dRng 0 8)]
theorem odd_ok {d : D} (h : d ∈ oddL) : g_is_from_nought [d] = some (.imm (.bl false)) := by
  unfold oddL at h
  simp only [List.mem_cons, List.not_mem_nil, or_false] at h
  rcases h with rfl | rfl | rfl | rfl | rfl | rfl | rfl <;> kernel_rfl
theorem sid_ok {cs : Sd} {ts : List Sd} (h : Tops cs ts) (lo : ∀ c ∈ cs, c ≤ 997) {W : List Sd} {d : D} (hd : d ∈ sidL W) : NoS (webD ts) d := by
  unfold sidL at hd
  simp only [List.mem_cons, List.not_mem_nil, or_false] at hd
  rcases hd with rfl | rfl | rfl | rfl | rfl | rfl | rfl | rfl | rfl | rfl | rfl | rfl
  · exact noS_form (by kernel_rfl)
  · exact noS_form (by kernel_rfl)
  · exact noS_form (by kernel_rfl)
  · exact noS_form (by kernel_rfl)
  · exact noS_form (form_lst _)
  · refine noS_known (by decide) fun m => ?_
    have := lo 998 ((h.fam.under (known_mem.mp m)).1.mem (by simp))
    omega
  · exact noS_form (by kernel_rfl)
  · exact noS_form (by kernel_rfl)
  · exact noS_form (by kernel_rfl)
  · exact noS_form (by kernel_rfl)
  · exact noS_form (form_lst _)
  · exact noS_form (by kernel_rfl)
def rfF (W : List Sd) (web : D) (h : Ev.S) (o s d w : Option Ev.S) : Fr := [some h, some (.imm (.lst (W.map sd))), some (.imm web), o, s, d, w]
theorem app_word {i : Nat} {σ σ1 : Fr} {m : M Ev.S} {x : Str} {l : List D} (h0 : σ[i]? = some (some (.ls false l))) (h : m σ = some (.imm (.str x), σ1)) (h1 : σ1[i]? = some (some (.ls false l))) (hl : l.length < 10) : mDrop (mApp i (mFz m)) σ = some (.nx, σ1.set i (some (.ls false (l ++ [.str x])))) :=
  drop_eq (app_eq h0 (fz_eq h) h1 (Nat.lt_of_lt_of_le hl (by decide)))
theorem shw_words : Shw (.lst [.str "degree", .str "side", .str "side"]) := ⟨by decide +kernel, by decide +kernel, by decide +kernel, by decide +kernel⟩
theorem refused_ok {b : Bool} {cs : Sd} {ts : List Sd} {s : Ev.S} (h : Tops cs ts) (lo : ∀ c ∈ cs, c ≤ 997) (hh : HandOk b s) : ∃ s', g_law_are_refused s [.lst ((wh ts).map sd), webD ts] = some (.imm (.bl true), s') ∧ HandOk true s' := by
  have lim : LIM = 16777216 := rfl
  have so := fun d hd => sid_ok h lo (W := wh ts) (d := d) hd
  generalize webD ts = Wb at *
  generalize wh ts = W at *
  obtain ⟨d, s1, e1, m1', k1⟩ := some_ok (b := true) (s := s.setIo true) (l := oddL) hh.io (by show 0 < 7; omega) (by show 7 < 1073741824; omega)
  obtain ⟨h1, i1, k1⟩ := callH (b := true) (j := 0) (n := 2) (g := g_law_some) (σ := rfF W Wb (s.setIo true) none none none none) (σ1 := rfF W Wb (s.setIo true) none none none none) (ms := [(mFz (mLst [(mC .non), (mFz (m1 fNeg (.val (mC (.int 1))))), (mC (.bl true)), (mC (.str "0")), (mFz (mTup [(mC (.int 0))])), (mFz (mLst [])), (mFz (m2 fMulT (.val (mFz (mTup [(mC (.int 1))]))) (.val (mC (.int 2)))))]))]) (ds := [.lst oddL]) rfl rfl rfl hh.io rfl e1 k1
  obtain ⟨u, s2, e2, m2', k2⟩ := some_ok (b := true) (s := h1) (l := sidL W) k1 (by show 0 < 12; omega) (by show 12 < 1073741824; omega)
  obtain ⟨h2, i2, k2⟩ := callH (b := true) (j := 0) (n := 2) (g := g_law_some) (σ := rfF W Wb h1 (some (.imm d)) (some (.ls false (sidL W))) none none) (σ1 := rfF W Wb h1 (some (.imm d)) (some (.imm (.lst (sidL W)))) none none) (ms := [(mV 4)]) (ds := [.lst (sidL W)]) rfl rfl rfl k1 rfl e2 k2
  have x1 := deg_raise (W := Wb) (odd_ok m1')
  have x2 := star_raise (so u m2')
  have x3 := link_raise (so u m2')
  generalize hS : sidL W = SL at *
  refine ⟨h2, runI_rt (σ := rfF W Wb h2 (some (.imm d)) (some (.imm (.lst SL))) (some (.imm u)) (some (.imm (.lst [.str "degree", .str "side", .str "side"])))) ?_ rfl k2.ls.1, k2⟩
  refine (seq_nx (σ' := rfF W Wb h1 (some (.imm d)) none none none) ((set_eq i1 rfl).trans rfl)).trans ?_
  refine (seq_nx (σ' := rfF W Wb h1 (some (.imm d)) (some (.ls false SL)) none none) (by rw [← hS]; rfl)).trans ?_
  refine (seq_nx (σ' := rfF W Wb h2 (some (.imm d)) (some (.imm (.lst SL))) (some (.imm u)) none) ((set_eq i2 rfl).trans rfl)).trans ?_
  have w1 : mWord wdN 2 (mCall 2 g_skeleton [(mV 2), (mV 3)]) (xCall 2 gx_skeleton [(mV 2), (mV 3)]) (rfF W Wb h2 (some (.imm d)) (some (.imm (.lst SL))) (some (.imm u)) none) = some (.imm (.str "degree"), rfF W Wb h2 (some (.imm d)) (some (.imm (.lst SL))) (some (.imm u)) none) := word_raise (c := 0) (xc_some (ds := [Wb, d]) rfl rfl x1) (by decide)
  refine (seq_nx (σ' := rfF W Wb h2 (some (.imm d)) (some (.imm (.lst SL))) (some (.imm u)) (some (.ls false [.str "degree"]))) ((set_eq (lst_eq (mL_cons (fz_eq w1) mL_nil) (show 1 ≤ LIM by decide)) rfl).trans rfl)).trans ?_
  have w2 : mWord wdN 2 (mCall 2 g_star [(mV 2), (mV 5)]) (xCall 2 gx_star [(mV 2), (mV 5)]) (rfF W Wb h2 (some (.imm d)) (some (.imm (.lst SL))) (some (.imm u)) (some (.ls false [.str "degree"]))) = some (.imm (.str "side"), rfF W Wb h2 (some (.imm d)) (some (.imm (.lst SL))) (some (.imm u)) (some (.ls false [.str "degree"]))) := word_raise (c := 1) (xc_some (ds := [Wb, u]) rfl rfl x2) (by decide)
  refine (seq_nx (σ' := rfF W Wb h2 (some (.imm d)) (some (.imm (.lst SL))) (some (.imm u)) (some (.ls false [.str "degree", .str "side"]))) ((app_word (l := [.str "degree"]) rfl w2 rfl (by decide)).trans rfl)).trans ?_
  have w3 : mWord wdN 2 (mCall 2 g_link [(mV 2), (mV 5)]) (xCall 2 gx_link [(mV 2), (mV 5)]) (rfF W Wb h2 (some (.imm d)) (some (.imm (.lst SL))) (some (.imm u)) (some (.ls false [.str "degree", .str "side"]))) = some (.imm (.str "side"), rfF W Wb h2 (some (.imm d)) (some (.imm (.lst SL))) (some (.imm u)) (some (.ls false [.str "degree", .str "side"]))) := word_raise (c := 1) (xc_some (ds := [Wb, u]) rfl rfl x3) (by decide)
  refine (seq_nx (σ' := rfF W Wb h2 (some (.imm d)) (some (.imm (.lst SL))) (some (.imm u)) (some (.ls false [.str "degree", .str "side", .str "side"]))) ((app_word (l := [.str "degree", .str "side"]) rfl w3 rfl (by decide)).trans rfl)).trans ?_
  exact ret_eq (call_eq (ds := [.lst [.str "degree", .str "side", .str "side"], .lst [.str "degree", .str "side", .str "side"]]) rfl rfl (is_eq shw_words shw_words rfl))
end Qk
end

section
set_option Elab.async false
set_option linter.all false
set_option maxRecDepth 100000
/-! Si: the law. -/
namespace Qk
open PySem PySem.Spec L2 Ev Wk
set_option autoImplicit false
/-! ### the hand -/
def cellOf (i : Int) : Int := if i < 0 then -i else i
theorem hand_ok {ns : List Int} (hn : ns.length ≤ 63) : ∃ h, g_law_hand [.scr ns] = some h ∧ HandOk false h := by
  let σ : Fr := [some (.imm (.scr ns)), none, none]
  let xs := dCut ns none (some 63)
  have hx : xs.length ≤ LIM := Nat.le_trans (Nat.le_trans (by show ((ns.drop _).take _).length ≤ ns.length; rw [List.length_take, List.length_drop]; omega) hn) (by decide)
  let F : D → D := fun d => match d with | .int i => .int (cellOf i) | x => x
  have hL : mLc (itD (mFz (mSl (.pk 0) .no (.at_ (mC (.int 63)))))) (.nm 2) mYes (mFz (m1 fAbs (.val (mFz (m1 fInt (.pk 2)))))) [2] σ = some (.ls false ((xs.map D.int).map F), σ) := by
    have hit : itD (mFz (mSl (.pk 0) .no (.at_ (mC (.int 63))))) σ = some (xs.map D.int, σ) := rfl
    refine mLc_nm hit (by rw [List.length_map]; exact hx) (by show 2 < 3; decide) ?_
    intro d hd
    obtain ⟨i, _, rfl⟩ := List.mem_map.mp hd
    exact fz_eq (s := .imm (.int (if i < 0 then -i else i))) (m1_v (d := .int i) (fz_eq (s := .imm (.int i)) (m1_p (d := .int i) rfl rfl)) rfl)
  have e : (xs.map D.int).map F = (xs.map cellOf).map D.int := by
    rw [List.map_map, List.map_map]; rfl
  rw [e] at hL
  let σ1 : Fr := [some (.imm (.scr ns)), some (.ls false ((xs.map cellOf).map D.int)), none]
  let σ2 : Fr := [some (.imm (.scr ns)), some (.imm (.lst ((xs.map cellOf).map D.int))), none]
  have e1 : mSet 1 _ σ = some (.nx, σ1) := set_eq hL rfl
  refine ⟨hnd false (xs.map cellOf) 0 0 (5011 + 7 * (((xs.map cellOf).map D.int).length : Int)) 0, runV_rt (σ := σ2) ((seq_nx e1).trans (ret_eq ?_)), ⟨_, _, _, _, _, rfl, by decide⟩⟩
  have q : mFz (m2 fAdd (.val (mC (.int 5011))) (.val (mFz (m2 fMul (.val (mC (.int 7))) (.val (mFz (m1 fLen (.pk 1)))))))) σ2 = some (.int (5011 + 7 * (((xs.map cellOf).map D.int).length : Int)), σ2) := by
    refine fz_eq (s := .imm _) (m2_vv (d := .int 5011) rfl (fz_eq (s := .imm (.int (7 * (((xs.map cellOf).map D.int).length : Int)))) (m2_vv (d := .int 7) (e := .int (((xs.map cellOf).map D.int).length : Int)) rfl (fz_eq (s := .imm (.int (((xs.map cellOf).map D.int).length : Int))) (m1_p (d := .lst ((xs.map cellOf).map D.int)) rfl rfl)) ?_)) rfl)
    have c : cMul 7 (((xs.map cellOf).map D.int).length : Int) = true := by unfold cMul; rw [show sml 7 = true by decide]; rfl
    show (if cMul 7 (((xs.map cellOf).map D.int).length : Int) = true then some (Ev.S.imm (.int (7 * (((xs.map cellOf).map D.int).length : Int)))) else none) = _
    rw [if_pos c]
  exact lst_eq (l := [.lst ((xs.map cellOf).map D.int), .int 0, .int 0, .int (5011 + 7 * (((xs.map cellOf).map D.int).length : Int)), .int 0]) (mL_cons rfl (mL_cons rfl (mL_cons rfl (mL_cons q (mL_cons rfl mL_nil))))) (by show 5 ≤ LIM; decide)
/-! ### a lap -/
def lF (ns : List Int) (h : Ev.S) (a2 a3 a4 a5 a6 a7 : Option Ev.S) : Fr := [some (.imm (.scr ns)), some h, a2, a3, a4, a5, a6, a7]
def turnB : M Fl := (mIf (bNot (mTru (.val (mFz (mCall 3 g_law_is_about [(mV 7), (mV 6), (mFz (mCallI 1 2 g_law_some [(mV 7)]))]))))) (mRet (mIm (mC (.bl false)))) mNx)
def lapB : M Fl := (mSeq (mSet 3 (mCallI 1 2 g_law_corners [(mFz (m2 fAdd (.val (mC (.int 2))) (.val (mFz (mCallI 1 2 g_law_draw [(mC (.int 6))])))))])) (mSeq (mSet 4 (mCallI 1 4 g_law_drawn [(mV 3), (mC (.int 5)), (mC (.int 5))])) (mSeq (mPar 6 7 [(mFz (mCall 1 g_Web [(mV 4)])), (mFz (mCall 1 g_law_sides [(mV 4)]))]) (mSeq (mIf (bOr (bNot (mTru (.val (mFz (mCall 2 g_law_are_skeletons_right [(mV 7), (mV 6)]))))) (bNot (mTru (.val (mFz (mCallI 1 3 g_law_are_parts_right [(mV 7), (mV 6)])))))) (mRet (mIm (mC (.bl false)))) mNx) (mSeq (mFor (itR1 (mFz (mIf (mT (m2 (fI2 fun i j => .bl (decide (j < i))) (.val (mFz (m1 fLen (.pk 7)))) (.val (mC (.int 0))))) (mIm (mC (.int 6))) (mIm (mC (.int 0)))))) (.nm 5) turnB) (mIf (bNot (mTru (.val (mFz (mCallI 1 3 g_law_are_refused [(mV 7), (mV 6)]))))) (mRet (mIm (mC (.bl false)))) mNx))))))
theorem m_law_is : m_law = mSeq (mSet 1 (mCall 1 g_law_hand [(mV 0)])) (mSeq (mFor (itR1 (mC (.int 3))) (.nm 2) lapB) (mRet (mIm (mC (.bl true))))) := rfl
theorem turn_ok {ns : List Int} {cs : Sd} {ts : List Sd} (tp : Tops cs ts) {h : Ev.S} {a2 a3 a4 a5 : Option Ev.S} (hh : HandOk false h) (hw : 0 < (wh ts).length) : ∃ h', HandOk false h' ∧
    turnB (lF ns h a2 a3 a4 a5 (some (.imm (webD ts))) (some (.imm (.lst ((wh ts).map sd))))) = some (.nx, lF ns h' a2 a3 a4 a5 (some (.imm (webD ts))) (some (.imm (.lst ((wh ts).map sd))))) := by
  have lim : LIM = 16777216 := rfl
  have wl := wh_len tp.fam
  obtain ⟨d, s1, e1, m1', k1⟩ := some_ok (b := false) (s := h) (l := (wh ts).map sd) hh (by rw [List.length_map]; exact hw) (by rw [List.length_map]; omega)
  obtain ⟨h1, i1, k1⟩ := callH (b := false) (j := 1) (n := 2) (g := g_law_some) (s := h) (σ := lF ns h a2 a3 a4 a5 (some (.imm (webD ts))) (some (.imm (.lst ((wh ts).map sd))))) (σ1 := lF ns h a2 a3 a4 a5 (some (.imm (webD ts))) (some (.imm (.lst ((wh ts).map sd))))) (ms := [(mV 7)]) (ds := [.lst ((wh ts).map sd)]) rfl rfl rfl hh rfl e1 k1
  obtain ⟨s, hs, rfl⟩ := List.mem_map.mp m1'
  have ab := is_about_ok tp ((wh_mem tp.fam).mp hs)
  refine ⟨h1, k1, ?_⟩
  generalize webD ts = Wb at *
  generalize wh ts = W at *
  exact (ifF (not_eq (tru_v (fz_eq (call_eq (ds := [.lst (W.map sd), Wb, sd s]) (mL_cons rfl (mL_cons rfl (mL_cons (fz_eq i1) mL_nil))) rfl ab))))).trans rfl
theorem turns_ok {ns : List Int} {cs : Sd} {ts : List Sd} (tp : Tops cs ts) {a2 a3 a4 : Option Ev.S} (hw : 0 < (wh ts).length) : ∀ (ks : List D) (h : Ev.S) (a5 : Option Ev.S), HandOk false h → okS a5 = true → ∃ h' a5', HandOk false h' ∧ okS a5' = true ∧
    lpF (.nm 5) turnB ks (lF ns h a2 a3 a4 a5 (some (.imm (webD ts))) (some (.imm (.lst ((wh ts).map sd))))) = some (.nx, lF ns h' a2 a3 a4 a5' (some (.imm (webD ts))) (some (.imm (.lst ((wh ts).map sd)))))
  | [], h, a5, hh, h5 => ⟨h, a5, hh, h5, rfl⟩
  | k :: ks, h, a5, hh, h5 => by
    obtain ⟨h1, k1, e⟩ := turn_ok (ns := ns) (a2 := a2) (a3 := a3) (a4 := a4) (a5 := some (.imm k)) tp hh hw
    obtain ⟨h2, b5, q1, q5, e2⟩ := turns_ok (ns := ns) (a2 := a2) (a3 := a3) (a4 := a4) tp hw ks h1 (some (.imm k)) k1 rfl
    exact ⟨h2, b5, q1, q5, (lpF_nx (put_nm (x := a5) rfl h5) e).trans e2⟩
theorem lap_ok {ns : List Int} {h : Ev.S} {a2 a3 a4 a5 a6 a7 : Option Ev.S} (hh : HandOk false h) (h3 : okS a3 = true) (h4 : okS a4 = true) (h5 : okS a5 = true) (h6 : okS a6 = true) (h7 : okS a7 = true) : ∃ h' a3' a4' a5' a6' a7', HandOk false h' ∧ okS a3' = true ∧ okS a4' = true ∧ okS a5' = true ∧ okS a6' = true ∧ okS a7' = true ∧
    lapB (lF ns h a2 a3 a4 a5 a6 a7) = some (.nx, lF ns h' a2 a3' a4' a5' a6' a7') := by
  have lim : LIM = 16777216 := rfl
  obtain ⟨i, h1, e1, i0, i1, k1⟩ := call_draw (b := false) (j := 1) (σ := lF ns h a2 a3 a4 a5 a6 a7) (s := h) (n := 6) (ms := [(mC (.int 6))]) rfl rfl hh (by decide) (by decide)
  obtain ⟨many, hm⟩ : ∃ many : Nat, 2 + i = (many : Int) := ⟨(2 + i).toNat, by omega⟩
  have ed : mFz (m2 fAdd (.val (mC (.int 2))) (.val (mFz (mCallI 1 2 g_law_draw [(mC (.int 6))])))) (lF ns h a2 a3 a4 a5 a6 a7) = some (.int many, lF ns h1 a2 a3 a4 a5 a6 a7) := by
    rw [← hm]
    exact fz_eq (s := .imm (.int (2 + i))) (m2_vv (d := .int 2) rfl e1 rfl)
  obtain ⟨cs, s2, e2, cr, k2⟩ := corners_ok (s := h1) (many := many) k1 (by omega)
  obtain ⟨h2, i2, k2⟩ := callH (b := false) (j := 1) (n := 2) (g := g_law_corners) (s := h1) (σ := lF ns h a2 a3 a4 a5 a6 a7) (σ1 := lF ns h1 a2 a3 a4 a5 a6 a7) (ms := [(mFz (m2 fAdd (.val (mC (.int 2))) (.val (mFz (mCallI 1 2 g_law_draw [(mC (.int 6))])))))]) (ds := [.int many]) rfl (mL_cons ed mL_nil) rfl k1 rfl e2 k2
  have st0 : mSet 3 (mCallI 1 2 g_law_corners [(mFz (m2 fAdd (.val (mC (.int 2))) (.val (mFz (mCallI 1 2 g_law_draw [(mC (.int 6))])))))]) (lF ns h a2 a3 a4 a5 a6 a7) = some (.nx, lF ns h2 a2 (some (.ls false (cs.map D.int))) a4 a5 a6 a7) := (set_eq i2 (okSet_at (x := a3) rfl h3)).trans rfl
  obtain ⟨ts, s3, e3, tp, k3⟩ := drawn_ok (mo := 5) (sz := 5) (by decide) (by decide) (by decide) (by decide) (s := h2) cr (by omega) (by omega) k2
  obtain ⟨h3', i3, k3⟩ := callH (b := false) (j := 1) (n := 4) (g := g_law_drawn) (s := h2) (σ := lF ns h2 a2 (some (.ls false (cs.map D.int))) a4 a5 a6 a7) (σ1 := lF ns h2 a2 (some (.imm (.lst (cs.map D.int)))) a4 a5 a6 a7) (ms := [(mV 3), (mC (.int 5)), (mC (.int 5))]) (ds := [.lst (cs.map D.int), .int 5, .int 5]) rfl rfl rfl k2 rfl e3 k3
  have st1 : mSet 4 (mCallI 1 4 g_law_drawn [(mV 3), (mC (.int 5)), (mC (.int 5))]) (lF ns h2 a2 (some (.ls false (cs.map D.int))) a4 a5 a6 a7) = some (.nx, lF ns h3' a2 (some (.imm (.lst (cs.map D.int)))) (some (.imm (tupS ts))) a5 a6 a7) := (set_eq i3 (okSet_at (x := a4) rfl h4)).trans rfl
  have we := web_eq tp
  have sw := sides_wh (d := tupS ts) tp.fam rfl
  have wl := wh_len tp.fam
  have st2 : mPar 6 7 [(mFz (mCall 1 g_Web [(mV 4)])), (mFz (mCall 1 g_law_sides [(mV 4)]))] (lF ns h3' a2 (some (.imm (.lst (cs.map D.int)))) (some (.imm (tupS ts))) a5 a6 a7) = some (.nx, lF ns h3' a2 (some (.imm (.lst (cs.map D.int)))) (some (.imm (tupS ts))) a5 (some (.imm (webD ts))) (some (.imm (.lst ((wh ts).map sd))))) := by
    generalize webD ts = Wb at *
    generalize tupS ts = T at *
    generalize wh ts = W at *
    have ml : mL [(mFz (mCall 1 g_Web [(mV 4)])), (mFz (mCall 1 g_law_sides [(mV 4)]))] (lF ns h3' a2 (some (.imm (.lst (cs.map D.int)))) (some (.imm T)) a5 a6 a7) = some ([Wb, .lst (W.map sd)], lF ns h3' a2 (some (.imm (.lst (cs.map D.int)))) (some (.imm T)) a5 a6 a7) := mL_cons (fz_eq (call_eq (ds := [T]) rfl rfl we)) (mL_cons (fz_eq (call_eq (ds := [T]) rfl rfl sw)) mL_nil)
    have p1 := put_nm (d := Wb) (σ := lF ns h3' a2 (some (.imm (.lst (cs.map D.int)))) (some (.imm T)) a5 a6 a7) (i := 6) (x := a6) rfl h6
    have p2 := put_nm (d := .lst (W.map sd)) (σ := lF ns h3' a2 (some (.imm (.lst (cs.map D.int)))) (some (.imm T)) a5 (some (.imm Wb)) a7) (i := 7) (x := a7) rfl h7
    unfold mPar
    rw [ml]
    dsimp only
    rw [p1]
    dsimp only
    rw [show ((lF ns h3' a2 (some (.imm (.lst (cs.map D.int)))) (some (.imm T)) a5 a6 a7).set 6 (some (.imm Wb)) : Fr) = lF ns h3' a2 (some (.imm (.lst (cs.map D.int)))) (some (.imm T)) a5 (some (.imm Wb)) a7 from rfl, p2]
    rfl
  have sk := skels_ok tp
  obtain ⟨s4, e4, k4⟩ := parts_ok (s := h3') tp k3
  obtain ⟨h4', i4, k4⟩ := callH (b := false) (j := 1) (n := 3) (g := g_law_are_parts_right) (s := h3') (σ := lF ns h3' a2 (some (.imm (.lst (cs.map D.int)))) (some (.imm (tupS ts))) a5 (some (.imm (webD ts))) (some (.imm (.lst ((wh ts).map sd))))) (σ1 := lF ns h3' a2 (some (.imm (.lst (cs.map D.int)))) (some (.imm (tupS ts))) a5 (some (.imm (webD ts))) (some (.imm (.lst ((wh ts).map sd))))) (ms := [(mV 7), (mV 6)]) (ds := [.lst ((wh ts).map sd), webD ts]) rfl rfl rfl k3 rfl e4 k4
  have st3 : mIf (bOr (bNot (mTru (.val (mFz (mCall 2 g_law_are_skeletons_right [(mV 7), (mV 6)]))))) (bNot (mTru (.val (mFz (mCallI 1 3 g_law_are_parts_right [(mV 7), (mV 6)])))))) (mRet (mIm (mC (.bl false)))) mNx (lF ns h3' a2 (some (.imm (.lst (cs.map D.int)))) (some (.imm (tupS ts))) a5 (some (.imm (webD ts))) (some (.imm (.lst ((wh ts).map sd))))) = some (.nx, lF ns h4' a2 (some (.imm (.lst (cs.map D.int)))) (some (.imm (tupS ts))) a5 (some (.imm (webD ts))) (some (.imm (.lst ((wh ts).map sd))))) := by
    generalize webD ts = Wb at *
    generalize tupS ts = T at *
    generalize wh ts = W at *
    exact (ifF ((orF (not_eq (tru_v (fz_eq (call_eq (ds := [.lst (W.map sd), Wb]) rfl rfl sk))))).trans (not_eq (tru_v (fz_eq i4))))).trans rfl
  have st4 : ∃ h5 b5, HandOk false h5 ∧ okS b5 = true ∧ mFor (itR1 (mFz (mIf (mT (m2 (fI2 fun i j => .bl (decide (j < i))) (.val (mFz (m1 fLen (.pk 7)))) (.val (mC (.int 0))))) (mIm (mC (.int 6))) (mIm (mC (.int 0)))))) (.nm 5) turnB (lF ns h4' a2 (some (.imm (.lst (cs.map D.int)))) (some (.imm (tupS ts))) a5 (some (.imm (webD ts))) (some (.imm (.lst ((wh ts).map sd))))) = some (.nx, lF ns h5 a2 (some (.imm (.lst (cs.map D.int)))) (some (.imm (tupS ts))) b5 (some (.imm (webD ts))) (some (.imm (.lst ((wh ts).map sd))))) := by
    have tk := fun hw => turns_ok (ns := ns) (a2 := a2) (a3 := some (.imm (.lst (cs.map D.int)))) (a4 := some (.imm (tupS ts))) tp hw (dRng 0 6) h4' a5 k4 h5
    generalize webD ts = Wb at *
    generalize tupS ts = T at *
    generalize wh ts = W at *
    cases W with
    | nil => exact ⟨h4', a5, k4, h5, rfl⟩
    | cons u W =>
      obtain ⟨h5', b5, q1, q2, e⟩ := tk (by simp)
      refine ⟨h5', b5, q1, q2, (for_eq (ds := dRng 0 6) (σ1 := lF ns h4' a2 (some (.imm (.lst (cs.map D.int)))) (some (.imm T)) a5 (some (.imm Wb)) (some (.imm (.lst ((u :: W).map sd))))) ?_).trans e⟩
      have t : mT (m2 (fI2 fun i j => .bl (decide (j < i))) (.val (mFz (m1 fLen (.pk 7)))) (.val (mC (.int 0)))) (lF ns h4' a2 (some (.imm (.lst (cs.map D.int)))) (some (.imm T)) a5 (some (.imm Wb)) (some (.imm (.lst ((u :: W).map sd))))) = some (true, lF ns h4' a2 (some (.imm (.lst (cs.map D.int)))) (some (.imm T)) a5 (some (.imm Wb)) (some (.imm (.lst ((u :: W).map sd))))) := by
        refine mT_eq (m2_vv (d := .int ((u :: W).map sd).length) (e := .int 0) (fz_eq (s := .imm (.int ((u :: W).map sd).length)) (m1_p (d := .lst ((u :: W).map sd)) rfl rfl)) rfl ?_)
        show some (Ev.S.imm (.bl (decide ((0 : Int) < (((u :: W).map sd).length : Int))))) = _
        rw [decide_eq_true (by rw [List.length_map, List.length_cons]; omega)]
      have f := fz_eq (s := .imm (.int 6)) ((ifT (p := mIm (mC (.int 6))) (q := mIm (mC (.int 0))) t).trans rfl)
      unfold itR1
      rw [f]; rfl
  obtain ⟨h5', b5, q1, q5, st4⟩ := st4
  obtain ⟨s6, e6, k6⟩ := refused_ok (s := h5') tp (fun c m => (cr.lo c m).2) q1
  obtain ⟨h6', i6, k6⟩ := callH (b := false) (j := 1) (n := 3) (g := g_law_are_refused) (s := h5') (σ := lF ns h5' a2 (some (.imm (.lst (cs.map D.int)))) (some (.imm (tupS ts))) b5 (some (.imm (webD ts))) (some (.imm (.lst ((wh ts).map sd))))) (σ1 := lF ns h5' a2 (some (.imm (.lst (cs.map D.int)))) (some (.imm (tupS ts))) b5 (some (.imm (webD ts))) (some (.imm (.lst ((wh ts).map sd))))) (ms := [(mV 7), (mV 6)]) (ds := [.lst ((wh ts).map sd), webD ts]) rfl rfl rfl q1 rfl e6 k6
  refine ⟨h6', some (.imm (.lst (cs.map D.int))), some (.imm (tupS ts)), b5, some (.imm (webD ts)), some (.imm (.lst ((wh ts).map sd))), k6, rfl, rfl, q5, rfl, rfl, ?_⟩
  refine (seq_nx st0).trans ((seq_nx st1).trans ((seq_nx st2).trans ((seq_nx st3).trans ((seq_nx st4).trans ?_))))
  exact (ifF (not_eq (tru_v (fz_eq i6)))).trans rfl
theorem laps_ok {ns : List Int} : ∀ (ks : List D) (h : Ev.S) (a2 a3 a4 a5 a6 a7 : Option Ev.S), HandOk false h → okS a2 = true → okS a3 = true → okS a4 = true → okS a5 = true → okS a6 = true → okS a7 = true → ∃ σ, lpF (.nm 2) lapB ks (lF ns h a2 a3 a4 a5 a6 a7) = some (.nx, σ)
  | [], h, a2, a3, a4, a5, a6, a7, _, _, _, _, _, _, _ => ⟨_, rfl⟩
  | k :: ks, h, a2, a3, a4, a5, a6, a7, hh, h2, h3, h4, h5, h6, h7 => by
    obtain ⟨h', b3, b4, b5, b6, b7, k1, k3, k4, k5, k6, k7, e⟩ := lap_ok (ns := ns) (a2 := some (.imm k)) hh h3 h4 h5 h6 h7
    obtain ⟨σ, e2⟩ := laps_ok (ns := ns) ks h' (some (.imm k)) b3 b4 b5 b6 b7 k1 rfl k3 k4 k5 k6 k7
    exact ⟨σ, (lpF_nx (put_nm (x := a2) rfl h2) e).trans e2⟩
theorem law_holds (ns : List Int) (hn : ns.length ≤ 63) : g_law [.scr ns] = some (.imm (.bl true)) := by
  obtain ⟨h, e1, hh⟩ := hand_ok hn
  obtain ⟨σ, e2⟩ := laps_ok (ns := ns) (dRng 0 3) h none none none none none none hh rfl rfl rfl rfl rfl rfl
  refine runV_rt (σ := σ) ?_
  rw [m_law_is]
  refine (seq_nx ((set_eq (call_eq (ds := [.scr ns]) rfl rfl e1) rfl).trans (show _ = some (Fl.nx, lF ns h none none none none none none) from rfl))).trans ?_
  exact (seq_nx ((for_eq (ds := dRng 0 3) rfl).trans e2)).trans (ret_eq rfl)
end Qk
end

section
set_option Elab.async false
theorem PySem.Challenge.cw_fillorgauge_k01_whole_parts_skeletons_st_holds : PySem.Challenge.rw_fillorgauge_k01_whole_parts_skeletons_st.Holds :=
  k01_holds fun ns h _ => Qk.law_holds ns h
end
