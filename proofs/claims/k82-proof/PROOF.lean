import PyProof.Rows.All
import Wide.All
import OpenK.AllK
import Wide.FinOn
import HandS.ForMost
import HandS.Style
import HandS.DictComp
import HandS.IsInst
import HandS.Wide
import HandS.Conv
import HandS.TupAny
import PyProof.ReprRoads
import HandS.Zip
import KE.GoesEnum
import PyProof.DictUpdate
import PyProof.AutoSeq1
import HandS.NoneIn
import PyProof.CallFns
import HandS.ForExc
import HandS.ExcIs
import HandS.Lambda
import HandS.EndTab
import HandS.FStrTup
import PyProof.ReprLen
import PySem.Challenge.RW_pinforge_k82_whole_least_patches
set_option Elab.async false
set_option linter.all false
set_option maxRecDepth 100000
set_option maxHeartbeats 2000000
/-! DL1: data, slots, environments over the hand layer -/
namespace DL
open PySem PySem.Spec L2

/-! ### data -/
/-- data as it is read off the heap: nothing of addresses -/
inductive D where
  | non | bl (b : Bool) | int (i : Int) | str (s : Str)
  | tup (l : List D) | lst (l : List D) | dct (ks : List Key) (l : List D)

mutual
/-- v reads as the data in the known heap F -/
def Dat (F : Hp) : D → V → Prop
  | .non, v => v = .non
  | .bl b, v => v = .bl b
  | .int i, v => v = .int i
  | .str s, v => v = .str s
  | .tup l, v => ∃ p vs, v = .ref p ∧ F p = some (.tup vs) ∧ Dats F l vs
  | .lst l, v => ∃ p vs, v = .ref p ∧ F p = some (.lst vs) ∧ Dats F l vs
  | .dct ks l, v => ∃ p vs, v = .ref p ∧ F p = some (.dK (ks.zip vs)) ∧ ks.length = l.length ∧ Dats F l vs
def Dats (F : Hp) : List D → List V → Prop
  | [], vs => vs = []
  | d :: r, vs => ∃ v w, vs = v :: w ∧ Dat F d v ∧ Dats F r w
end

def Ex (F H : Hp) : Prop := ∀ a o, F a = some o → H a = some o
theorem Ex.refl (F : Hp) : Ex F F := fun _ _ h => h
theorem Ex.trans {F G H : Hp} (a : Ex F G) (b : Ex G H) : Ex F H := fun x o h => b x o (a x o h)
theorem Ex.new {F : Hp} {p : Addr} {o : HO} (h : F p = none) : Ex F (upd F p o) := fun a u e => by
  rw [upd_ne (ne_of_none e h)]
  exact e
theorem Ex.back {F H : Hp} {p : Addr} (e : Ex F H) (h : H p = none) : F p = none := by
  cases q : F p with
  | none => rfl
  | some o =>
    rw [e p o q] at h
    cases h
theorem Ex.upd {F H : Hp} {p : Addr} {o : HO} (e : Ex F H) : Ex (upd F p o) (L2.upd H p o) := fun a u h => by
  by_cases q : a = p
  · subst q
    rw [upd_same] at h ⊢
    exact h
  · rw [upd_ne q] at h ⊢
    exact e a u h
theorem Ex.mut {F H : Hp} {p : Addr} {o : HO} (e : Ex F H) (h : F p = none) : Ex F (L2.upd H p o) := fun a u ha => by
  rw [upd_ne (ne_of_none ha h)]
  exact e a u ha

mutual
theorem Dat.mono {F G : Hp} (e : Ex F G) : ∀ {d : D} {v : V}, Dat F d v → Dat G d v
  | .non, v, h => h
  | .bl b, v, h => h
  | .int i, v, h => h
  | .str s, v, h => h
  | .tup l, v, h => by
    obtain ⟨p, vs, h1, h2, h3⟩ := h
    exact ⟨p, vs, h1, e _ _ h2, Dats.mono e h3⟩
  | .lst l, v, h => by
    obtain ⟨p, vs, h1, h2, h3⟩ := h
    exact ⟨p, vs, h1, e _ _ h2, Dats.mono e h3⟩
  | .dct ks l, v, h => by
    obtain ⟨p, vs, h1, h2, h4, h3⟩ := h
    exact ⟨p, vs, h1, e _ _ h2, h4, Dats.mono e h3⟩
theorem Dats.mono {F G : Hp} (e : Ex F G) : ∀ {l : List D} {vs : List V}, Dats F l vs → Dats G l vs
  | [], vs, h => h
  | d :: r, vs, h => by
    obtain ⟨v, w, h1, h2, h3⟩ := h
    exact ⟨v, w, h1, Dat.mono e h2, Dats.mono e h3⟩
end
section
variable {F : Hp}
theorem Dats.nil : Dats F [] [] := rfl
theorem Dats.cons {d : D} {v : V} {l : List D} {vs : List V} (h : Dat F d v) (t : Dats F l vs) : Dats F (d :: l) (v :: vs) := ⟨v, vs, rfl, h, t⟩
theorem Dats.one {d : D} {v : V} (h : Dat F d v) : Dats F [d] [v] := .cons h .nil
theorem Dats.length : ∀ {l : List D} {vs : List V}, Dats F l vs → l.length = vs.length
  | [], vs, h => by
    have e : vs = [] := h
    rw [e]
    rfl
  | d :: r, vs, h => by
    obtain ⟨v, w, e, _, t⟩ := h
    rw [e]
    show r.length + 1 = w.length + 1
    rw [Dats.length t]
theorem Dats.get : ∀ {l : List D} {vs : List V} {i : Nat} {d : D}, Dats F l vs → l[i]? = some d → ∃ v, vs[i]? = some v ∧ Dat F d v
  | [], _, _, _, _, e => by simp at e
  | d :: r, vs, 0, d', h, e => by
    obtain ⟨v, w, rfl, hd, t⟩ := h
    have e' : d = d' := by simpa using e
    subst e'
    exact ⟨v, rfl, hd⟩
  | d :: r, vs, i + 1, d', h, e => by
    obtain ⟨v, w, rfl, hd, t⟩ := h
    obtain ⟨u, h1, h2⟩ := Dats.get (i := i) t (by simpa using e)
    exact ⟨u, by simpa using h1, h2⟩
theorem Dats.getV : ∀ {l : List D} {vs : List V} {i : Nat} {v : V}, Dats F l vs → vs[i]? = some v → ∃ d, l[i]? = some d ∧ Dat F d v
  | [], vs, _, _, h, e => by
    have e0 : vs = [] := h
    rw [e0] at e
    simp at e
  | d :: r, vs, 0, v', h, e => by
    obtain ⟨v, w, rfl, hd, t⟩ := h
    have e' : v = v' := by simpa using e
    subst e'
    exact ⟨d, rfl, hd⟩
  | d :: r, vs, i + 1, v', h, e => by
    obtain ⟨v, w, rfl, hd, t⟩ := h
    obtain ⟨u, h1, h2⟩ := Dats.getV (i := i) t (by simpa using e)
    exact ⟨u, by simpa using h1, h2⟩
theorem Dats.append : ∀ {l m : List D} {vs ws : List V}, Dats F l vs → Dats F m ws → Dats F (l ++ m) (vs ++ ws)
  | [], m, vs, ws, h, t => by
    have e : vs = [] := h
    rw [e]
    exact t
  | d :: r, m, vs, ws, h, t => by
    obtain ⟨v, w, rfl, hd, q⟩ := h
    exact ⟨v, w ++ ws, rfl, hd, Dats.append q t⟩
theorem Dats.take : ∀ {l : List D} {vs : List V} (n : Nat), Dats F l vs → Dats F (l.take n) (vs.take n)
  | l, vs, 0, h => rfl
  | [], vs, n + 1, h => by
    have e : vs = [] := h
    rw [e]
    rfl
  | d :: r, vs, n + 1, h => by
    obtain ⟨v, w, rfl, hd, q⟩ := h
    exact ⟨v, w.take n, rfl, hd, Dats.take n q⟩
theorem Dats.drop : ∀ {l : List D} {vs : List V} (n : Nat), Dats F l vs → Dats F (l.drop n) (vs.drop n)
  | l, vs, 0, h => h
  | [], vs, n + 1, h => by
    have e : vs = [] := h
    rw [e]
    rfl
  | d :: r, vs, n + 1, h => by
    obtain ⟨v, w, rfl, hd, q⟩ := h
    exact Dats.drop n q
theorem Dats.set : ∀ {l : List D} {vs : List V} (i : Nat) {d : D} {v : V}, Dats F l vs → Dat F d v → Dats F (l.set i d) (vs.set i v)
  | [], vs, i, d, v, h, _ => by
    have e : vs = [] := h
    rw [e]
    rfl
  | d :: r, vs, 0, d', v', h, hd' => by
    obtain ⟨v, w, rfl, hd, q⟩ := h
    exact ⟨v', w, rfl, hd', q⟩
  | d :: r, vs, i + 1, d', v', h, hd' => by
    obtain ⟨v, w, rfl, hd, q⟩ := h
    exact ⟨v, w.set i v', rfl, hd, Dats.set i q hd'⟩
theorem Dats.eraseIdx : ∀ {l : List D} {vs : List V} (i : Nat), Dats F l vs → Dats F (l.eraseIdx i) (vs.eraseIdx i)
  | [], vs, i, h => by
    have e : vs = [] := h
    rw [e]
    rfl
  | d :: r, vs, 0, h => by
    obtain ⟨v, w, rfl, hd, q⟩ := h
    exact q
  | d :: r, vs, i + 1, h => by
    obtain ⟨v, w, rfl, hd, q⟩ := h
    exact ⟨v, w.eraseIdx i, rfl, hd, Dats.eraseIdx i q⟩
theorem Dats.reverse : ∀ {l : List D} {vs : List V}, Dats F l vs → Dats F l.reverse vs.reverse
  | [], vs, h => by
    have e : vs = [] := h
    rw [e]
    rfl
  | d :: r, vs, h => by
    obtain ⟨v, w, rfl, hd, q⟩ := h
    rw [List.reverse_cons, List.reverse_cons]
    exact (Dats.reverse q).append (.one hd)
theorem Dats.ints : ∀ {ns : List Int} {vs : List V}, Dats F (ns.map D.int) vs → vs = ns.map V.int
  | [], vs, h => h
  | n :: r, vs, h => by
    obtain ⟨v, w, rfl, hd, q⟩ := h
    have e : v = .int n := hd
    rw [e, Dats.ints q]
    rfl
theorem Dats.of_ints : ∀ (ns : List Int), Dats F (ns.map D.int) (ns.map V.int)
  | [] => rfl
  | n :: r => ⟨.int n, _, rfl, rfl, Dats.of_ints r⟩
theorem Dats.strs : ∀ {ns : List Str} {vs : List V}, Dats F (ns.map D.str) vs → vs = ns.map V.str
  | [], vs, h => h
  | n :: r, vs, h => by
    obtain ⟨v, w, rfl, hd, q⟩ := h
    have e : v = .str n := hd
    rw [e, Dats.strs q]
    rfl
theorem Dats.of_strs : ∀ (ns : List Str), Dats F (ns.map D.str) (ns.map V.str)
  | [] => rfl
  | n :: r => ⟨.str n, _, rfl, rfl, Dats.of_strs r⟩
end

/-! ### own trees -/
/-- a node of an own tree: a list, a dict, an instance of the class at C -/
inductive Nd where
  | lst | dct (ks : List Key) | ins (C : Addr) (ns : List Str)
def Nd.ho : Nd → Addr → List V → HO
  | .lst, _, vs => .lst vs
  | .dct ks, _, vs => .dK (ks.zip vs)
  | .ins C ns, dx, vs => .ins C dx (ns.zip vs)
def Nd.fits : Nd → Nat → Prop
  | .lst, _ => True
  | .dct ks, n => ks.length = n
  | .ins _ ns, n => ns.length = n
theorem Nd.mut (k : Nd) (dx : Addr) (vs : List V) : Mut (some (k.ho dx vs)) := by cases k <;> trivial
/-- an own tree: known data, or an own node with own trees below -/
inductive O where
  | im (d : D) | nd (k : Nd) (l : List O)
mutual
/-- v reads as the own tree, whose nodes stand at fp -/
def OwnT (F H : Hp) : O → V → List Addr → Prop
  | .im d, v, fp => fp = [] ∧ Dat F d v
  | .nd k l, v, fp => ∃ p dx vs fq, v = .ref p ∧ fp = p :: fq ∧ H p = some (k.ho dx vs) ∧ k.fits l.length ∧ OwnTs F H l vs fq
def OwnTs (F H : Hp) : List O → List V → List Addr → Prop
  | [], vs, fp => vs = [] ∧ fp = []
  | o :: r, vs, fp => ∃ v w f1 f2, vs = v :: w ∧ fp = f1 ++ f2 ∧ OwnT F H o v f1 ∧ OwnTs F H r w f2
end
mutual
theorem OwnT.ne {F H : Hp} : ∀ {o : O} {v : V} {fp : List Addr}, OwnT F H o v fp → ∀ a ∈ fp, H a ≠ none
  | .im d, v, fp, h, a, ha => by
    rw [h.1] at ha
    cases ha
  | .nd k l, v, fp, h, a, ha => by
    obtain ⟨p, dx, vs, fq, _, rfl, h1, _, h2⟩ := h
    rcases List.mem_cons.mp ha with z | z
    · rw [z, h1]
      exact Option.some_ne_none _
    · exact OwnTs.ne h2 a z
theorem OwnTs.ne {F H : Hp} : ∀ {l : List O} {vs : List V} {fp : List Addr}, OwnTs F H l vs fp → ∀ a ∈ fp, H a ≠ none
  | [], vs, fp, h, a, ha => by
    rw [h.2] at ha
    cases ha
  | o :: r, vs, fp, h, a, ha => by
    obtain ⟨v, w, f1, f2, _, rfl, h1, h2⟩ := h
    rcases List.mem_append.mp ha with z | z
    · exact OwnT.ne h1 a z
    · exact OwnTs.ne h2 a z
end
mutual
theorem OwnT.mono {F G H H' : Hp} (e : Ex F G) : ∀ {o : O} {v : V} {fp : List Addr}, OwnT F H o v fp → (∀ a ∈ fp, H' a = H a) → OwnT G H' o v fp
  | .im d, v, fp, h, k => ⟨h.1, h.2.mono e⟩
  | .nd n l, v, fp, h, k => by
    obtain ⟨p, dx, vs, fq, h0, rfl, h1, h3, h2⟩ := h
    exact ⟨p, dx, vs, fq, h0, rfl, by rw [k p (List.mem_cons_self ..)]; exact h1, h3, OwnTs.mono e h2 fun a z => k a (List.mem_cons_of_mem _ z)⟩
theorem OwnTs.mono {F G H H' : Hp} (e : Ex F G) : ∀ {l : List O} {vs : List V} {fp : List Addr}, OwnTs F H l vs fp → (∀ a ∈ fp, H' a = H a) → OwnTs G H' l vs fp
  | [], vs, fp, h, k => h
  | o :: r, vs, fp, h, k => by
    obtain ⟨v, w, f1, f2, h0, rfl, h1, h2⟩ := h
    exact ⟨v, w, f1, f2, h0, rfl, OwnT.mono e h1 fun a z => k a (List.mem_append_left _ z), OwnTs.mono e h2 fun a z => k a (List.mem_append_right _ z)⟩
end
/-- the things that a thing holds -/
def kids : HO → List V
  | .lst vs => vs
  | .dK kvs => kvs.map (·.2)
  | .ins _ _ fs => fs.map (·.2)
  | _ => []
/-- the way from one value down to another one, through things that are none of W -/
def Adr (W : List Addr) (H : Hp) : V → List Nat → V → Prop
  | v, [], w => w = v
  | v, n :: π, w => ∃ p h u, v = .ref p ∧ p ∉ W ∧ H p = some h ∧ (kids h)[n]? = some u ∧ Adr W H u π w
theorem Adr.mono {W : List Addr} {H H' : Hp} (k : ∀ a, H a ≠ none → a ∉ W → H' a = H a) : ∀ {π : List Nat} {v w : V}, Adr W H v π w → Adr W H' v π w
  | [], v, w, h => h
  | n :: π, v, w, h => by
    obtain ⟨p, o, u, h1, h2, h3, h4, h5⟩ := h
    exact ⟨p, o, u, h1, h2, by rw [k p (by rw [h3]; exact Option.some_ne_none _) h2]; exact h3, h4, Adr.mono k h5⟩

/-! ### slots -/
/-- what is known of a slot, or of a value on the way: nothing; known data; an own list or dict of known items, that nobody else has; a look at such; the hand; an own tree; a look at one -/
inductive Sl where
  | any | im (d : D) | own (d : D) | vw (d : D) | hand | deep (v : V) (o : O) | vo (v : V) (π : List Nat) (o : O)
def isv : Sl → Bool
  | .vw _ => true
  | .vo _ _ _ => true
  | _ => false
/-- what is only told of by a word stays -/
def ExtX (H H' : Hp) : Prop := ∀ a φ, H a = some (HO.ext φ) → H' a = some (HO.ext φ)
theorem extx_new {H : Hp} {p : Addr} {o : HO} (hp : H p = none) : ExtX H (upd H p o) := fun a φ h => by
  rw [upd_ne (ne_of_none h hp)]
  exact h
theorem extx_mut {H : Hp} {p : Addr} {o : HO} (hp : ∀ φ, H p ≠ some (HO.ext φ)) : ExtX H (upd H p o) := fun a φ h => by
  rw [upd_ne (fun z => hp φ (by rw [← z]; exact h))]
  exact h
/-- a def's run: what was known, what stood, at the entry; what the run may change of what stood; the hand, what is true of it -/
structure C0 where
  F0 : Hp
  H0 : Hp
  W : List Addr
  hp : Addr
  hok : Hp → Prop
  stab : ∀ H H' : Hp, (∀ a ∈ W, H' a = H a) → ExtX H H' → hok H → hok H'
  wl : ∀ H, hok H → ∀ a ∈ W, H a ≠ none
/-- an own object's content -/
def Own (F H : Hp) (p : Addr) : D → Prop
  | .lst l => ∃ vs, H p = some (.lst vs) ∧ Dats F l vs
  | .dct ks l => ∃ vs, H p = some (.dK (ks.zip vs)) ∧ ks.length = l.length ∧ Dats F l vs
  | _ => False
theorem Own.some {F H : Hp} {p : Addr} {d : D} (h : Own F H p d) : ∃ o, H p = some o ∧ Mut (some o) := by
  cases d with
  | lst l =>
    obtain ⟨vs, h1, _⟩ := h
    exact ⟨_, h1, trivial⟩
  | dct ks l =>
    obtain ⟨vs, h1, _⟩ := h
    exact ⟨_, h1, trivial⟩
  | non => exact h.elim
  | bl => exact h.elim
  | int => exact h.elim
  | str => exact h.elim
  | tup => exact h.elim
theorem Own.ne {F H : Hp} {p : Addr} {d : D} (h : Own F H p d) : H p ≠ none := by
  obtain ⟨o, e, _⟩ := h.some
  rw [e]
  exact fun z => by cases z
theorem Own.mono {F G H H' : Hp} {p : Addr} {d : D} (h : Own F H p d) (e : Ex F G) (k : H' p = H p) : Own G H' p d := by
  cases d with
  | lst l =>
    obtain ⟨vs, h1, h2⟩ := h
    exact ⟨vs, by rw [k]; exact h1, h2.mono e⟩
  | dct ks l =>
    obtain ⟨vs, h1, h3, h2⟩ := h
    exact ⟨vs, by rw [k]; exact h1, h3, h2.mono e⟩
  | non => exact h.elim
  | bl => exact h.elim
  | int => exact h.elim
  | str => exact h.elim
  | tup => exact h.elim
def SlR (c : C0) (F H : Hp) (x : Option V) (fp : List Addr) : Sl → Prop
  | .any => fp = []
  | .im d => fp = [] ∧ ∃ v, x = some v ∧ Dat F d v
  | .own d => ∃ p, fp = [p] ∧ x = some (.ref p) ∧ Own F H p d ∧ F p = none ∧ p ∉ c.W ∧ c.H0 p = none
  | .vw d => fp = [] ∧ ∃ p, x = some (.ref p) ∧ Own F H p d ∧ p ∉ c.W
  | .hand => fp = [] ∧ x = some (.ref c.hp)
  | .deep v o => x = some v ∧ OwnT F H o v fp ∧ fp.Nodup ∧ ∀ a ∈ fp, F a = none ∧ a ∉ c.W ∧ c.H0 a = none
  | .vo v π o => fp = [] ∧ ∃ w fq, x = some w ∧ Adr c.W H v π w ∧ OwnT F H o w fq ∧ ∀ a ∈ fq, a ∉ c.W
section
variable {c : C0} {F F' H H' : Hp} {x : Option V} {fp : List Addr} {s : Sl}
theorem Nd.ho_ext {k : Nd} {dx : Addr} {vs : List V} {φ : Heap → Prop} : k.ho dx vs ≠ HO.ext φ := by
  cases k <;> exact fun z => by cases z
mutual
theorem OwnT.noExt {F H : Hp} : ∀ {o : O} {v : V} {fp : List Addr}, OwnT F H o v fp → ∀ a ∈ fp, ∀ φ, H a ≠ some (HO.ext φ)
  | .im d, v, fp, h, a, ha => by
    rw [h.1] at ha
    cases ha
  | .nd k l, v, fp, h, a, ha => by
    obtain ⟨p, dx, vs, fq, _, rfl, h1, _, h2⟩ := h
    intro φ z
    rcases List.mem_cons.mp ha with y | y
    · rw [y, h1] at z
      exact Nd.ho_ext (Option.some.inj z)
    · exact OwnTs.noExt h2 a y φ z
theorem OwnTs.noExt {F H : Hp} : ∀ {l : List O} {vs : List V} {fp : List Addr}, OwnTs F H l vs fp → ∀ a ∈ fp, ∀ φ, H a ≠ some (HO.ext φ)
  | [], vs, fp, h, a, ha => by
    rw [h.2] at ha
    cases ha
  | o :: r, vs, fp, h, a, ha => by
    obtain ⟨v, w, f1, f2, _, rfl, h1, h2⟩ := h
    rcases List.mem_append.mp ha with z | z
    · exact OwnT.noExt h1 a z
    · exact OwnTs.noExt h2 a z
end
theorem own_noExt {F H : Hp} {p : Addr} {d : D} (h : Own F H p d) (φ : Heap → Prop) : H p ≠ some (HO.ext φ) := by
  intro z
  cases d with
  | lst l =>
    obtain ⟨vs, h1, _⟩ := h
    rw [h1] at z
    cases z
  | dct ks l =>
    obtain ⟨vs, h1, _⟩ := h
    rw [h1] at z
    cases z
  | non => exact h.elim
  | bl => exact h.elim
  | int => exact h.elim
  | str => exact h.elim
  | tup => exact h.elim
theorem SlR.noExt (r : SlR c F H x fp s) {a : Addr} (ha : a ∈ fp) : ∀ φ, H a ≠ some (HO.ext φ) := by
  cases s with
  | any => rw [show fp = [] from r] at ha; cases ha
  | im d => rw [r.1] at ha; cases ha
  | vw d => rw [r.1] at ha; cases ha
  | hand => rw [r.1] at ha; cases ha
  | vo v π o => rw [r.1] at ha; cases ha
  | own d =>
    obtain ⟨p, rfl, r2, r3, r4, r5, r6⟩ := r
    rw [List.mem_singleton.mp ha]
    exact own_noExt r3
  | deep v o =>
    obtain ⟨r1, r2, r3, r4⟩ := r
    exact r2.noExt a ha
/-- what is own stands, is not known, is not of the hand, and is new -/
theorem SlR.own (r : SlR c F H x fp s) {a : Addr} (ha : a ∈ fp) : H a ≠ none ∧ F a = none ∧ a ∉ c.W ∧ c.H0 a = none := by
  cases s with
  | any => rw [show fp = [] from r] at ha; cases ha
  | im d => rw [r.1] at ha; cases ha
  | vw d => rw [r.1] at ha; cases ha
  | hand => rw [r.1] at ha; cases ha
  | vo v π o => rw [r.1] at ha; cases ha
  | own d =>
    obtain ⟨p, rfl, r2, r3, r4, r5, r6⟩ := r
    rw [List.mem_singleton.mp ha]
    exact ⟨r3.ne, r4, r5, r6⟩
  | deep v o =>
    obtain ⟨r1, r2, r3, r4⟩ := r
    exact ⟨r2.ne a ha, r4 a ha⟩
theorem SlR.mono (r : SlR c F H x fp s) (e : Ex F F') (k : ∀ a, H a ≠ none → a ∉ c.W → (a ∈ fp ∨ isv s = true) → H' a = H a) (hF : ∀ a ∈ fp, F' a = none) : SlR c F' H' x fp s := by
  have r' := r
  cases s with
  | any => exact r
  | im d => exact ⟨r.1, r.2.imp fun v h => ⟨h.1, h.2.mono e⟩⟩
  | hand => exact r
  | vw d =>
    obtain ⟨r1, p, r2, r3, r4⟩ := r
    exact ⟨r1, p, r2, r3.mono e (k p r3.ne r4 (.inr rfl)), r4⟩
  | vo v π o =>
    obtain ⟨r1, w, fq, r2, rA, r3, r4⟩ := r
    exact ⟨r1, w, fq, r2, rA.mono fun a h1 h2 => k a h1 h2 (.inr rfl), r3.mono e fun a ha => k a (r3.ne a ha) (r4 a ha) (.inr rfl), r4⟩
  | own d =>
    obtain ⟨p, r1, r2, r3, r4, r5, r6⟩ := r
    subst r1
    exact ⟨p, rfl, r2, r3.mono e (k p r3.ne r5 (.inl (List.mem_cons_self ..))), hF p (List.mem_cons_self ..), r5, r6⟩
  | deep v o =>
    obtain ⟨r1, r2, r3, r4⟩ := r
    exact ⟨r1, r2.mono e fun a ha => k a (r2.ne a ha) (r4 a ha).2.1 (.inl ha), r3, fun a ha => ⟨hF a ha, (r4 a ha).2⟩⟩
end
structure EnvR (c : C0) (F H : Hp) (σ : L2.St) (Γ : List Sl) : Prop where
  len : σ.length = Γ.length
  ex0 : Ex c.F0 F
  ex : Ex F H
  gr : ∀ a o, F a = some o → c.F0 a = some o ∨ c.H0 a = none
  fr : ∀ a o, c.H0 a = some o → a ∉ c.W → H a = some o
  nw : ∀ a ∈ c.W, F a = none
  hk : c.hok H
  sl : ∃ fp : Nat → List Addr, (∀ (i : Nat) (s : Sl), Γ[i]? = some s → ∃ x, σ[i]? = some x ∧ SlR c F H x (fp i) s) ∧ ∀ i j p, p ∈ fp i → p ∈ fp j → i = j ∧ i < Γ.length
/-- how what is known may grow -/
def Gr (F H F' : Hp) : Prop := Ex F F' ∧ ∀ a o, F' a = some o → F a = some o ∨ H a = none
theorem Gr.refl (F H : Hp) : Gr F H F := ⟨Ex.refl F, fun _ _ h => .inl h⟩
/-- what stood stands, but for W -/
def Keep (W : List Addr) (H H' : Hp) : Prop := ∀ a o, H a = some o → a ∉ W → H' a = some o
theorem Keep.refl (W : List Addr) (H : Hp) : Keep W H H := fun _ _ h _ => h
theorem Keep.eq {W : List Addr} {H H' : Hp} (k : Keep W H H') {a : Addr} (h : H a ≠ none) (w : a ∉ W) : H' a = H a := by
  cases e : H a with
  | none => exact absurd e h
  | some o => exact k a o e w

section
variable {c : C0} {F H F' H' : Hp} {σ : L2.St} {Γ : List Sl}
theorem EnvR.wne (E : EnvR c F H σ Γ) {a : Addr} (h : a ∈ c.W) : H a ≠ none := c.wl H E.hk a h
/-- THE STEP: what is known grows, what stood stays but for the hand -/
theorem EnvR.step (E : EnvR c F H σ Γ) (g : Gr F H F') (e : Ex F' H') (k : Keep c.W H H') (hk : c.hok H') : EnvR c F' H' σ Γ where
  len := E.len
  ex0 := E.ex0.trans g.1
  ex := e
  gr := fun a o h => by
    rcases g.2 a o h with z | z
    · exact E.gr a o z
    · right
      cases q : c.H0 a with
      | none => rfl
      | some u =>
        by_cases w : a ∈ c.W
        · exact absurd z (E.wne w)
        · rw [E.fr a u q w] at z
          cases z
  fr := fun a o h w => k a o (E.fr a o h w) w
  nw := fun a w => by
    cases q : F' a with
    | none => rfl
    | some o =>
      rcases g.2 a o q with z | z
      · rw [E.nw a w] at z
        cases z
      · exact absurd z (E.wne w)
  hk := hk
  sl := by
    obtain ⟨fp, h1, h2⟩ := E.sl
    refine ⟨fp, fun i s hs => ?_, h2⟩
    obtain ⟨x, hx, r⟩ := h1 i s hs
    refine ⟨x, hx, r.mono g.1 (fun a hn w _ => k.eq hn w) fun a ha => ?_⟩
    obtain ⟨o1, o2, o3, o4⟩ := r.own ha
    cases q : F' a with
    | none => rfl
    | some o =>
      rcases g.2 a o q with z | z
      · rw [o2] at z
        cases z
      · exact absurd z o1
/-- a value comes on top, with what it owns, that no slot has -/
theorem EnvR.pushF (E : EnvR c F H σ Γ) {x : Option V} {s : Sl} {f0 : List Addr} (h : SlR c F H x f0 s) (hd : ∀ fp : Nat → List Addr, (∀ (i : Nat) (s : Sl), Γ[i]? = some s → ∃ x, σ[i]? = some x ∧ SlR c F H x (fp i) s) → ∀ i, i < Γ.length → ∀ a ∈ f0, a ∉ fp i) : EnvR c F H (x :: σ) (s :: Γ) where
  len := by simp [E.len]
  ex0 := E.ex0
  ex := E.ex
  gr := E.gr
  fr := E.fr
  nw := E.nw
  hk := E.hk
  sl := by
    obtain ⟨fp, h1, h2⟩ := E.sl
    have hd := hd fp h1
    refine ⟨fun n => match n with | 0 => f0 | n + 1 => fp n, fun i t hs => ?_, fun i j p e1 e2 => ?_⟩
    · cases i with
      | zero =>
        have e : t = s := by simpa using hs.symm
        subst e
        exact ⟨x, rfl, h⟩
      | succ i =>
        obtain ⟨x, hx, r⟩ := h1 i t (by simpa using hs)
        exact ⟨x, by simpa using hx, r⟩
    · cases i with
      | zero =>
        cases j with
        | zero => exact ⟨rfl, by simp⟩
        | succ j =>
          have e2' : p ∈ fp j := e2
          exact absurd e2' (hd j (h2 j j p e2' e2').2 p e1)
      | succ i =>
        have e1' : p ∈ fp i := e1
        cases j with
        | zero => exact absurd e1' (hd i (h2 i i p e1' e1').2 p e2)
        | succ j =>
          obtain ⟨z1, z2⟩ := h2 i j p e1 e2
          exact ⟨by rw [z1], by simpa using z2⟩
/-- anything that owns nothing comes on top -/
theorem EnvR.pushS (E : EnvR c F H σ Γ) {x : Option V} {s : Sl} (h : SlR c F H x [] s) : EnvR c F H (x :: σ) (s :: Γ) := E.pushF h fun fp _ i _ a ha => by cases ha
/-- a value of known data comes on top -/
theorem EnvR.push (E : EnvR c F H σ Γ) {d : D} {v : V} (h : Dat F d v) : EnvR c F H (some v :: σ) (.im d :: Γ) := E.pushS ⟨rfl, v, rfl, h⟩
/-- any value, nothing of it -/
theorem EnvR.pushAny (E : EnvR c F H σ Γ) (x : Option V) : EnvR c F H (x :: σ) (.any :: Γ) := E.pushS rfl
/-- a new own object comes on top -/
theorem EnvR.pushOwn (E : EnvR c F H σ Γ) {d : D} {p : Addr} {o : HO} (hp : H p = none) (h : Own F (upd H p o) p d) : EnvR c F (upd H p o) (some (.ref p) :: σ) (.own d :: Γ) := by
  have hpW : p ∉ c.W := fun w => E.wne w hp
  have hF : F p = none := E.ex.back hp
  have E1 : EnvR c F (upd H p o) σ Γ := E.step (Gr.refl F H) (E.ex.mut hF) (fun a u ha _ => by rw [upd_ne (ne_of_none ha hp)]; exact ha)
    (c.stab H _ (fun a w => upd_ne (fun z => hpW (by rw [← z]; exact w))) (extx_new hp) E.hk)
  have h0 : c.H0 p = none := by
    cases q : c.H0 p with
    | none => rfl
    | some u =>
      rw [E.fr p u q hpW] at hp
      cases hp
  obtain ⟨fp, h1, h2⟩ := E.sl
  have hl := E.len
  -- the footprints are those that stood
  refine { len := by simp [E1.len], ex0 := E1.ex0, ex := E1.ex, gr := E1.gr, fr := E1.fr, nw := E1.nw, hk := E1.hk, sl := ?_ }
  refine ⟨fun n => match n with | 0 => [p] | n + 1 => fp n, fun i t hs => ?_, fun i j q e1 e2 => ?_⟩
  · cases i with
    | zero =>
      have e : t = .own d := by simpa using hs.symm
      subst e
      exact ⟨some (.ref p), rfl, p, rfl, rfl, h, hF, hpW, h0⟩
    | succ i =>
      obtain ⟨x, hx, r⟩ := h1 i t (by simpa using hs)
      exact ⟨x, by simpa using hx, r.mono (Ex.refl F) (fun a hn _ _ => upd_ne fun z => hn (by rw [z]; exact hp)) fun a ha => (r.own ha).2.1⟩
  · have fresh : ∀ i, p ∉ fp i := fun i ha => by
      obtain ⟨_, hi⟩ := h2 i i p ha ha
      obtain ⟨x, _, r⟩ := h1 i Γ[i] (by simp [hi])
      exact (r.own ha).1 hp
    cases i with
    | zero =>
      have e1' : q = p := List.mem_singleton.mp e1
      cases j with
      | zero => exact ⟨rfl, by simp⟩
      | succ j =>
        have e2' : q ∈ fp j := e2
        rw [e1'] at e2'
        exact absurd e2' (fresh j)
    | succ i =>
      have e1' : q ∈ fp i := e1
      cases j with
      | zero =>
        have e2' : q = p := List.mem_singleton.mp e2
        rw [e2'] at e1'
        exact absurd e1' (fresh i)
      | succ j =>
        obtain ⟨z1, z2⟩ := h2 i j q e1 e2
        exact ⟨by rw [z1], by simpa using z2⟩
/-- a new tuple comes on top -/
theorem EnvR.pushTup (E : EnvR c F H σ Γ) {l : List D} {vs : List V} {p : Addr} (hp : H p = none) (h : Dats F l vs) : EnvR c (upd F p (.tup vs)) (upd H p (.tup vs)) (some (.ref p) :: σ) (.im (.tup l) :: Γ) := by
  have hpW : p ∉ c.W := fun w => E.wne w hp
  have hF : F p = none := E.ex.back hp
  have E1 : EnvR c (upd F p (.tup vs)) (upd H p (.tup vs)) σ Γ := E.step ⟨Ex.new hF, fun a u ha => by
      by_cases q : a = p
      · exact .inr (by rw [q]; exact hp)
      · rw [upd_ne q] at ha
        exact .inl ha⟩ E.ex.upd (fun a u ha _ => by rw [upd_ne (ne_of_none ha hp)]; exact ha)
    (c.stab H _ (fun a w => upd_ne (fun z => hpW (by rw [← z]; exact w))) (extx_new hp) E.hk)
  exact E1.push (d := .tup l) ⟨p, vs, rfl, upd_same, h.mono (Ex.new hF)⟩
/-- the top goes -/
theorem EnvR.pop {x : Option V} {s : Sl} (E : EnvR c F H (x :: σ) (s :: Γ)) : EnvR c F H σ Γ where
  len := by simpa using E.len
  ex0 := E.ex0
  ex := E.ex
  gr := E.gr
  fr := E.fr
  nw := E.nw
  hk := E.hk
  sl := by
    obtain ⟨fp, h1, h2⟩ := E.sl
    have h1' : ∀ (i : Nat) (s : Sl), Γ[i]? = some s → ∃ x, σ[i]? = some x ∧ SlR c F H x (fp (i + 1)) s := fun i s hs => by
      obtain ⟨x, hx, r⟩ := h1 (i + 1) s (by simpa using hs)
      exact ⟨x, by simpa using hx, r⟩
    refine ⟨fun n => fp (n + 1), h1', fun i j p e1 e2 => ?_⟩
    obtain ⟨z1, z2⟩ := h2 (i + 1) (j + 1) p e1 e2
    exact ⟨by omega, by simpa using z2⟩
theorem EnvR.get (E : EnvR c F H σ Γ) {i : Nat} {s : Sl} (h : Γ[i]? = some s) : ∃ x o, σ[i]? = some x ∧ SlR c F H x o s := by
  obtain ⟨fp, h1, _⟩ := E.sl
  obtain ⟨x, hx, r⟩ := h1 i s h
  exact ⟨x, fp i, hx, r⟩
theorem EnvR.im (E : EnvR c F H σ Γ) {i : Nat} {d : D} (h : Γ[i]? = some (.im d)) : ∃ v, σ[i]? = some (some v) ∧ Dat F d v := by
  obtain ⟨x, o, hx, _, v, hv, r⟩ := E.get h
  exact ⟨v, by rw [hx, hv], r⟩
theorem EnvR.own (E : EnvR c F H σ Γ) {i : Nat} {d : D} (h : Γ[i]? = some (.own d)) : ∃ p, σ[i]? = some (some (.ref p)) ∧ Own F H p d ∧ F p = none ∧ p ∉ c.W ∧ c.H0 p = none := by
  obtain ⟨x, o, hx, p, _, hv, r⟩ := E.get h
  exact ⟨p, by rw [hx, hv], r⟩
theorem EnvR.hand (E : EnvR c F H σ Γ) {i : Nat} (h : Γ[i]? = some .hand) : σ[i]? = some (some (.ref c.hp)) := by
  obtain ⟨x, o, hx, _, hv⟩ := E.get h
  rw [hx, hv]
/-- no looks left -/
def NV (Γ : List Sl) : Prop := ∀ s ∈ Γ, isv s = false
theorem NV.nil : NV [] := fun _ h => by cases h
theorem NV.cons {s : Sl} (h1 : isv s = false) (h : NV Γ) : NV (s :: Γ) := fun t ht => by
  rcases List.mem_cons.mp ht with z | z
  · rw [z]
    exact h1
  · exact h t z
theorem NV.set {i : Nat} {s : Sl} (h1 : isv s = false) (h : NV Γ) : NV (Γ.set i s) := fun t ht => by
  rcases List.mem_or_eq_of_mem_set ht with z | z
  · exact h t z
  · rw [z]
    exact h1
theorem nv_of {r : Sl} (h : isv r = false) : isv r = false := h
/-- the top's value goes into a slot -/
theorem EnvR.store {x : Option V} {s : Sl} {i : Nat} (E : EnvR c F H (x :: σ) (s :: Γ)) (hi : i < Γ.length) : EnvR c F H (σ.set i x) (Γ.set i s) where
  len := by
    have := E.len
    simpa using this
  ex0 := E.ex0
  ex := E.ex
  gr := E.gr
  fr := E.fr
  nw := E.nw
  hk := E.hk
  sl := by
    obtain ⟨fp, h1, h2⟩ := E.sl
    have hl : σ.length = Γ.length := by simpa using E.len
    refine ⟨fun n => if n = i then fp 0 else fp (n + 1), fun j t ht => ?_, fun j k p e1 e2 => ?_⟩
    · by_cases q : j = i
      · subst q
        rw [List.getElem?_set_self hi] at ht
        cases ht
        obtain ⟨y, hy, r⟩ := h1 0 s rfl
        have ey : x = y := by simpa using hy
        subst ey
        refine ⟨x, List.getElem?_set_self (by omega), ?_⟩
        dsimp only
        rw [if_pos rfl]
        exact r
      · rw [List.getElem?_set_ne (Ne.symm q)] at ht
        obtain ⟨y, hy, r⟩ := h1 (j + 1) t (by simpa using ht)
        refine ⟨y, by rw [List.getElem?_set_ne (Ne.symm q)]; simpa using hy, ?_⟩
        dsimp only
        rw [if_neg q]
        exact r
    · have e1 : p ∈ (if j = i then fp 0 else fp (j + 1)) := e1
      have e2 : p ∈ (if k = i then fp 0 else fp (k + 1)) := e2
      rw [List.length_set]
      by_cases q : j = i
      · rw [if_pos q] at e1
        by_cases q' : k = i
        · exact ⟨by rw [q, q'], by rw [q]; exact hi⟩
        · rw [if_neg q'] at e2
          have z := (h2 0 (k + 1) p e1 e2).1
          omega
      · rw [if_neg q] at e1
        by_cases q' : k = i
        · rw [if_pos q'] at e2
          have z := (h2 (j + 1) 0 p e1 e2).1
          omega
        · rw [if_neg q'] at e2
          obtain ⟨z1, z2⟩ := h2 (j + 1) (k + 1) p e1 e2
          exact ⟨by omega, by simpa using z2⟩
/-- a slot is forgotten -/
theorem EnvR.forget {i : Nat} (E : EnvR c F H σ Γ) (hi : i < Γ.length) (x : Option V) : EnvR c F H (σ.set i x) (Γ.set i .any) := (E.pushAny x).store hi
/-- a slot's value as it stands, what is known of it forgotten -/
theorem EnvR.weaken {i : Nat} (E : EnvR c F H σ Γ) (hi : i < Γ.length) : EnvR c F H σ (Γ.set i .any) := by
  have hl : i < σ.length := by rw [E.len]; exact hi
  have h := E.forget hi (σ[i]'hl)
  rw [List.set_getElem_self] at h
  exact h
/-- what a slot owns becomes known, to the last; what is known of the slot changes with it -/
theorem EnvR.know {i : Nat} {s t : Sl} {G : Hp} (E : EnvR c F H σ Γ) (h : Γ[i]? = some s) (eF : Ex F G) (eG : Ex G H)
    (hn : ∀ (x : Option V) (fp : List Addr), σ[i]? = some x → SlR c F H x fp s → (∀ a o, G a = some o → F a = some o ∨ a ∈ fp) ∧ SlR c G H x [] t) : EnvR c G H σ (Γ.set i t) := by
  have hi : i < Γ.length := (List.getElem?_eq_some_iff.mp h).1
  obtain ⟨fp, h1, h2⟩ := E.sl
  obtain ⟨x0, hx0, r0⟩ := h1 i s h
  obtain ⟨g1, g2⟩ := hn x0 (fp i) hx0 r0
  exact {
    len := by rw [List.length_set]; exact E.len
    ex0 := E.ex0.trans eF
    ex := eG
    gr := fun a o ha => by
      rcases g1 a o ha with z | z
      · exact E.gr a o z
      · exact .inr (r0.own z).2.2.2
    fr := E.fr
    nw := fun a w => by
      cases q : G a with
      | none => rfl
      | some o =>
        rcases g1 a o q with z | z
        · rw [E.nw a w] at z
          cases z
        · exact absurd w (r0.own z).2.2.1
    hk := E.hk
    sl := by
      refine ⟨fun n => if n = i then [] else fp n, fun j u hu => ?_, fun j k q e1 e2 => ?_⟩
      · by_cases q : j = i
        · subst q
          rw [List.getElem?_set_self hi] at hu
          cases hu
          refine ⟨x0, hx0, ?_⟩
          dsimp only
          rw [if_pos rfl]
          exact g2
        · rw [List.getElem?_set_ne (Ne.symm q)] at hu
          obtain ⟨y, hy, r⟩ := h1 j u hu
          refine ⟨y, hy, ?_⟩
          dsimp only
          rw [if_neg q]
          refine r.mono eF (fun a _ _ _ => rfl) fun a ha => ?_
          cases z : G a with
          | none => rfl
          | some o =>
            rcases g1 a o z with z' | z'
            · rw [(r.own ha).2.1] at z'
              cases z'
            · exact absurd (h2 j i a ha z').1 q
      · have e1 : q ∈ (if j = i then [] else fp j) := e1
        have e2 : q ∈ (if k = i then [] else fp k) := e2
        rw [List.length_set]
        by_cases z : j = i
        · rw [if_pos z] at e1
          cases e1
        · rw [if_neg z] at e1
          by_cases z' : k = i
          · rw [if_pos z'] at e2
            cases e2
          · rw [if_neg z'] at e2
            exact h2 j k q e1 e2 }
/-- an own object is from now on known: it will not change -/
theorem EnvR.freeze {i : Nat} {d : D} (E : EnvR c F H σ Γ) (h : Γ[i]? = some (.own d)) : ∃ F', EnvR c F' H σ (Γ.set i (.im d)) := by
  obtain ⟨p, hp, ho, hF, hW, h0⟩ := E.own h
  obtain ⟨o, eo, mo⟩ := ho.some
  have dat : Dat (upd F p o) d (.ref p) := by
    cases d with
    | lst l =>
      obtain ⟨vs, h1, h2⟩ := ho
      rw [eo] at h1
      refine ⟨p, vs, rfl, by rw [upd_same, h1], h2.mono (Ex.new hF)⟩
    | dct ks l =>
      obtain ⟨vs, h1, h3, h2⟩ := ho
      rw [eo] at h1
      exact ⟨p, vs, rfl, by rw [upd_same, h1], h3, h2.mono (Ex.new hF)⟩
    | non => exact ho.elim
    | bl => exact ho.elim
    | int => exact ho.elim
    | str => exact ho.elim
    | tup => exact ho.elim
  refine ⟨upd F p o, E.know h (Ex.new hF) (fun a u ha => ?_) fun x fp hx r => ?_⟩
  · by_cases q : a = p
    · rw [q, upd_same] at ha
      rw [q, eo]
      exact ha
    · rw [upd_ne q] at ha
      exact E.ex a u ha
  · obtain ⟨q, r1, r2, _⟩ := r
    rw [hp] at hx
    rw [← Option.some.inj hx] at r2
    cases r2
    subst r1
    rw [← Option.some.inj hx]
    refine ⟨fun a u ha => ?_, rfl, .ref p, rfl, dat⟩
    by_cases z : a = p
    · exact .inr (by rw [z]; exact List.mem_cons_self ..)
    · rw [upd_ne z] at ha
      exact .inl ha
/-- what a slot owns is written, and may have more and less to it -/
theorem EnvR.writeF {i : Nat} {s t : Sl} {p : Addr} {o : HO} (E : EnvR c F H σ Γ) (nv : NV Γ) (h : Γ[i]? = some s)
    (hn : ∀ (x : Option V) (fp : List Addr), σ[i]? = some x → SlR c F H x fp s → p ∈ fp ∧ ∃ fp', (∀ a ∈ fp', a ∈ fp) ∧ SlR c F (upd H p o) x fp' t) : EnvR c F (upd H p o) σ (Γ.set i t) := by
  have hi : i < Γ.length := (List.getElem?_eq_some_iff.mp h).1
  obtain ⟨fp, h1, h2⟩ := E.sl
  obtain ⟨x0, hx0, r0⟩ := h1 i s h
  obtain ⟨hp, f0, g1, g2⟩ := hn x0 (fp i) hx0 r0
  obtain ⟨o1, hF, hW, h0⟩ := r0.own hp
  exact {
    len := by rw [List.length_set]; exact E.len
    ex0 := E.ex0
    ex := E.ex.mut hF
    gr := E.gr
    fr := fun a u ha w => by
      rw [upd_ne (fun z => ?_)]
      · exact E.fr a u ha w
      · rw [z, h0] at ha
        cases ha
    nw := E.nw
    hk := c.stab H _ (fun a w => upd_ne (fun z => hW (by rw [← z]; exact w))) (extx_mut (r0.noExt hp)) E.hk
    sl := by
      refine ⟨fun n => if n = i then f0 else fp n, fun j u hu => ?_, fun j k q e1 e2 => ?_⟩
      · by_cases q : j = i
        · subst q
          rw [List.getElem?_set_self hi] at hu
          cases hu
          refine ⟨x0, hx0, ?_⟩
          dsimp only
          rw [if_pos rfl]
          exact g2
        · rw [List.getElem?_set_ne (Ne.symm q)] at hu
          obtain ⟨y, hy, r⟩ := h1 j u hu
          refine ⟨y, hy, ?_⟩
          dsimp only
          rw [if_neg q]
          refine r.mono (Ex.refl F) (fun a _ _ z => upd_ne fun e => ?_) fun a ha => (r.own ha).2.1
          subst e
          rcases z with z | z
          · exact q (h2 j i a z hp).1
          · rw [nv u (List.mem_of_getElem? hu)] at z
            cases z
      · have e1 : q ∈ (if j = i then f0 else fp j) := e1
        have e2 : q ∈ (if k = i then f0 else fp k) := e2
        rw [List.length_set]
        have in' : ∀ n, q ∈ (if n = i then f0 else fp n) → q ∈ fp n := fun n z => by
          by_cases y : n = i
          · rw [if_pos y] at z
            rw [y]
            exact g1 q z
          · rw [if_neg y] at z
            exact z
        exact h2 j k q (in' j e1) (in' k e2) }
/-- an own object's content changes -/
theorem EnvR.write {i : Nat} {d d' : D} {p : Addr} {o : HO} (E : EnvR c F H σ Γ) (nv : NV Γ) (h : Γ[i]? = some (.own d)) (hp : σ[i]? = some (some (.ref p))) (h' : Own F (upd H p o) p d') :
    EnvR c F (upd H p o) σ (Γ.set i (.own d')) := E.writeF nv h fun x fp hx r => by
  obtain ⟨q, r1, r2, r3, r4⟩ := r
  rw [hp] at hx
  rw [← Option.some.inj hx] at r2 ⊢
  cases r2
  subst r1
  exact ⟨List.mem_cons_self .., [p], fun a z => z, p, rfl, rfl, h', r4⟩
end
/-- known from now on -/
def frz : Sl → Sl
  | .own d => .im d
  | s => s
theorem EnvR.frzTop {c : C0} {F H : Hp} {σ : L2.St} {Γ : List Sl} {x : Option V} {s : Sl} (E : EnvR c F H (x :: σ) (s :: Γ)) : ∃ F', EnvR c F' H (x :: σ) (frz s :: Γ) := by
  cases s with
  | own d => exact E.freeze (i := 0) rfl
  | any => exact ⟨F, E⟩
  | im d => exact ⟨F, E⟩
  | vw d => exact ⟨F, E⟩
  | hand => exact ⟨F, E⟩
  | deep v o => exact ⟨F, E⟩
  | vo v π o => exact ⟨F, E⟩
end DL

set_option Elab.async false
set_option linter.all false
set_option maxRecDepth 100000
set_option maxHeartbeats 2000000
/-! DL2: expressions, tests, calls, by what is known of the slots -/
namespace DL
open PySem PySem.Spec L2
section
variable {c : C0} {F H F' H' : Hp} {σ : L2.St} {Γ : List Sl}
/-- what a name's slot gives when it is read -/
def see : Sl → Option Sl
  | .im d => some (.im d)
  | .own d => some (.vw d)
  | .vw d => some (.vw d)
  | .hand => some .hand
  | .deep v o => some (.vo v [] o)
  | .vo v π o => some (.vo v π o)
  | _ => none
theorem EnvR.see (E : EnvR c F H σ Γ) {i : Nat} {s r : Sl} (h : Γ[i]? = some s) (hs : DL.see s = some r) : ∃ v, σ[i]? = some (some v) ∧ SlR c F H (some v) [] r := by
  cases s with
  | any => cases hs
  | vw d =>
    cases hs
    obtain ⟨x, o, hx, h1, p, hp, h2⟩ := E.get h
    exact ⟨.ref p, by rw [hx, hp], rfl, p, rfl, h2⟩
  | im d =>
    cases hs
    obtain ⟨v, h1, h2⟩ := E.im h
    exact ⟨v, h1, rfl, v, rfl, h2⟩
  | own d =>
    cases hs
    obtain ⟨p, h1, h2, h3, h4, h5⟩ := E.own h
    exact ⟨.ref p, h1, rfl, p, rfl, h2, h4⟩
  | hand =>
    cases hs
    exact ⟨.ref c.hp, E.hand h, rfl, rfl⟩
  | vo v π o =>
    cases hs
    obtain ⟨x, f, hx, h1, w, fq, hv, h2⟩ := E.get h
    exact ⟨w, by rw [hx, hv], rfl, w, fq, rfl, h2⟩
  | deep v o =>
    cases hs
    obtain ⟨x, f, hx, hv, h2, _, h3⟩ := E.get h
    exact ⟨v, by rw [hx, hv], rfl, v, f, rfl, rfl, h2, fun a ha => (h3 a ha).2.1⟩
end

/-! ### the weakest readings -/
def WE (X : Cx) (e : Expr) : TE := fun σ H Q => ∀ (pins : List (Addr × Obj)) (s : Shared), Inv X pins σ H s → wpAny (model X.prog X.w) X.A (eval e X.env) (EP X pins σ Q) X.xe s
def WT (X : Cx) (e : Expr) : TT := fun σ H Q => ∀ (pins : List (Addr × Obj)) (s : Shared), Inv X pins σ H s → wpAny (model X.prog X.w) X.A (isTrue e X.env (eval e X.env)) (TP X pins σ Q) X.xe s
def WW (X : Cx) (e : Expr) : TT := fun σ H Q => ∀ (whole : Sem Value) (pins : List (Addr × Obj)) (s : Shared), Inv X pins σ H s → wpAny (model X.prog X.w) X.A (isTrue e X.env whole) (TP X pins σ Q) X.xe s
def WA (X : Cx) (es : List Expr) : TA := fun σ H Q => ∀ (pos : Pos) (pins : List (Addr × Obj)) (s : Shared), Inv X pins σ H s → wpAny (model X.prog X.w) X.A (spliced (backTo pos (starEach es X.env))) (AP X pins σ Q) X.xe s
section
variable {X : Cx} {e : Expr} {es : List Expr}
theorem pe_we : PE X e (WE X e) := ⟨fun pins s σ H Q I h => h pins s I⟩
theorem pt_wt : PT X e (WT X e) := ⟨fun pins s σ H Q I h => h pins s I⟩
theorem pw_ww : PW X e (WW X e) := ⟨fun wh pins s σ H Q I h => h wh pins s I⟩
theorem pa_wa : PA X es (WA X es) := ⟨fun pos pins s σ H Q I h => h pos pins s I⟩
theorem we_of {t : TE} (h : PE X e t) {σ : L2.St} {H : Hp} {Q : VK} (q : t σ H Q) : WE X e σ H Q := fun pins s I => h.run pins s σ H Q I q
theorem wt_of {t : TT} (h : PT X e t) {σ : L2.St} {H : Hp} {Q : Bool → Hp → Prop} (q : t σ H Q) : WT X e σ H Q := fun pins s I => h.run pins s σ H Q I q
theorem ww_of {t : TT} (h : PW X e t) {σ : L2.St} {H : Hp} {Q : Bool → Hp → Prop} (q : t σ H Q) : WW X e σ H Q := fun wh pins s I => h.run wh pins s σ H Q I q
theorem wa_of {t : TA} (h : PA X es t) {σ : L2.St} {H : Hp} {Q : List V → Hp → Prop} (q : t σ H Q) : WA X es σ H Q := fun pos pins s I => h.run pos pins s σ H Q I q
end
/-- a two-place operation, its weakest reading -/
def RW (X : Cx) (f : Value → Value → Sem Value) : R2 := fun x y H Q => ∀ (pins : List (Addr × Obj)) (s : Shared) (σ : L2.St) (u w : Value), Inv X pins σ H s → RelV x u → RelV y w → wpAny (model X.prog X.w) X.A (f u w) (EP X pins σ Q) X.xe s
theorem opr_rw {X : Cx} {f : Value → Value → Sem Value} : OpR X f (RW X f) := fun pins s σ H x y v u Q I rx ry q => q pins s σ v u I rx ry
def UW (X : Cx) (f : Value → Sem Value) : V → Hp → VK → Prop := fun x H Q => ∀ (pins : List (Addr × Obj)) (s : Shared) (σ : L2.St) (u : Value), Inv X pins σ H s → RelV x u → wpAny (model X.prog X.w) X.A (f u) (EP X pins σ Q) X.xe s
theorem unr_uw {X : Cx} {f : Value → Sem Value} : UnR X f (UW X f) := fun pins s σ H x v Q I rx q => q pins s σ v I rx
def CW (X : Cx) (f : Value) : List V → Hp → VK → Prop := fun xs H Q => ∀ (pins : List (Addr × Obj)) (s : Shared) (σ : L2.St) (us : List Value), Inv X pins σ H s → Vals xs us → wpAny (model X.prog X.w) X.A (call f us) (EP X pins σ Q) X.xe s
theorem callr_cw {X : Cx} {f : Value} : CallR X f (CW X f) := fun pins s σ H xs us Q I r q => q pins s σ us I r
def IW (X : Cx) : R2 := fun x y H Q => ∀ (value slice : Expr) (pins : List (Addr × Obj)) (s : Shared) (σ : L2.St) (v u : Value), Inv X pins σ H s → RelV x v → RelV y u → subscripted slice false v u = operate [v, u] (getItem v u) → wpAny (model X.prog X.w) X.A (PyProof.Rows.subscriptTail value slice v u) (EP X pins σ Q) X.xe s
theorem ixr_iw {X : Cx} : IxR X (IW X) := fun value slice pins s σ H x y v u Q I rx ry q hs => q value slice pins s σ v u I rx ry hs

/-! ### what a piece is worth -/
def WPe (X : Cx) (c : C0) (e : Expr) (Γ : List Sl) (K : Sl → Prop) : Prop :=
  ∀ (F H : Hp) (stk : L2.St) (S : List Sl) (σ : L2.St), stk.length = S.length → EnvR c F H (stk ++ σ) (S ++ Γ) → ∀ Q : VK,
    (∀ v r F' H', K r → EnvR c F' H' (some v :: (stk ++ σ)) (r :: (S ++ Γ)) → Q v H') → WE X e σ H Q
def WPt (X : Cx) (c : C0) (e : Expr) (Γ : List Sl) (K : Bool → Prop) : Prop :=
  ∀ (F H : Hp) (stk : L2.St) (S : List Sl) (σ : L2.St), stk.length = S.length → EnvR c F H (stk ++ σ) (S ++ Γ) → ∀ Q : Bool → Hp → Prop,
    (∀ b F' H', K b → EnvR c F' H' (stk ++ σ) (S ++ Γ) → Q b H') → WT X e σ H Q
def WPw (X : Cx) (c : C0) (e : Expr) (Γ : List Sl) (K : Bool → Prop) : Prop :=
  ∀ (F H : Hp) (stk : L2.St) (S : List Sl) (σ : L2.St), stk.length = S.length → EnvR c F H (stk ++ σ) (S ++ Γ) → ∀ Q : Bool → Hp → Prop,
    (∀ b F' H', K b → EnvR c F' H' (stk ++ σ) (S ++ Γ) → Q b H') → WW X e σ H Q
/-- arguments, from the left; own ones are known from then on -/
def WPa (X : Cx) (c : C0) (es : List Expr) (Γ : List Sl) (K : List Sl → Prop) : Prop :=
  ∀ (F H : Hp) (stk : L2.St) (S : List Sl) (σ : L2.St), stk.length = S.length → EnvR c F H (stk ++ σ) (S ++ Γ) → ∀ Q : List V → Hp → Prop,
    (∀ vs rs F' H', K rs → vs.length = rs.length → EnvR c F' H' (vs.reverse.map some ++ (stk ++ σ)) (rs.reverse ++ (S ++ Γ)) → Q vs H') → WA X es σ H Q
def OpD (X : Cx) (c : C0) (f : Value → Value → Sem Value) (ra rb : Sl) (K : Sl → Prop) : Prop :=
  ∀ (F H : Hp) (L : L2.St) (G : List Sl) (x y : V), EnvR c F H (some y :: some x :: L) (rb :: ra :: G) → ∀ Q : VK,
    (∀ v r F' H', K r → EnvR c F' H' (some v :: L) (r :: G) → Q v H') → RW X f x y H Q
def UnD (X : Cx) (c : C0) (f : Value → Sem Value) (ra : Sl) (K : Sl → Prop) : Prop :=
  ∀ (F H : Hp) (L : L2.St) (G : List Sl) (x : V), EnvR c F H (some x :: L) (ra :: G) → ∀ Q : VK,
    (∀ v r F' H', K r → EnvR c F' H' (some v :: L) (r :: G) → Q v H') → UW X f x H Q
def IxD (X : Cx) (c : C0) (ra rb : Sl) (K : Sl → Prop) : Prop :=
  ∀ (F H : Hp) (L : L2.St) (G : List Sl) (x y : V), EnvR c F H (some y :: some x :: L) (rb :: ra :: G) → ∀ Q : VK,
    (∀ v r F' H', K r → EnvR c F' H' (some v :: L) (r :: G) → Q v H') → IW X x y H Q
def CallD (X : Cx) (c : C0) (f : Value) (rs : List Sl) (K : Sl → Prop) : Prop :=
  ∀ (F H : Hp) (L : L2.St) (G : List Sl) (vs : List V), vs.length = rs.length → EnvR c F H (vs.reverse.map some ++ L) (rs.reverse ++ G) → ∀ Q : VK,
    (∀ v r F' H', K r → EnvR c F' H' (some v :: L) (r :: G) → Q v H') → CW X f vs H Q

section
variable {X : Cx} {c : C0} {Γ : List Sl} {K : Sl → Prop} {KB : Bool → Prop} {a b e : Expr} {es : List Expr} {pos : Pos}
theorem WPe.mono {K' : Sl → Prop} (h : WPe X c e Γ K) (k : ∀ r, K r → K' r) : WPe X c e Γ K' := fun F H stk S σ hl E Q q => h F H stk S σ hl E Q fun v r F' H' kr => q v r F' H' (k r kr)
theorem WPt.mono {K' : Bool → Prop} (h : WPt X c e Γ KB) (k : ∀ r, KB r → K' r) : WPt X c e Γ K' := fun F H stk S σ hl E Q q => h F H stk S σ hl E Q fun b F' H' kr => q b F' H' (k b kr)
/-- a value of known data, that changes nothing -/
theorem wp_pure {t : TE} {d : D} {v : V} (h : PE X e t) (hd : ∀ F, Dat F d v) (ht : ∀ σ H (Q : VK), Q v H → t σ H Q) (k : K (.im d)) : WPe X c e Γ K := fun F H stk S σ hl E Q q =>
  we_of h (ht σ H Q (q v (.im d) F H k (E.push (hd F))))
theorem wp_int {i : Int} {j} (k : K (.im (.int i))) : WPe X c (.Constant (.int i) j pos) Γ K := wp_pure (d := .int i) (v := .int i) pe_int (fun _ => rfl) (fun _ _ _ q => q) k
theorem wp_bl {i : Bool} {j} (k : K (.im (.bl i))) : WPe X c (.Constant (.bool i) j pos) Γ K := wp_pure (d := .bl i) (v := .bl i) pe_bl (fun _ => rfl) (fun _ _ _ q => q) k
theorem wp_str {i : Str} {j} (k : K (.im (.str i))) : WPe X c (.Constant (.str i) j pos) Γ K := wp_pure (d := .str i) (v := .str i) pe_str (fun _ => rfl) (fun _ _ _ q => q) k
theorem wp_non {j} (k : K (.im .non)) : WPe X c (.Constant .none j pos) Γ K := wp_pure (d := .non) (v := .non) pe_non (fun _ => rfl) (fun _ _ _ q => q) k
/-- a module's text -/
theorem wp_gstr {x : Str} {s : Str} {t : Tok} (hg : Gl X x) (hm : X.mg x = some (.str s t)) (k : K (.im (.str s))) (hd : (x == ("__debug__" : Str)) = false := by decide) : WPe X c (.Name x pos) Γ K :=
  wp_pure (d := .str s) (v := .str s) (pe_glob (v := .str s) hg hm ⟨t, rfl⟩ hd) (fun _ => rfl) (fun _ _ _ q => q) k
theorem wp_gint {x : Str} {s : Int} {t : Tok} (hg : Gl X x) (hm : X.mg x = some (.int s t)) (k : K (.im (.int s))) (hd : (x == ("__debug__" : Str)) = false := by decide) : WPe X c (.Name x pos) Γ K :=
  wp_pure (d := .int s) (v := .int s) (pe_glob (v := .int s) hg hm ⟨t, rfl⟩ hd) (fun _ => rfl) (fun _ _ _ q => q) k
theorem shift {α : Type} {l m : List α} {n i : Nat} (h : l.length = n) : (l ++ m)[n + i]? = m[i]? := by
  rw [← h, List.getElem?_append_right (by omega)]
  congr 1
  omega
/-- a name in a slot -/
theorem wp_name (i : Nat) {x : Str} {s r : Sl} (h : Γ[i]? = some s) (hs : see s = some r) (k : K r) (hN : X.N[i]? = some x := by rfl)
    (hv : Vis X.env.scope x := by first | exact Or.inl rfl | exact Or.inr (Or.inl rfl) | exact Or.inr (Or.inr rfl)) (hd : (x == ("__debug__" : Str)) = false := by decide) (hcd : (x == ("__classdict__" : Str)) = false := by decide) :
    WPe X c (.Name x pos) Γ K := fun F H stk S σ hl E Q q => by
  have h' : (S ++ Γ)[S.length + i]? = some s := by rw [shift rfl]; exact h
  obtain ⟨v, h1, h2⟩ := E.see h' hs
  rw [shift hl] at h1
  exact we_of (pe_var hN hv hd hcd) ⟨v, h1, q v r F H k (E.pushS h2)⟩
theorem wp_binop {op : Operator} (h : WPe X c a Γ fun ra => WPe X c b Γ fun rb => OpD X c (binaryOp op) (frz ra) (frz rb) K) : WPe X c (.BinOp a op b pos) Γ K := fun F H stk S σ hl E Q q => by
  refine we_of (pe_op opr_rw pe_we pe_we) ?_
  refine h F H stk S σ hl E _ fun x ra F1 H1 k1 E1 => ?_
  obtain ⟨F1, E1⟩ := E1.frzTop
  refine k1 F1 H1 (some x :: stk) (frz ra :: S) σ (by simp [hl]) E1 _ fun y rb F2 H2 k2 E2 => ?_
  obtain ⟨F2, E2⟩ := E2.frzTop
  exact k2 F2 H2 _ _ x y E2 Q fun v r F' H' kr E' => q v r F' H' kr E'
theorem wp_unop {op : UnaryOp} (h : WPe X c a Γ fun ra => UnD X c (unaryOp op) (frz ra) K) : WPe X c (.UnaryOp op a pos) Γ K := fun F H stk S σ hl E Q q => by
  refine we_of (pe_un unr_uw pe_we) ?_
  refine h F H stk S σ hl E _ fun x ra F1 H1 k1 E1 => ?_
  obtain ⟨F1, E1⟩ := E1.frzTop
  exact k1 F1 H1 _ _ x E1 Q fun v r F' H' kr E' => q v r F' H' kr E'
theorem wp_cmp {op : CmpOp} (h : WPe X c a Γ fun ra => WPe X c b Γ fun rb => OpD X c (compareOp op) (frz ra) (frz rb) K) (hm : behindInMarks op b = false := by first | exact nobehind _ (by decide) (by decide) | rfl) : WPe X c (.Compare a [op] [b] pos) Γ K := fun F H stk S σ hl E Q q => by
  refine we_of (pe_cmpR opr_rw pe_we pe_we hm) ?_
  refine h F H stk S σ hl E _ fun x ra F1 H1 k1 E1 => ?_
  obtain ⟨F1, E1⟩ := E1.frzTop
  refine k1 F1 H1 (some x :: stk) (frz ra :: S) σ (by simp [hl]) E1 _ fun y rb F2 H2 k2 E2 => ?_
  obtain ⟨F2, E2⟩ := E2.frzTop
  exact k2 F2 H2 _ _ x y E2 Q fun v r F' H' kr E' => q v r F' H' kr E'
/-- x[i] -/
theorem wp_ix (h : WPe X c a Γ fun ra => WPe X c b Γ fun rb => IxD X c (frz ra) (frz rb) K) (hs : PlainIx b := by exact fun _ _ => rfl) : WPe X c (.Subscript a b pos) Γ K := fun F H stk S σ hl E Q q => by
  refine we_of (pe_ix ixr_iw pe_we pe_we hs) ?_
  refine h F H stk S σ hl E _ fun x ra F1 H1 k1 E1 => ?_
  obtain ⟨F1, E1⟩ := E1.frzTop
  refine k1 F1 H1 (some x :: stk) (frz ra :: S) σ (by simp [hl]) E1 _ fun y rb F2 H2 k2 E2 => ?_
  obtain ⟨F2, E2⟩ := E2.frzTop
  exact k2 F2 H2 _ _ x y E2 Q fun v r F' H' kr E' => q v r F' H' kr E'
theorem wpa_nil {KA : List Sl → Prop} (k : KA []) : WPa X c [] Γ KA := fun F H stk S σ hl E Q q => wa_of pa_nil (q [] [] F H k rfl E)
theorem wpa_cons {KA : List Sl → Prop} (h : WPe X c e Γ fun r => WPa X c es Γ fun rs => KA (frz r :: rs)) (hs : starEach (e :: es) X.env = (false, eval e X.env) :: starEach es X.env := by rfl) : WPa X c (e :: es) Γ KA := fun F H stk S σ hl E Q q => by
  refine wa_of (pa_cons pe_we pa_wa hs) ?_
  refine h F H stk S σ hl E _ fun x r F1 H1 k1 E1 => ?_
  obtain ⟨F1, E1⟩ := E1.frzTop
  refine k1 F1 H1 (some x :: stk) (frz r :: S) σ (by simp [hl]) E1 _ fun vs rs F2 H2 k2 hl2 E2 => ?_
  refine q (x :: vs) (frz r :: rs) F2 H2 k2 (by simp [hl2]) ?_
  simpa [List.append_assoc] using E2
/-- a built-in by its name -/
theorem wp_callB {x : Str} {id : String} {p : Pos} (hm : X.mg x = none) (hv : bootBuiltins x = some (.builtin id)) (h : WPa X c (e :: es) Γ fun rs => CallD X c (.builtin id) rs K) (hg : Gl X x := by rfl) (hn : x ≠ "__name__" := by decide) (hdb : (x == ("__debug__" : Str)) = false := by decide)
    (he : starEach (e :: es) X.env = (false, eval e X.env) :: starEach es X.env := by rfl) (hpl : (backTo pos (starEach es X.env)).any (·.1) = false := by rfl) : WPe X c (.Call (.Name x p) (e :: es) [] pos) Γ K := fun F H stk S σ hl E Q q => by
  refine we_of (pe_callB callr_cw hg hm hv pa_wa hn hdb he hpl) ?_
  exact h F H stk S σ hl E _ fun vs rs F1 H1 k1 hl1 E1 => k1 F1 H1 _ _ vs hl1 E1 Q fun v r F' H' kr E' => q v r F' H' kr E'
theorem wp_callTy {x : Str} {T : String} {p : Pos} (hm : X.mg x = none) (hv : bootBuiltins x = some (.type T)) (h : WPa X c (e :: es) Γ fun rs => CallD X c (.type T) rs K) (hg : Gl X x := by rfl) (hn : x ≠ "__name__" := by decide) (hdb : (x == ("__debug__" : Str)) = false := by decide)
    (he : starEach (e :: es) X.env = (false, eval e X.env) :: starEach es X.env := by rfl) (hpl : (backTo pos (starEach es X.env)).any (·.1) = false := by rfl) : WPe X c (.Call (.Name x p) (e :: es) [] pos) Γ K := fun F H stk S σ hl E Q q => by
  refine we_of (pe_callTy callr_cw hg hm hv pa_wa hn hdb he hpl) ?_
  exact h F H stk S σ hl E _ fun vs rs F1 H1 k1 hl1 E1 => k1 F1 H1 _ _ vs hl1 E1 Q fun v r F' H' kr E' => q v r F' H' kr E'
/-- a display -/
theorem EnvR.dats {F H : Hp} {L : L2.St} {G : List Sl} : ∀ {vs : List V} {ds : List D}, vs.length = ds.length → EnvR c F H (vs.reverse.map some ++ L) ((ds.map Sl.im).reverse ++ G) → EnvR c F H L G ∧ Dats F ds vs := by
  intro vs ds hl E
  have E0 : ∀ (n : Nat) (xs : L2.St) (ss : List Sl), xs.length = n → ss.length = n → EnvR c F H (xs ++ L) (ss ++ G) → EnvR c F H L G := by
    intro n
    induction n with
    | zero =>
      intro xs ss h1 h2 E
      rw [List.length_eq_zero_iff.mp h1, List.length_eq_zero_iff.mp h2] at E
      exact E
    | succ n ih =>
      intro xs ss h1 h2 E
      cases xs with
      | nil => simp at h1
      | cons x xs =>
        cases ss with
        | nil => simp at h2
        | cons s ss => exact ih xs ss (by simpa using h1) (by simpa using h2) E.pop
  refine ⟨E0 vs.length _ _ (by simp) (by simp [hl]) E, ?_⟩
  have key : ∀ i (d : D), ds[i]? = some d → ∃ v, vs[i]? = some v ∧ Dat F d v := fun i d hd => by
    have hi : i < ds.length := (List.getElem?_eq_some_iff.mp hd).1
    have hj : ds.length - 1 - i < ds.length := by omega
    have e1 : ((ds.map Sl.im).reverse ++ G)[ds.length - 1 - i]? = some (.im d) := by
      rw [List.getElem?_append_left (by simpa using hj), List.getElem?_reverse (by simpa using hj)]
      simp only [List.length_map]
      rw [show ds.length - 1 - (ds.length - 1 - i) = i by omega, List.getElem?_map, hd]
      rfl
    obtain ⟨v, hv, r⟩ := E.im e1
    refine ⟨v, ?_, r⟩
    rw [List.getElem?_append_left (by simpa [hl] using hj), List.getElem?_map, List.getElem?_reverse (by rw [hl]; exact hj)] at hv
    rw [show vs.length - 1 - (ds.length - 1 - i) = i by omega] at hv
    cases q : vs[i]? with
    | none =>
      rw [q] at hv
      cases hv
    | some u =>
      rw [q] at hv
      have : u = v := by simpa using hv
      rw [this]
  have gen : ∀ (ds : List D) (vs : List V), vs.length = ds.length → (∀ (i : Nat) (d : D), ds[i]? = some d → ∃ v, vs[i]? = some v ∧ Dat F d v) → Dats F ds vs := by
    intro ds
    induction ds with
    | nil =>
      intro vs h1 _
      exact List.length_eq_zero_iff.mp h1
    | cons d r ih =>
      intro vs h1 h2
      cases vs with
      | nil => simp at h1
      | cons v w =>
        obtain ⟨v', e', hd⟩ := h2 0 d rfl
        have ev : v = v' := by simpa using e'
        refine ⟨v, w, rfl, by rw [ev]; exact hd, ih w (by simpa using h1) fun i d' hd' => ?_⟩
        obtain ⟨u, e2, h3⟩ := h2 (i + 1) d' (by simpa using hd')
        exact ⟨u, by simpa using e2, h3⟩
  exact gen ds vs hl key
theorem wp_tup {x1} (h : WPa X c es Γ fun rs => ∃ ds, rs = ds.map Sl.im ∧ ds.length ≤ sizeLine ∧ K (.im (.tup ds))) : WPe X c (.Tuple es x1 pos) Γ K := fun F H stk S σ hl E Q q => by
  refine we_of (pe_tup pa_wa) ?_
  refine h F H stk S σ hl E _ fun vs rs F1 H1 k1 hl1 E1 => ?_
  obtain ⟨ds, e, hz, k⟩ := k1
  subst e
  have hl2 : vs.length = ds.length := by simpa using hl1
  obtain ⟨E2, hd⟩ := EnvR.dats hl2 E1
  exact ⟨by rw [hl2]; exact hz, fun p hp => q _ _ _ _ k (E2.pushTup hp hd)⟩
theorem wp_lst (h : WPa X c es Γ fun rs => ∃ ds, rs = ds.map Sl.im ∧ ds.length ≤ sizeLine ∧ K (.own (.lst ds))) : WPe X c (.List es pos) Γ K := fun F H stk S σ hl E Q q => by
  refine we_of (pe_lst pa_wa) ?_
  refine h F H stk S σ hl E _ fun vs rs F1 H1 k1 hl1 E1 => ?_
  obtain ⟨ds, e, hz, k⟩ := k1
  subst e
  have hl2 : vs.length = ds.length := by simpa using hl1
  obtain ⟨E2, hd⟩ := EnvR.dats hl2 E1
  exact ⟨by rw [hl2]; exact hz, fun p hp => q _ _ _ _ k (E2.pushOwn hp ⟨vs, upd_same, hd⟩)⟩

/-! ### tests -/
theorem wpt_val (h : WPe X c e Γ fun r => ∃ k, r = .im (.bl k) ∧ KB k) (he : ∀ whole, isTrue e X.env whole = (do let v ← whole; standAt e.pos; holding [v] (truthy v)) := by intro _; rfl) : WPt X c e Γ KB := fun F H stk S σ hl E Q q => by
  refine wt_of (pt_val pe_we he) ?_
  refine h F H stk S σ hl E _ fun x r F1 H1 k1 E1 => ?_
  obtain ⟨k, e, hk⟩ := k1
  subst e
  obtain ⟨v, hv, hd⟩ := E1.im (i := 0) rfl
  have e1 : x = v := by simpa using hv
  have e2 : v = .bl k := hd
  exact ⟨k, by rw [e1, e2], q k F1 H1 hk E1.pop⟩
theorem wpt_cmp {op : CmpOp} (h : WPe X c a Γ fun ra => WPe X c b Γ fun rb => OpD X c (compareOp op) (frz ra) (frz rb) fun r => ∃ k, r = .im (.bl k) ∧ KB k) (hm : behindInMarks op b = false := by first | exact nobehind _ (by decide) (by decide) | rfl) : WPt X c (.Compare a [op] [b] pos) Γ KB := fun F H stk S σ hl E Q q => by
  refine wt_of (pt_cmpR opr_rw pe_we pe_we hm) ?_
  refine h F H stk S σ hl E _ fun x ra F1 H1 k1 E1 => ?_
  obtain ⟨F1, E1⟩ := E1.frzTop
  refine k1 F1 H1 (some x :: stk) (frz ra :: S) σ (by simp [hl]) E1 _ fun y rb F2 H2 k2 E2 => ?_
  obtain ⟨F2, E2⟩ := E2.frzTop
  refine k2 F2 H2 _ _ x y E2 _ fun z r F3 H3 k3 E3 => ?_
  obtain ⟨k, e, hk⟩ := k3
  subst e
  obtain ⟨v, hv, hd⟩ := E3.im (i := 0) rfl
  have e1 : z = v := by simpa using hv
  have e2 : v = .bl k := hd
  exact ⟨k, by rw [e1, e2], q k F3 H3 hk E3.pop⟩
theorem wpw_and1 (h : WPt X c a Γ KB) : WPw X c (.BoolOp .And [a] pos) Γ KB := fun F H stk S σ hl E Q q => ww_of (pw_and1 pt_wt) (h F H stk S σ hl E Q q)
theorem wpw_or1 (h : WPt X c a Γ KB) : WPw X c (.BoolOp .Or [a] pos) Γ KB := fun F H stk S σ hl E Q q => ww_of (pw_or1 pt_wt) (h F H stk S σ hl E Q q)
theorem wpw_and {rest : List Expr} (h : WPt X c a Γ fun x => (x = true → WPw X c (.BoolOp .And (b :: rest) pos) Γ KB) ∧ (x = false → KB false)) : WPw X c (.BoolOp .And (a :: b :: rest) pos) Γ KB := fun F H stk S σ hl E Q q => by
  refine ww_of (pw_and pt_wt pw_ww) ?_
  refine h F H stk S σ hl E _ fun x F1 H1 k1 E1 => ?_
  cases x with
  | true => exact iteT (k1.1 rfl F1 H1 stk S σ hl E1 Q q)
  | false => exact iteF (q false F1 H1 (k1.2 rfl) E1)
theorem wpw_or {rest : List Expr} (h : WPt X c a Γ fun x => (x = true → KB true) ∧ (x = false → WPw X c (.BoolOp .Or (b :: rest) pos) Γ KB)) : WPw X c (.BoolOp .Or (a :: b :: rest) pos) Γ KB := fun F H stk S σ hl E Q q => by
  refine ww_of (pw_or pt_wt pw_ww) ?_
  refine h F H stk S σ hl E _ fun x F1 H1 k1 E1 => ?_
  cases x with
  | true => exact iteT (q true F1 H1 (k1.1 rfl) E1)
  | false => exact iteF (k1.2 rfl F1 H1 stk S σ hl E1 Q q)
theorem wpt_w (h : WPw X c e Γ KB) : WPt X c e Γ KB := fun F H stk S σ hl E Q q => wt_of pw_ww.pt (h F H stk S σ hl E Q q)
theorem wpt_not (h : WPt X c a Γ fun x => KB (!x)) : WPt X c (.UnaryOp .Not a pos) Γ KB := fun F H stk S σ hl E Q q => wt_of (pt_not pt_wt) (h F H stk S σ hl E _ fun x F1 H1 k1 E1 => q (!x) F1 H1 k1 E1)
theorem wp_ifExp {t : Expr} (h : WPt X c t Γ fun x => (x = true → WPe X c a Γ K) ∧ (x = false → WPe X c b Γ K)) : WPe X c (.IfExp t a b pos) Γ K := fun F H stk S σ hl E Q q => by
  refine we_of (pe_ifExp pt_wt pe_we pe_we) ?_
  refine h F H stk S σ hl E _ fun x F1 H1 k1 E1 => ?_
  cases x with
  | true => exact iteT (k1.1 rfl F1 H1 stk S σ hl E1 Q q)
  | false => exact iteF (k1.2 rfl F1 H1 stk S σ hl E1 Q q)
/-- and, or of truth values as a value -/
theorem top_bl {c : C0} {F H : Hp} {x : V} {k : Bool} {L : L2.St} {G : List Sl} (E : EnvR c F H (some x :: L) (.im (.bl k) :: G)) : x = .bl k := by
  obtain ⟨v, hv, hd⟩ := E.im (i := 0) rfl
  have e1 : x = v := by simpa using hv
  have e2 : v = .bl k := hd
  rw [e1, e2]
theorem wp_one {op} (h : WPe X c a Γ K) : WPe X c (.BoolOp op [a] pos) Γ K := fun F H stk S σ hl E Q q => we_of (pe_one pe_we) (h F H stk S σ hl E Q q)
theorem wp_and {rest : List Expr} (h : WPe X c a Γ fun r => ∃ k, r = .im (.bl k) ∧ (k = true → WPe X c (.BoolOp .And (b :: rest) pos) Γ K) ∧ (k = false → K (.im (.bl false)))) : WPe X c (.BoolOp .And (a :: b :: rest) pos) Γ K := fun F H stk S σ hl E Q q => by
  refine we_of (pe_and pe_we pe_we) ?_
  refine h F H stk S σ hl E _ fun x r F1 H1 k1 E1 => ?_
  obtain ⟨k, e, h1, h2⟩ := k1
  subst e
  refine ⟨k, top_bl E1, ?_⟩
  cases k with
  | true => exact iteT (h1 rfl F1 H1 stk S σ hl E1.pop Q q)
  | false => exact iteF (q _ _ F1 H1 (h2 rfl) (E1.pop.push rfl))
theorem wp_or {rest : List Expr} (h : WPe X c a Γ fun r => ∃ k, r = .im (.bl k) ∧ (k = true → K (.im (.bl true))) ∧ (k = false → WPe X c (.BoolOp .Or (b :: rest) pos) Γ K)) : WPe X c (.BoolOp .Or (a :: b :: rest) pos) Γ K := fun F H stk S σ hl E Q q => by
  refine we_of (pe_or pe_we pe_we) ?_
  refine h F H stk S σ hl E _ fun x r F1 H1 k1 E1 => ?_
  obtain ⟨k, e, h1, h2⟩ := k1
  subst e
  refine ⟨k, top_bl E1, ?_⟩
  cases k with
  | true => exact iteT (q _ _ F1 H1 (h1 rfl) (E1.pop.push rfl))
  | false => exact iteF (h2 rfl F1 H1 stk S σ hl E1.pop Q q)
theorem wp_not (h : WPe X c a Γ fun r => ∃ k, r = .im (.bl k) ∧ K (.im (.bl (!k)))) : WPe X c (.UnaryOp .Not a pos) Γ K := fun F H stk S σ hl E Q q => by
  refine we_of (pe_not pe_we) ?_
  refine h F H stk S σ hl E _ fun x r F1 H1 k1 E1 => ?_
  obtain ⟨k, e, h1⟩ := k1
  subst e
  exact ⟨k, top_bl E1, q _ _ F1 H1 h1 (E1.pop.push rfl)⟩
end
end DL

set_option Elab.async false
set_option linter.all false
set_option maxRecDepth 100000
set_option maxHeartbeats 2000000
/-! DL3: statements, loops, defs -/
namespace DL
open PySem PySem.Spec L2
section
variable {c : C0} {F H : Hp} {σ : L2.St} {Γ : List Sl}
/-- the top alone -/
theorem EnvR.only {x : Option V} {s : Sl} (E : EnvR c F H (x :: σ) (s :: Γ)) : EnvR c F H [x] [s] where
  len := rfl
  ex0 := E.ex0
  ex := E.ex
  gr := E.gr
  fr := E.fr
  nw := E.nw
  hk := E.hk
  sl := by
    obtain ⟨fp, h1, h2⟩ := E.sl
    refine ⟨fun n => if n = 0 then fp 0 else [], fun i t ht => ?_, fun i j p e1 e2 => ?_⟩
    · cases i with
      | zero =>
        have e : t = s := by simpa using ht.symm
        subst e
        obtain ⟨y, hy, r⟩ := h1 0 t rfl
        have ey : x = y := by simpa using hy
        subst ey
        exact ⟨x, rfl, r⟩
      | succ i => simp at ht
    · have e1 : p ∈ (if i = 0 then fp 0 else []) := e1
      have e2 : p ∈ (if j = 0 then fp 0 else []) := e2
      by_cases q : i = 0
      · by_cases q' : j = 0
        · exact ⟨by rw [q, q'], by simp [q]⟩
        · rw [if_neg q'] at e2
          cases e2
      · rw [if_neg q] at e1
        cases e1
end
/-- a def's slots, no looks among them -/
structure EnvS (c : C0) (F H : Hp) (σ : L2.St) (Γ : List Sl) : Prop where
  env : EnvR c F H σ Γ
  nv : NV Γ
structure DEnds where
  nx : List Sl → Prop
  rt : Sl → Prop
  bk : List Sl → Prop := fun _ => False
  ct : List Sl → Prop := fun _ => False
structure EndsOk (c : C0) (E : Ends) (D : DEnds) : Prop where
  nx : ∀ Γ F H σ, D.nx Γ → EnvS c F H σ Γ → E.nx σ H
  rt : ∀ r v F H, D.rt r → EnvR c F H [some v] [r] → E.rt v H
  bk : ∀ Γ F H σ, D.bk Γ → EnvS c F H σ Γ → E.bk σ H
  ct : ∀ Γ F H σ, D.ct Γ → EnvS c F H σ Γ → E.ct σ H
def WS (X : Cx) (st : Stmt) : TS := fun D σ H => ∀ (pins : List (Addr × Obj)) (s : Shared), Inv X pins σ H s → wpAny (model X.prog X.w) X.A (exec st X.env) (SP X pins D) X.xe s
def WSs (X : Cx) (sts : List Stmt) : TS := fun D σ H => ∀ (pins : List (Addr × Obj)) (s : Shared), Inv X pins σ H s → wpAny (model X.prog X.w) X.A (execs sts X.env) (SP X pins D) X.xe s
section
variable {X : Cx} {st : Stmt} {sts : List Stmt}
theorem ps_ws : PS X st (WS X st) := ⟨fun pins s σ H D I h => h pins s I⟩
theorem pss_wss : PSs X sts (WSs X sts) := ⟨fun pins s σ H D I h => h pins s I⟩
theorem ws_of {t : TS} (h : PS X st t) {σ : L2.St} {H : Hp} {D : Ends} (q : t D σ H) : WS X st D σ H := fun pins s I => h.run pins s σ H D I q
theorem wss_of {t : TS} (h : PSs X sts t) {σ : L2.St} {H : Hp} {D : Ends} (q : t D σ H) : WSs X sts D σ H := fun pins s I => h.run pins s σ H D I q
end
def WPst (X : Cx) (c : C0) (st : Stmt) (Γ : List Sl) (D : DEnds) : Prop := ∀ (F H : Hp) (σ : L2.St), EnvS c F H σ Γ → ∀ E : Ends, EndsOk c E D → WS X st E σ H
def WPs (X : Cx) (c : C0) (sts : List Stmt) (Γ : List Sl) (D : DEnds) : Prop := ∀ (F H : Hp) (σ : L2.St), EnvS c F H σ Γ → ∀ E : Ends, EndsOk c E D → WSs X sts E σ H
/-- what a slot's knowledge may be weakened to -/
def Le : List Sl → List Sl → Prop
  | [], [] => True
  | s :: Γ, t :: Δ => (t = s ∨ t = .any) ∧ Le Γ Δ
  | _, _ => False
section
variable {X : Cx} {c : C0} {Γ : List Sl} {D : DEnds} {st : Stmt} {rest sts : List Stmt} {e a b : Expr} {pos : Pos} {N : List Str}
theorem WPs.mono {D' : DEnds} (h : WPs X c sts Γ D) (h1 : ∀ Γ, D.nx Γ → D'.nx Γ) (h2 : ∀ r, D.rt r → D'.rt r) (h3 : ∀ Γ, D.bk Γ → D'.bk Γ) (h4 : ∀ Γ, D.ct Γ → D'.ct Γ) : WPs X c sts Γ D' := fun F H σ E Dd ok =>
  h F H σ E Dd ⟨fun Γ F H σ q => ok.nx Γ F H σ (h1 Γ q), fun r v F H q => ok.rt r v F H (h2 r q), fun Γ F H σ q => ok.bk Γ F H σ (h3 Γ q), fun Γ F H σ q => ok.ct Γ F H σ (h4 Γ q)⟩
theorem le_env : ∀ {Γ Δ : List Sl} {c : C0} {F H : Hp} {σ : L2.St}, Le Γ Δ → EnvS c F H σ Γ → EnvS c F H σ Δ := by
  intro Γ Δ c F H σ hl E
  have hlen : ∀ {Γ Δ : List Sl}, Le Γ Δ → Γ.length = Δ.length ∧ ∀ (i : Nat) (s : Sl), Δ[i]? = some s → s = Sl.any ∨ Γ[i]? = some s := by
    intro Γ
    induction Γ with
    | nil =>
      intro Δ h
      cases Δ with
      | nil => exact ⟨rfl, fun i s e => by simp at e⟩
      | cons => exact h.elim
    | cons s Γ ih =>
      intro Δ h
      cases Δ with
      | nil => exact h.elim
      | cons t Δ =>
        obtain ⟨h1, h2⟩ := h
        obtain ⟨l, k⟩ := ih h2
        refine ⟨by simp [l], fun i u e => ?_⟩
        cases i with
        | zero =>
          have e' : t = u := by simpa using e
          rw [← e']
          rcases h1 with z | z
          · right
            rw [z]
            rfl
          · left
            exact z
        | succ i => simpa using k i u (by simpa using e)
  obtain ⟨l, k⟩ := hlen hl
  refine ⟨{ len := by rw [E.env.len, l], ex0 := E.env.ex0, ex := E.env.ex, gr := E.env.gr, fr := E.env.fr, nw := E.env.nw, hk := E.env.hk, sl := ?_ }, fun s hs => ?_⟩
  · obtain ⟨fp, h1, h2⟩ := E.env.sl
    refine ⟨fun i => match Δ[i]? with | some .any => [] | _ => fp i, fun i s hs => ?_, fun i j p e1 e2 => ?_⟩
    · rcases k i s hs with z | z
      · subst z
        have hi : i < σ.length := by rw [E.env.len, l]; exact (List.getElem?_eq_some_iff.mp hs).1
        refine ⟨σ[i], by simp [hi], ?_⟩
        show (match Δ[i]? with | some .any => [] | _ => fp i) = []
        rw [hs]
      · obtain ⟨x, hx, r⟩ := h1 i s z
        refine ⟨x, hx, ?_⟩
        have e : (match Δ[i]? with | some .any => [] | _ => fp i) = (match some s with | some .any => [] | _ => fp i) := by rw [hs]
        show SlR c F H x (match Δ[i]? with | some .any => [] | _ => fp i) s
        rw [e]
        cases s with
        | any => rfl
        | im d => exact r
        | own d => exact r
        | vw d => exact r
        | hand => exact r
        | deep v o => exact r
        | vo v π o => exact r
    · have key : ∀ i q, q ∈ (match Δ[i]? with | some .any => [] | _ => fp i) → q ∈ fp i := fun i q z => by
        split at z
        · cases z
        · exact z
      have z := h2 i j p (key i p e1) (key j p e2)
      rw [← l]
      exact z
  · obtain ⟨i, hi⟩ := List.mem_iff_getElem?.mp hs
    rcases k i s hi with z | z
    · rw [z]
      rfl
    · exact E.nv s (List.mem_of_getElem? z)
theorem WPs.le {Δ : List Sl} (h : WPs X c sts Δ D) (l : Le Γ Δ) : WPs X c sts Γ D := fun F H σ E Dd ok => h F H σ (le_env l E) Dd ok
theorem wps_nil (h : D.nx Γ) : WPs X c [] Γ D := fun F H σ E Dd ok => wss_of pss_nil (ok.nx Γ F H σ h E)
theorem wps_cons (h : WPst X c st Γ { D with nx := fun Γ' => WPs X c rest Γ' D }) : WPs X c (st :: rest) Γ D := fun F H σ E Dd ok => by
  refine wss_of (pss_cons ps_ws pss_wss) ?_
  exact h F H σ E _ ⟨fun Γ' F' H' σ' q E' => q F' H' σ' E' Dd ok, ok.rt, ok.bk, ok.ct⟩
/-- x = e -/
theorem wst_set (i : Nat) {x : Str} {pos' : Pos} (hN : X.N.Nodup) (h : WPe X c e Γ fun r => isv r = false ∧ D.nx (Γ.set i r)) (hl : i < Γ.length := by exact Nat.le_of_ble_eq_true rfl) (hi : X.N[i]? = some x := by rfl) (hx : Loc X.env.scope x := by first | exact Or.inl rfl | exact Or.inr rfl)
    (hs : swapsWith e (some (.Name x pos')) pos.line X.env = pure false := by rfl) (hf : X.fn x = true ∨ X.env.scope.names.lookup x = some .local := by first | exact .inl rfl | exact .inr rfl) : WPst X c (.Assign [.Name x pos'] e pos) Γ D := fun F H σ E Dd ok => by
  refine ws_of (ps_set hN hi hx pe_we hs hf) ?_
  refine h F H [] [] σ rfl E.env _ fun v r F' H' k E' => ?_
  exact ok.nx _ F' H' _ k.2 ⟨EnvR.store (Γ := Γ) (σ := σ) E' hl, E.nv.set (nv_of k.1)⟩
/-- x, y = a, b -/
theorem wst_par (i j : Nat) {x y : Str} {px py : Pos} {kt k2 pt pt2} (hc : X.calm = true) (hN : X.N.Nodup) (hij : i ≠ j) (h : WPe X c a Γ fun ra => WPe X c b Γ fun rb => isv ra = false ∧ isv rb = false ∧ D.nx ((Γ.set i ra).set j rb)) (hl : i < Γ.length := by exact Nat.le_of_ble_eq_true rfl) (hl2 : j < Γ.length := by exact Nat.le_of_ble_eq_true rfl) (hi : X.N[i]? = some x := by rfl) (hj : X.N[j]? = some y := by rfl)
    (hx : X.env.scope.names.lookup x = some .local := by rfl) (hy : X.env.scope.names.lookup y = some .local := by rfl)
    (hw : swappedStores [.Tuple [.Name x px, .Name y py] kt pt] (.Tuple [a, b] k2 pt2) X.env = pure (some [x, y]) := by rfl)
    (hs : swapsWithSole [.Tuple [.Name x px, .Name y py] kt pt] (.Tuple [a, b] k2 pt2) pos.line X.env = pure false := by rfl)
    (hsa : starEach [a, b] X.env = (false, eval a X.env) :: starEach [b] X.env := by rfl) (hsb : starEach [b] X.env = (false, eval b X.env) :: starEach [] X.env := by rfl) :
    WPst X c (.Assign [.Tuple [.Name x px, .Name y py] kt pt] (.Tuple [a, b] k2 pt2) pos) Γ D := fun F H σ E Dd ok => by
  refine ws_of (ps_par hc hN hi hj hij hx hy (pa_cons pe_we (pa_cons pe_we pa_nil hsb) hsa) hw hs) ?_
  refine h F H [] [] σ rfl E.env _ fun v ra F1 H1 k1 E1 => ?_
  refine k1 F1 H1 [some v] [ra] σ rfl E1 _ fun w rb F2 H2 k2 E2 => ?_
  obtain ⟨n1, n2, k⟩ := k2
  have hsl : i < σ.length := by rw [E.env.len]; exact hl
  refine ⟨v, w, rfl, ok.nx _ F2 H2 _ k ⟨?_, (E.nv.set (nv_of n1)).set (nv_of n2)⟩⟩
  have E3 : EnvR c F2 H2 (some w :: some v :: σ) (rb :: ra :: Γ) := E2
  have E4 : EnvR c F2 H2 ((some v :: σ).set (j + 1) (some w)) ((ra :: Γ).set (j + 1) rb) := E3.store (by simpa using hl2)
  have E5 : EnvR c F2 H2 (some v :: σ.set j (some w)) (ra :: Γ.set j rb) := E4
  have E6 := E5.store (i := i) (by simpa using hl)
  rw [List.set_comm _ _ hij, List.set_comm _ _ hij]
  exact E6
theorem set3 {α : Type} {a : List α} {i j l : Nat} {u v w : α} (hij : i ≠ j) (hil : i ≠ l) (hjl : j ≠ l) : ((a.set i v).set j w).set l u = ((a.set l u).set j w).set i v := by
  rw [List.set_comm v w hij, List.set_comm v u hil, List.set_comm w u hjl]
theorem wst_par3 (i j l : Nat) {x y z : Str} {cE : Expr} {px py pz : Pos} {kt k2 pt pt2} (hc : X.calm = true) (hN : X.N.Nodup) (hij : i ≠ j) (hil : i ≠ l) (hjl : j ≠ l) (h : WPe X c a Γ fun ra => WPe X c b Γ fun rb => WPe X c cE Γ fun rc => isv ra = false ∧ isv rb = false ∧ isv rc = false ∧ D.nx (((Γ.set i ra).set j rb).set l rc)) (hl : i < Γ.length := by exact Nat.le_of_ble_eq_true rfl) (hl2 : j < Γ.length := by exact Nat.le_of_ble_eq_true rfl) (hl3 : l < Γ.length := by exact Nat.le_of_ble_eq_true rfl)
    (hi : X.N[i]? = some x := by rfl) (hj : X.N[j]? = some y := by rfl) (hll : X.N[l]? = some z := by rfl)
    (hx : X.env.scope.names.lookup x = some .local := by rfl) (hy : X.env.scope.names.lookup y = some .local := by rfl) (hz : X.env.scope.names.lookup z = some .local := by rfl)
    (hw : swappedStores [.Tuple [.Name x px, .Name y py, .Name z pz] kt pt] (.Tuple [a, b, cE] k2 pt2) X.env = pure (some [x, y, z]) := by rfl)
    (hs : swapsWithSole [.Tuple [.Name x px, .Name y py, .Name z pz] kt pt] (.Tuple [a, b, cE] k2 pt2) pos.line X.env = pure false := by rfl)
    (hsa : starEach [a, b, cE] X.env = (false, eval a X.env) :: starEach [b, cE] X.env := by rfl) (hsb : starEach [b, cE] X.env = (false, eval b X.env) :: starEach [cE] X.env := by rfl) (hsc : starEach [cE] X.env = (false, eval cE X.env) :: starEach [] X.env := by rfl) :
    WPst X c (.Assign [.Tuple [.Name x px, .Name y py, .Name z pz] kt pt] (.Tuple [a, b, cE] k2 pt2) pos) Γ D := fun F H σ E Dd ok => by
  refine ws_of (ps_par3 hc hN hi hj hll hij hil hjl hx hy hz (pa_cons pe_we (pa_cons pe_we (pa_cons pe_we pa_nil hsc) hsb) hsa) hw hs) ?_
  refine h F H [] [] σ rfl E.env _ fun v ra F1 H1 k1 E1 => ?_
  refine k1 F1 H1 [some v] [ra] σ rfl E1 _ fun w rb F2 H2 k2 E2 => ?_
  refine k2 F2 H2 [some w, some v] [rb, ra] σ rfl E2 _ fun u rc F3 H3 k3 E3 => ?_
  obtain ⟨n1, n2, n3, k⟩ := k3
  refine ⟨v, w, u, rfl, ok.nx _ F3 H3 _ k ⟨?_, ((E.nv.set (nv_of n1)).set (nv_of n2)).set (nv_of n3)⟩⟩
  have E4 : EnvR c F3 H3 (some w :: some v :: σ.set l (some u)) (rb :: ra :: Γ.set l rc) := EnvR.store (i := l + 2) (Γ := rb :: ra :: Γ) (σ := some w :: some v :: σ) E3 (by simpa using hl3)
  have E5 : EnvR c F3 H3 (some v :: (σ.set l (some u)).set j (some w)) (ra :: (Γ.set l rc).set j rb) := EnvR.store (i := j + 1) (Γ := ra :: Γ.set l rc) (σ := some v :: σ.set l (some u)) E4 (by simpa using hl2)
  have E6 := EnvR.store (i := i) E5 (by simpa using hl)
  rw [set3 hij hil hjl, set3 hij hil hjl]
  exact E6
theorem wst_ret (h : WPe X c e Γ fun r => D.rt r) : WPst X c (.Return (some e) pos) Γ D := fun F H σ E Dd ok => by
  refine ws_of (ps_ret pe_we) ?_
  exact h F H [] [] σ rfl E.env _ fun v r F' H' k E' => ok.rt r v F' H' k E'.only
/-- return x, x an own object: it goes to the caller -/
theorem wst_retOwn (i : Nat) {x : Str} {d : DL.D} {p : Pos} (h : Γ[i]? = some (.own d)) (k : D.rt (.own d)) (hN : X.N[i]? = some x := by rfl)
    (hv : Vis X.env.scope x := by first | exact Or.inl rfl | exact Or.inr (Or.inl rfl) | exact Or.inr (Or.inr rfl)) (hd : (x == ("__debug__" : Str)) = false := by decide) (hcd : (x == ("__classdict__" : Str)) = false := by decide) : WPst X c (.Return (some (.Name x p)) pos) Γ D := fun F H σ E Dd ok => by
  refine ws_of (ps_ret (pe_var hN hv hd hcd)) ?_
  obtain ⟨q, h1, h2, h3, h4, h5⟩ := E.env.own h
  refine ⟨.ref q, h1, ok.rt _ _ F H k ?_⟩
  obtain ⟨fp, g1, g2⟩ := E.env.sl
  exact { len := rfl, ex0 := E.env.ex0, ex := E.env.ex, gr := E.env.gr, fr := E.env.fr, nw := E.env.nw, hk := E.env.hk, sl := ⟨fun n => if n = 0 then [q] else [], fun i s hs => by
    cases i with
    | zero =>
      have e : s = .own d := by simpa using hs.symm
      subst e
      exact ⟨some (.ref q), rfl, q, rfl, rfl, h2, h3, h4, h5⟩
    | succ i => simp at hs, fun i j p e1 e2 => by
    have e1 : p ∈ (if i = 0 then [q] else []) := e1
    have e2 : p ∈ (if j = 0 then [q] else []) := e2
    by_cases z : i = 0
    · by_cases z' : j = 0
      · exact ⟨by rw [z, z'], by simp [z]⟩
      · rw [if_neg z'] at e2
        cases e2
    · rw [if_neg z] at e1
      cases e1⟩ }
theorem wst_if {t : Expr} {s1 s2 : List Stmt} (h : WPt X c t Γ fun x => (x = true → WPs X c s1 Γ D) ∧ (x = false → WPs X c s2 Γ D)) : WPst X c (.If t s1 s2 pos) Γ D := fun F H σ E Dd ok => by
  refine ws_of (ps_if pt_wt pss_wss pss_wss) ?_
  refine h F H [] [] σ rfl E.env _ fun x F1 H1 k1 E1 => ?_
  cases x with
  | true => exact iteT (k1.1 rfl F1 H1 σ ⟨E1, E.nv⟩ Dd ok)
  | false => exact iteF (k1.2 rfl F1 H1 σ ⟨E1, E.nv⟩ Dd ok)
theorem wst_expr (h : WPe X c e Γ fun _ => D.nx Γ) (hs : swapsWith e none pos.line X.env = pure false := by rfl) : WPst X c (.Expr e pos) Γ D := fun F H σ E Dd ok => by
  refine ws_of (ps_expr pe_we hs) ?_
  exact h F H [] [] σ rfl E.env _ fun v r F' H' k E' => ok.nx Γ F' H' σ k ⟨E'.pop, E.nv⟩
theorem wst_continue (h : D.ct Γ) : WPst X c (.Continue pos) Γ D := fun F H σ E Dd ok => ws_of ps_continue (ok.ct Γ F H σ h E)
theorem wst_break (h : D.bk Γ) : WPst X c (.Break pos) Γ D := fun F H σ E Dd ok => ws_of ps_break (ok.bk Γ F H σ h E)
/-- x op= e -/
theorem wst_aug (i : Nat) {x : Str} {op : Operator} {d : DL.D} {pos' : Pos} (hd : Γ[i]? = some (.im d)) (hN : X.N.Nodup) (h : WPe X c e Γ fun r => OpD X c (inplaceOp op) (.im d) (frz r) fun r' => isv r' = false ∧ D.nx (Γ.set i r')) (hi : X.N[i]? = some x := by rfl) (hx : Loc X.env.scope x := by first | exact Or.inl rfl | exact Or.inr rfl)
    (hf : X.fn x = true ∨ X.env.scope.names.lookup x = some .local := by first | exact .inl rfl | exact .inr rfl) : WPst X c (.AugAssign (.Name x pos') op e pos) Γ D := fun F H σ E Dd ok => by
  have hp : PIp X op (RW X (inplaceOp op)) := fun pins s σ H x y v u Q I r1 r2 q => q pins s σ v u I r1 r2
  refine ws_of (ps_aug hN hi hx pe_we hp hf) ?_
  obtain ⟨v, hv, hdat⟩ := E.env.im hd
  have hl : i < Γ.length := (List.getElem?_eq_some_iff.mp hd).1
  refine ⟨v, hv, ?_⟩
  refine h F H [some v] [.im d] σ rfl (E.env.push hdat) _ fun y r F1 H1 k1 E1 => ?_
  obtain ⟨F1, E1⟩ := E1.frzTop
  refine k1 F1 H1 σ Γ v y E1 _ fun z r' F2 H2 k2 E2 => ?_
  exact ok.nx _ F2 H2 _ k2.2 ⟨E2.store hl, E.nv.set (nv_of k2.1)⟩
/-- an own object will not change from here on -/
theorem wps_freeze (i : Nat) {d : DL.D} (hd : Γ[i]? = some (.own d)) (h : WPs X c sts (Γ.set i (.im d)) D) : WPs X c sts Γ D := fun F H σ E Dd ok => by
  obtain ⟨F', E'⟩ := E.env.freeze hd
  exact h F' H σ ⟨E', E.nv.set rfl⟩ Dd ok
end
end DL

set_option Elab.async false
set_option linter.all false
set_option maxRecDepth 100000
set_option maxHeartbeats 2000000
/-! DL4: targets, loops, calls of defs -/
namespace DL
open PySem PySem.Spec L2
/-! ### what is known at a loop's start stays known -/
def C0.up (c : C0) (F : Hp) : C0 := { c with F0 := F }
section
variable {c : C0} {F F1 H H1 H' F' : Hp} {σ : L2.St} {Γ : List Sl}
theorem slr_up {x : Option V} {o : List Addr} {s : Sl} : SlR (c.up F1) F H x o s ↔ SlR c F H x o s := by
  cases s <;> exact Iff.rfl
theorem EnvR.up (E : EnvR c F H σ Γ) : EnvR (c.up F) F H σ Γ where
  len := E.len
  ex0 := Ex.refl F
  ex := E.ex
  gr := fun a o h => .inl h
  fr := E.fr
  nw := E.nw
  hk := E.hk
  sl := by
    obtain ⟨fp, h1, h2⟩ := E.sl
    exact ⟨fp, fun i s hs => let ⟨x, hx, r⟩ := h1 i s hs; ⟨x, hx, slr_up.mpr r⟩, h2⟩
theorem EnvR.down {H0 : Hp} {σ0 : L2.St} {Γ0 : List Sl} (E0 : EnvR c F1 H0 σ0 Γ0) (E : EnvR (c.up F1) F H σ Γ) : EnvR c F H σ Γ where
  len := E.len
  ex0 := E0.ex0.trans E.ex0
  ex := E.ex
  gr := fun a o h => by
    rcases E.gr a o h with z | z
    · exact E0.gr a o z
    · exact .inr z
  fr := E.fr
  nw := E.nw
  hk := E.hk
  sl := by
    obtain ⟨fp, h1, h2⟩ := E.sl
    exact ⟨fp, fun i s hs => let ⟨x, hx, r⟩ := h1 i s hs; ⟨x, hx, slr_up.mp r⟩, h2⟩
end

/-! ### targets -/
def GW (X : Cx) (tg : Expr) : TG := fun v σ H Q => ∀ (pins : List (Addr × Obj)) (s : Shared) (u : Value), Inv X pins σ H s → RelV v u → wpAny (model X.prog X.w) X.A (assign tg X.env u) (fun _ s' => ∃ σ' H', Inv X pins σ' H' s' ∧ Q σ' H') X.xe s
theorem pg_gw {X : Cx} {tg : Expr} : PG X tg (GW X tg) := ⟨fun pins s σ H v u Q I r h => h pins s u I r⟩
theorem gw_of {X : Cx} {tg : Expr} {g : TG} (h : PG X tg g) {v : V} {σ : L2.St} {H : Hp} {Q : L2.St → Hp → Prop} (q : g v σ H Q) : GW X tg v σ H Q := fun pins s u I r => h.run pins s σ H v u Q I r q
def GtD (X : Cx) (c : C0) (tg : Expr) (r : Sl) (Γ : List Sl) (K : List Sl → Prop) : Prop :=
  ∀ (F H : Hp) (stk : L2.St) (S : List Sl) (σ : L2.St) (v : V), stk.length = S.length → NV Γ → EnvR c F H (some v :: (stk ++ σ)) (r :: (S ++ Γ)) → ∀ Q : L2.St → Hp → Prop,
    (∀ F' H' σ' Γ', K Γ' → NV Γ' → EnvR c F' H' (stk ++ σ') (S ++ Γ') → Q σ' H') → GW X tg v σ H Q
section
variable {X : Cx} {c : C0} {Γ : List Sl} {K : List Sl → Prop} {pos : Pos}
theorem EnvR.storeS {F H : Hp} {stk σ : L2.St} {S : List Sl} {x : Option V} {s : Sl} {i : Nat} (E : EnvR c F H (x :: (stk ++ σ)) (s :: (S ++ Γ))) (hl : stk.length = S.length) (hi : i < Γ.length) : EnvR c F H (stk ++ σ.set i x) (S ++ Γ.set i s) := by
  have h := E.store (i := S.length + i) (by rw [List.length_append]; omega)
  have e1 : ∀ {α : Type} (l m : List α) (n j : Nat) (x : α), l.length = n → (l ++ m).set (n + j) x = l ++ m.set j x := fun l m n j x e => by
    rw [← e, List.set_append_right _ _ (by omega)]
    congr 2
    omega
  rw [e1 S Γ _ _ _ rfl, e1 stk σ _ _ _ hl] at h
  exact h
theorem gt_name (i : Nat) {x : Str} {r : Sl} (hv : isv r = false) (hN : X.N.Nodup) (k : K (Γ.set i r)) (hl : i < Γ.length := by exact Nat.le_of_ble_eq_true rfl) (hi : X.N[i]? = some x := by rfl) (hx : Loc X.env.scope x := by first | exact Or.inl rfl | exact Or.inr rfl)
    (hf : X.fn x = true ∨ X.env.scope.names.lookup x = some .local := by first | exact .inl rfl | exact .inr rfl) : GtD X c (.Name x pos) r Γ K := fun F H stk S σ v hls nv E Q q =>
  gw_of (pg_name hN hi hx hf) (q F H _ _ k (nv.set (nv_of hv)) (E.storeS hls hl))
/-- (x, y) = a pair -/
theorem gt_tup2 (i j : Nat) {x y : Str} {d1 d2 : DL.D} {px py : Pos} {kt} (hc : X.calm = true) (hN : X.N.Nodup) (k : K ((Γ.set i (.im d1)).set j (.im d2))) (hl : i < Γ.length := by exact Nat.le_of_ble_eq_true rfl) (hl2 : j < Γ.length := by exact Nat.le_of_ble_eq_true rfl) (hi : X.N[i]? = some x := by rfl) (hj : X.N[j]? = some y := by rfl) (hx : Loc X.env.scope x := by first | exact Or.inl rfl | exact Or.inr rfl) (hy : Loc X.env.scope y := by first | exact Or.inl rfl | exact Or.inr rfl)
    (hf : X.fn x = true ∨ X.env.scope.names.lookup x = some .local := by first | exact .inl rfl | exact .inr rfl) (hf2 : X.fn y = true ∨ X.env.scope.names.lookup y = some .local := by first | exact .inl rfl | exact .inr rfl)
    (hn : (assignEach [.Name x px, .Name y py] X.env).length = 2 := by rfl) (hst : (assignEach [.Name x px, .Name y py] X.env).findIdx? (·.1) = none := by rfl)
    (hs1 : (assignEach [.Name x px, .Name y py] X.env).map (·.2) = assign (.Name x px) X.env :: (assignEach [.Name y py] X.env).map (·.2) := by rfl) (hs2 : (assignEach [.Name y py] X.env).map (·.2) = assign (.Name y py) X.env :: (assignEach [] X.env).map (·.2) := by rfl) :
    GtD X c (.Tuple [.Name x px, .Name y py] kt pos) (.im (.tup [d1, d2])) Γ K := fun F H stk S σ v hls nv E Q q => by
  refine gw_of (pg_tup hc (pgs_cons (pg_name hN hi hx hf) (pgs_cons (pg_name hN hj hy hf2) pgs_nil hs2) hs1) hn hst) ?_
  obtain ⟨u, hu, hd⟩ := E.im (i := 0) rfl
  have ev : v = u := by simpa using hu
  subst ev
  obtain ⟨p, vs, e, hp, hds⟩ := hd
  obtain ⟨v1, w1, e1, hd1, hds⟩ := hds
  obtain ⟨v2, w2, e2, hd2, hds⟩ := hds
  have e3 : w2 = [] := hds
  subst e3 e2 e1
  refine ⟨p, [v1, v2], e, .inl (.inl (E.ex _ _ hp)), rfl, v1, [v2], rfl, v2, [], rfl, rfl, ?_⟩
  have E1 := ((E.pop.push hd1).storeS hls hl)
  have E2 := (E1.push hd2).storeS (Γ := Γ.set i (.im d1)) hls (by simpa using hl2)
  exact q F H _ _ k ((nv.set (nv_of rfl)).set (nv_of rfl)) E2
theorem gt_tup3 (i j l : Nat) {x y z : Str} {d1 d2 d3 : DL.D} {px py pz : Pos} {kt} (hc : X.calm = true) (hN : X.N.Nodup) (k : K (((Γ.set i (.im d1)).set j (.im d2)).set l (.im d3))) (hl : i < Γ.length := by exact Nat.le_of_ble_eq_true rfl) (hl2 : j < Γ.length := by exact Nat.le_of_ble_eq_true rfl) (hl3 : l < Γ.length := by exact Nat.le_of_ble_eq_true rfl) (hi : X.N[i]? = some x := by rfl) (hj : X.N[j]? = some y := by rfl) (hll : X.N[l]? = some z := by rfl)
    (hx : Loc X.env.scope x := by first | exact Or.inl rfl | exact Or.inr rfl) (hy : Loc X.env.scope y := by first | exact Or.inl rfl | exact Or.inr rfl) (hz : Loc X.env.scope z := by first | exact Or.inl rfl | exact Or.inr rfl)
    (hf : X.fn x = true ∨ X.env.scope.names.lookup x = some .local := by first | exact .inl rfl | exact .inr rfl) (hf2 : X.fn y = true ∨ X.env.scope.names.lookup y = some .local := by first | exact .inl rfl | exact .inr rfl) (hf3 : X.fn z = true ∨ X.env.scope.names.lookup z = some .local := by first | exact .inl rfl | exact .inr rfl)
    (hn : (assignEach [.Name x px, .Name y py, .Name z pz] X.env).length = 3 := by rfl) (hst : (assignEach [.Name x px, .Name y py, .Name z pz] X.env).findIdx? (·.1) = none := by rfl)
    (hs1 : (assignEach [.Name x px, .Name y py, .Name z pz] X.env).map (·.2) = assign (.Name x px) X.env :: (assignEach [.Name y py, .Name z pz] X.env).map (·.2) := by rfl) (hs2 : (assignEach [.Name y py, .Name z pz] X.env).map (·.2) = assign (.Name y py) X.env :: (assignEach [.Name z pz] X.env).map (·.2) := by rfl) (hs3 : (assignEach [.Name z pz] X.env).map (·.2) = assign (.Name z pz) X.env :: (assignEach [] X.env).map (·.2) := by rfl) :
    GtD X c (.Tuple [.Name x px, .Name y py, .Name z pz] kt pos) (.im (.tup [d1, d2, d3])) Γ K := fun F H stk S σ v hls nv E Q q => by
  refine gw_of (pg_tup hc (pgs_cons (pg_name hN hi hx hf) (pgs_cons (pg_name hN hj hy hf2) (pgs_cons (pg_name hN hll hz hf3) pgs_nil hs3) hs2) hs1) hn hst) ?_
  obtain ⟨u, hu, hd⟩ := E.im (i := 0) rfl
  have ev : v = u := by simpa using hu
  subst ev
  obtain ⟨p, vs, e, hp, hds⟩ := hd
  obtain ⟨v1, w1, e1, hd1, hds⟩ := hds
  obtain ⟨v2, w2, e2, hd2, hds⟩ := hds
  obtain ⟨v3, w3, e3, hd3, hds⟩ := hds
  have e4 : w3 = [] := hds
  subst e4 e3 e2 e1
  refine ⟨p, [v1, v2, v3], e, .inl (.inl (E.ex _ _ hp)), rfl, v1, [v2, v3], rfl, v2, [v3], rfl, v3, [], rfl, rfl, ?_⟩
  have E1 := ((E.pop.push hd1).storeS hls hl)
  have E2 := (E1.push hd2).storeS (Γ := Γ.set i (.im d1)) hls (by simpa using hl2)
  have E3 := (E2.push hd3).storeS (Γ := (Γ.set i (.im d1)).set j (.im d2)) hls (by simpa using hl3)
  exact q F H _ _ k (((nv.set (nv_of rfl)).set (nv_of rfl)).set (nv_of rfl)) E3
end

/-! ### what is walked -/
/-- the iterator gives n items, of known data, as long as src is known -/
structure ItOk (J : It) (n : Nat) (item : Nat → DL.D) (src : Hp → Prop) : Prop where
  mono : ∀ F F', Ex F F' → src F → src F'
  go : ∀ F H i, Ex F H → src F → i < n → J.go i H
  yld : ∀ (c : C0) (F H : Hp) (σ : L2.St) (Γ : List Sl) (i : Nat) (x : V) (H' : Hp), EnvR c F H σ Γ → src F → i < n → J.yld i H x H' → ∃ F', Ex F F' ∧ EnvR c F' H' (some x :: σ) (.im (item i) :: Γ)
  stop : ∀ F H, Ex F H → src F → J.stop n H
def IWt (X : Cx) (tg iter : Expr) : TI := fun σ H R => ∀ (pins : List (Addr × Obj)) (s : Shared), Inv X pins σ H s → wpAny (model X.prog X.w) X.A (eval iter X.env) (fun v s1 => wpAny (model X.prog X.w) X.A (pyIter v) (PIE X pins σ tg R) X.xe s1) X.xe s
theorem pi_iw {X : Cx} {tg iter : Expr} : PI X tg iter (IWt X tg iter) := ⟨fun pins s σ H R I h => h pins s I⟩
theorem iw_of {X : Cx} {tg iter : Expr} {wi : TI} (h : PI X tg iter wi) {σ : L2.St} {H : Hp} {R : It → Hp → Prop} (q : wi σ H R) : IWt X tg iter σ H R := fun pins s I => h.run pins s σ H R I q
def WPi (X : Cx) (c : C0) (tg iter : Expr) (Γ : List Sl) (KI : Nat → (Nat → DL.D) → Prop) : Prop :=
  ∀ (F H : Hp) (stk : L2.St) (S : List Sl) (σ : L2.St), stk.length = S.length → EnvR c F H (stk ++ σ) (S ++ Γ) → ∀ R : It → Hp → Prop,
    (∀ J n item src F' H', KI n item → ItOk J n item src → src F' → EnvR c F' H' (stk ++ σ) (S ++ Γ) → R J H') → IWt X tg iter σ H R
section
variable {X : Cx} {c : C0} {Γ : List Sl} {KI : Nat → (Nat → DL.D) → Prop} {tg e a b : Expr} {pos : Pos}
theorem itok_list {K : PySem.W.Frag} {p : Addr} {vs : List V} {ds : List DL.D} : ItOk (Itl K p) ds.length (fun i => ds.getD i .non) (fun F => F p = some (.lst vs) ∧ Dats F ds vs) where
  mono := fun F F' e h => ⟨e _ _ h.1, h.2.mono e⟩
  go := fun F H i e h hi => by
    obtain ⟨v, hv, _⟩ := h.2.get (i := i) (d := ds[i]) (by simp [hi])
    exact ⟨vs, v, .inl (.inl (e _ _ h.1)), hv⟩
  yld := fun c F H σ Γ i x H' E h hi hy => by
    obtain ⟨rfl, hx⟩ := hy
    obtain ⟨v, hv, hd⟩ := h.2.get (i := i) (d := ds[i]) (by simp [hi])
    have e1 := hx vs (.inl (.inl (E.ex _ _ h.1)))
    rw [hv] at e1
    have e2 : v = x := Option.some.inj e1
    subst e2
    have e3 : ds.getD i .non = ds[i] := by simp [hi]
    exact ⟨F, Ex.refl F, by rw [e3]; exact E.push hd⟩
  stop := fun F H e h => ⟨vs, .inl (.inl (e _ _ h.1)), by rw [h.2.length]; exact Nat.le_refl _⟩
theorem itok_tup {K : PySem.W.Frag} {p : Addr} {vs : List V} {ds : List DL.D} : ItOk (Itt K p) ds.length (fun i => ds.getD i .non) (fun F => F p = some (.tup vs) ∧ Dats F ds vs) where
  mono := fun F F' e h => ⟨e _ _ h.1, h.2.mono e⟩
  go := fun F H i e h hi => by
    obtain ⟨v, hv, _⟩ := h.2.get (i := i) (d := ds[i]) (by simp [hi])
    exact ⟨vs, v, .inl (.inl (e _ _ h.1)), hv⟩
  yld := fun c F H σ Γ i x H' E h hi hy => by
    obtain ⟨rfl, hx⟩ := hy
    obtain ⟨v, hv, hd⟩ := h.2.get (i := i) (d := ds[i]) (by simp [hi])
    have e1 := hx vs (.inl (.inl (E.ex _ _ h.1)))
    rw [hv] at e1
    have e2 : v = x := Option.some.inj e1
    subst e2
    have e3 : ds.getD i .non = ds[i] := by simp [hi]
    exact ⟨F, Ex.refl F, by rw [e3]; exact E.push hd⟩
  stop := fun F H e h => ⟨vs, .inl (.inl (e _ _ h.1)), by rw [h.2.length]; exact Nat.le_refl _⟩
theorem itok_range {lo : Int} {n : Nat} : ItOk (Itr lo n) n (fun i => .int (lo + i)) (fun _ => True) where
  mono := fun _ _ _ h => h
  go := fun _ _ i _ _ hi => hi
  yld := fun c F H σ Γ i x H' E _ hi hy => by
    obtain ⟨rfl, rfl⟩ := hy
    exact ⟨F, Ex.refl F, E.push rfl⟩
  stop := fun _ _ _ _ => Nat.le_refl n
theorem wpi_list (h : WPe X c e Γ fun r => ∃ ds, frz r = .im (.lst ds) ∧ KI ds.length fun i => ds.getD i .non) : WPi X c tg e Γ KI := fun F H stk S σ hl E R q => by
  refine iw_of (pi_list pe_we) ?_
  refine h F H stk S σ hl E _ fun v r F1 H1 k1 E1 => ?_
  obtain ⟨ds, er, k⟩ := k1
  obtain ⟨F1, E1⟩ := E1.frzTop
  rw [er] at E1
  obtain ⟨u, hu, hd⟩ := E1.im (i := 0) rfl
  have ev : v = u := by simpa using hu
  subst ev
  obtain ⟨p, vs, e, hp, hds⟩ := hd
  exact ⟨p, e, ⟨vs, .inl (.inl (E1.ex _ _ hp))⟩, q _ _ _ _ F1 H1 k itok_list ⟨hp, hds⟩ E1.pop⟩
theorem wpi_tup (h : WPe X c e Γ fun r => ∃ ds, r = .im (.tup ds) ∧ KI ds.length fun i => ds.getD i .non) : WPi X c tg e Γ KI := fun F H stk S σ hl E R q => by
  refine iw_of (pi_tup pe_we) ?_
  refine h F H stk S σ hl E _ fun v r F1 H1 k1 E1 => ?_
  obtain ⟨ds, er, k⟩ := k1
  rw [er] at E1
  obtain ⟨u, hu, hd⟩ := E1.im (i := 0) rfl
  have ev : v = u := by simpa using hu
  subst ev
  obtain ⟨p, vs, e, hp, hds⟩ := hd
  exact ⟨p, e, ⟨vs, .inl (.inl (E1.ex _ _ hp))⟩, q _ _ _ _ F1 H1 k itok_tup ⟨hp, hds⟩ E1.pop⟩
theorem wpi_range1 {p : Pos} (hm : X.mg "range" = none) (h : WPa X c [a] Γ fun rs => ∃ j : Int, rs = [.im (.int j)] ∧ -(2 ^ 62) ≤ j ∧ j < 2 ^ 62 ∧ KI j.toNat fun i => .int (0 + i)) (hg : Gl X "range" := by rfl) (hs : starEach [a] X.env = [(false, eval a X.env)] := by rfl) : WPi X c tg (.Call (.Name "range" p) [a] [] pos) Γ KI := fun F H stk S σ hl E R q => by
  refine iw_of (pi_range1 hg hm pa_wa hs) ?_
  refine h F H stk S σ hl E _ fun vs rs F1 H1 k1 hl1 E1 => ?_
  obtain ⟨j, e, h1, h2, k⟩ := k1
  obtain ⟨E2, hd⟩ := EnvR.dats (ds := [.int j]) (by rw [hl1, e]; rfl) (by rw [e] at E1; exact E1)
  obtain ⟨v, w, e1, hv, hw⟩ := hd
  have e2 : v = .int j := hv
  have e3 : w = [] := hw
  subst e3 e2
  exact ⟨j, e1, h1, h2, q _ _ _ _ F1 H1 k itok_range trivial E2⟩
theorem wpi_range2 {p : Pos} (hm : X.mg "range" = none) (h : WPa X c [a, b] Γ fun rs => ∃ i j : Int, rs = [.im (.int i), .im (.int j)] ∧ (-(2 ^ 62) ≤ i ∧ i < 2 ^ 62 ∧ -(2 ^ 62) ≤ j ∧ j < 2 ^ 62) ∧ KI (j - i).toNat fun k => .int (i + k)) (hg : Gl X "range" := by rfl) (hs : starEach [a, b] X.env = [(false, eval a X.env), (false, eval b X.env)] := by rfl) (hs2 : starEach [b] X.env = [(false, eval b X.env)] := by rfl) : WPi X c tg (.Call (.Name "range" p) [a, b] [] pos) Γ KI := fun F H stk S σ hl E R q => by
  refine iw_of (pi_range2 hg hm pa_wa hs hs2) ?_
  refine h F H stk S σ hl E _ fun vs rs F1 H1 k1 hl1 E1 => ?_
  obtain ⟨i, j, e, h1, k⟩ := k1
  obtain ⟨E2, hd⟩ := EnvR.dats (ds := [.int i, .int j]) (by rw [hl1, e]; rfl) (by rw [e] at E1; exact E1)
  obtain ⟨v, w, e1, hv, hw⟩ := hd
  obtain ⟨v', w', e1', hv', hw'⟩ := hw
  have e2 : v = .int i := hv
  have e3 : v' = .int j := hv'
  have e4 : w' = [] := hw'
  subst e4 e3 e2 e1'
  exact ⟨i, j, e1, h1, q _ _ _ _ F1 H1 k itok_range trivial E2⟩
end

/-! ### for, while -/
section
variable {X : Cx} {c : C0} {Γ : List Sl} {D : DEnds} {tg iter : Expr} {body : List Stmt} {pos : Pos}
theorem wst_for (J : Nat → List Sl → Prop) (h : WPi X c tg iter Γ fun n item => J 0 Γ ∧ (∀ (F : Hp) (i : Nat) (Γ' : List Sl), i < n → J i Γ' → GtD X (c.up F) tg (.im (item i)) Γ' fun Γ2 => WPs X (c.up F) body Γ2 { nx := J (i + 1), ct := J (i + 1), bk := D.nx, rt := D.rt }) ∧ ∀ Γ', J n Γ' → D.nx Γ')
    (hp : PassesOwn (model X.prog X.w) X.A X.env X.xe := by exact PassesOwn.never) (hc : X.calm = true := by rfl) (hs : ∀ x, foldedSetIterable iter X.env x = pure x := by intro _; rfl) : WPst X c (.For tg iter body [] pos) Γ D := fun F H σ E Dd ok => by
  refine ws_of (ps_for hp hc pi_iw pg_gw pss_wss hs) ?_
  refine h F H [] [] σ rfl E.env _ fun It n item src F1 H1 k1 io sF E1 => ?_
  obtain ⟨j0, turn, fin⟩ := k1
  have E1 : EnvR c F1 H1 σ Γ := E1
  refine ⟨fun i m σ' H' => m = n - i ∧ i ≤ n ∧ ∃ F' Γ', J i Γ' ∧ EnvS (c.up F1) F' H' σ' Γ', ⟨n, by simp, Nat.zero_le _, F1, Γ, j0, E1.up, E.nv⟩, ?_⟩
  rintro i m σ' H' ⟨rfl, hi, F', Γ', ji, E'⟩
  have sF' : src F' := io.mono F1 F' E'.env.ex0 sF
  by_cases hlt : i < n
  · refine .inr ⟨io.go F' H' i E'.env.ex sF' hlt, fun σ2 H2 => ∃ F2 Γ2, J (i + 1) Γ2 ∧ EnvS (c.up F1) F2 H2 σ2 Γ2, fun σ2 H2 hN => ⟨n - (i + 1), by omega, rfl, hlt, hN⟩, fun x H2 hy => ?_⟩
    obtain ⟨F2, e2, E2⟩ := io.yld _ F' H' σ' Γ' i x H2 E'.env sF' hlt hy
    refine turn F1 i Γ' hlt ji F2 H2 [] [] σ' x rfl E'.nv E2 _ fun F3 H3 σ3 Γ3 k3 nv3 E3 => ?_
    refine k3 F3 H3 σ3 ⟨E3, nv3⟩ _ ⟨fun Γ4 F4 H4 σ4 q4 E4 => ⟨F4, Γ4, q4, E4⟩, fun r v F4 H4 q4 E4 => ok.rt r v F4 H4 q4 (E1.down E4), fun Γ4 F4 H4 σ4 q4 E4 => ok.nx Γ4 F4 H4 σ4 q4 ⟨E1.down E4.env, E4.nv⟩, fun Γ4 F4 H4 σ4 q4 E4 => ⟨F4, Γ4, q4, E4⟩⟩
  · have e : i = n := by omega
    subst e
    exact .inl ⟨io.stop F' H' E'.env.ex sF', ok.nx Γ' F' H' σ' (fin Γ' ji) ⟨E1.down E'.env, E'.nv⟩⟩
theorem wst_while {t : Expr} (J : Nat → List Sl → Prop) (m0 : Nat) (h0 : J m0 Γ) (h : ∀ m Γ', J m Γ' → WPt X c t Γ' fun x => (x = true → WPs X c body Γ' { nx := fun Γ2 => ∃ m', m' < m ∧ J m' Γ2, ct := fun Γ2 => ∃ m', m' < m ∧ J m' Γ2, bk := D.nx, rt := D.rt }) ∧ (x = false → D.nx Γ'))
    (hp : PassesOwn (model X.prog X.w) X.A X.env X.xe := by exact PassesOwn.never) : WPst X c (.While t body [] pos) Γ D := fun F H σ E Dd ok => by
  refine ws_of (ps_while hp pt_wt pss_wss) ?_
  refine ⟨fun m σ' H' => ∃ F' Γ', J m Γ' ∧ EnvS c F' H' σ' Γ', ⟨m0, F, Γ, h0, E⟩, ?_⟩
  rintro m σ' H' ⟨F', Γ', ji, E'⟩
  refine h m Γ' ji F' H' [] [] σ' rfl E'.env _ fun x F2 H2 k2 E2 => ?_
  cases x with
  | true =>
    refine iteT ⟨fun σ3 H3 => ∃ m', m' < m ∧ ∃ F3 Γ3, J m' Γ3 ∧ EnvS c F3 H3 σ3 Γ3, fun σ3 H3 hN => hN, ?_⟩
    refine k2.1 rfl F2 H2 σ' ⟨E2, E'.nv⟩ _ ⟨fun Γ4 F4 H4 σ4 q4 E4 => ?_, ok.rt, ok.nx, fun Γ4 F4 H4 σ4 q4 E4 => ?_⟩
    · obtain ⟨m', hm, hj⟩ := q4
      exact ⟨m', hm, F4, Γ4, hj, E4⟩
    · obtain ⟨m', hm, hj⟩ := q4
      exact ⟨m', hm, F4, Γ4, hj, E4⟩
  | false => exact iteF (ok.nx Γ' F2 H2 σ' (k2.2 rfl) ⟨E2, E'.nv⟩)
end

/-! ### defs -/
/-- a def's promise by its slots: pre of the arguments, post of the arguments and the result -/
def SpD (n : Nat) (pre : List Sl → Prop) (post : List Sl → Sl → Prop) : Sp := fun vs H Q _ => vs.length = n ∧ ∃ (c : C0) (F : Hp) (rs : List Sl), rs.length = n ∧ pre rs ∧ NV rs ∧ c.F0 = F ∧ c.H0 = H ∧ EnvR c F H (vs.map some) rs ∧
  ∀ v r F' H', post rs r → EnvR c F' H' [some v] [r] → Q v H'
theorem EnvR.rest {c : C0} {F H : Hp} : ∀ {n : Nat} {σ : L2.St} {Γ : List Sl}, EnvR c F H σ Γ → EnvR c F H (σ ++ List.replicate n none) (Γ ++ List.replicate n .any) := by
  intro n σ Γ E
  refine { len := by simp [E.len], ex0 := E.ex0, ex := E.ex, gr := E.gr, fr := E.fr, nw := E.nw, hk := E.hk, sl := ?_ }
  obtain ⟨fp, h1, h2⟩ := E.sl
  refine ⟨fun i => if i < Γ.length then fp i else [], fun i s hs => ?_, fun i j p e1 e2 => ?_⟩
  · by_cases hi : i < Γ.length
    · rw [List.getElem?_append_left hi] at hs
      obtain ⟨x, hx, r⟩ := h1 i s hs
      refine ⟨x, by rw [List.getElem?_append_left (by rw [E.len]; exact hi)]; exact hx, ?_⟩
      dsimp only
      rw [if_pos hi]
      exact r
    · rw [List.getElem?_append_right (by omega)] at hs
      have hn : i - Γ.length < n := by
        rcases Nat.lt_or_ge (i - Γ.length) n with z | z
        · exact z
        · rw [List.getElem?_eq_none (by simpa using z)] at hs
          cases hs
      rw [List.getElem?_replicate, if_pos hn] at hs
      cases hs
      refine ⟨none, ?_, ?_⟩
      · rw [List.getElem?_append_right (by rw [E.len]; omega), E.len, List.getElem?_replicate, if_pos hn]
      · show (if i < Γ.length then fp i else []) = []
        rw [if_neg hi]
  · have e1 : p ∈ (if i < Γ.length then fp i else []) := e1
    have e2 : p ∈ (if j < Γ.length then fp j else []) := e2
    by_cases hi : i < Γ.length
    · by_cases hj : j < Γ.length
      · rw [if_pos hi] at e1
        rw [if_pos hj] at e2
        obtain ⟨z1, z2⟩ := h2 i j p e1 e2
        exact ⟨z1, by rw [List.length_append]; omega⟩
      · rw [if_neg hj] at e2
        cases e2
    · rw [if_neg hi] at e1
      cases e1
theorem NV.rest {Γ : List Sl} {n : Nat} (h : NV Γ) : NV (Γ ++ List.replicate n .any) := fun s hs => by
  rcases List.mem_append.mp hs with z | z
  · exact h s z
  · rw [List.eq_of_mem_replicate z]
    rfl
theorem fn_D {P : Program} {w : World} {K : PySem.W.Frag} {mg : Str → Option Value} {base : Heap} {x qual : Str} {st : Stmt} {f : Addr} {fd : FuncData} {N ps : List Str} {k : Nat} (F : Fun K x qual st f fd) (S : FnScope N ps (defScope st)) {pre : List Sl → Prop} {post : List Sl → Sl → Prop}
    (hb : ∀ (cdv : Value) (A : Around) (outer : List Env) (s : Shared) (H : Hp) (E : XK) (c : C0) (rs : List Sl), Room k (A.deeper (PyProof.Rows.envOfC qual (defScope st) s.heap.objs.size f cdv)) → rs.length = ps.length → pre rs →
      WPs (cxOf L2.CX0 P w K mg base N qual (defScope st) f cdv A outer s H E).nox c (defBody st) (rs ++ List.replicate (N.length - ps.length) .any) { nx := fun _ => post rs (.im .non), rt := post rs }) : FnOk P w K mg base L2.CX0 (k + 1) f fd ps (SpD ps.length pre post) := by
  refine F.ok S (fun vs H Q E h => h.1) (fun cdv A outer s H vs Q E hr h => ⟨_, pss_wss, ?_⟩)
  obtain ⟨hl, c, F1, rs, hrl, hpre, nv, e1, e2, E1, q⟩ := h
  have hst : L2.start N vs = vs.map some ++ List.replicate (N.length - ps.length) none := by
    unfold L2.start
    rw [hl]
  rw [hst]
  refine hb cdv A outer s H E c rs hr hrl hpre F1 H _ ⟨E1.rest, nv.rest⟩ _ ⟨fun Γ F H σ hn E' => ?_, fun r v F H hn E' => q v r F H hn E', fun Γ F H σ hn E' => hn.elim, fun Γ F H σ hn E' => hn.elim⟩
  exact q .non (.im .non) F H hn (E'.env.push (d := .non) rfl).only
/-- behind a call -/
theorem EnvR.ret {c c1 : C0} {F H F' H' : Hp} {L : L2.St} {G : List Sl} {v : V} {r : Sl} (E : EnvR c F H L G) (E' : EnvR c1 F' H' [some v] [r]) (e1 : c1.F0 = F) (e2 : c1.H0 = H) (hW : ∀ a ∈ c1.W, a ∈ c.W) (hk : c.hok H') (hp : r = .hand → c1.hp = c.hp) (hv : isv r = false) :
    EnvR c F' H' (some v :: L) (r :: G) := by
  have kp : Keep c.W H H' := fun a o h w => E'.fr a o (by rw [e2]; exact h) (fun z => w (hW a z))
  have g : Gr F H F' := ⟨by rw [← e1]; exact E'.ex0, fun a o h => by
    have := E'.gr a o h
    rw [e1, e2] at this
    exact this⟩
  have E2 : EnvR c F' H' L G := E.step g E'.ex kp hk
  obtain ⟨x, f0, hx, sr⟩ := E'.get (i := 0) rfl
  have ex : some v = x := by simpa using hx
  subst ex
  -- what is new is of nobody
  have new : ∀ a ∈ f0, H a = none := fun a ha => by rw [← e2]; exact (sr.own ha).2.2.2
  have sr2 : SlR c F' H' (some v) f0 r := by
    have z0 : ∀ a, H a = none → a ∉ c.W ∧ c.H0 a = none := fun a h0 => by
      have hpc : a ∉ c.W := fun z => E.wne z h0
      refine ⟨hpc, ?_⟩
      cases q : c.H0 a with
      | none => rfl
      | some u =>
        rw [E.fr a u q hpc] at h0
        cases h0
    cases r with
    | any => exact sr
    | im d => exact sr
    | vw d => cases hv
    | vo v π o => cases hv
    | hand => exact ⟨sr.1, by rw [sr.2, hp rfl]⟩
    | own d =>
      obtain ⟨p, r1, hu, ho, hF, hpW, h0⟩ := sr
      subst r1
      exact ⟨p, rfl, hu, ho, hF, z0 p (new p (List.mem_cons_self ..))⟩
    | deep u o =>
      obtain ⟨r1, r2, r3, r4⟩ := sr
      exact ⟨r1, r2, r3, fun a ha => ⟨(r4 a ha).1, z0 a (new a ha)⟩⟩
  obtain ⟨fp, h1, h2⟩ := E.sl
  refine { len := by simp [E2.len], ex0 := E2.ex0, ex := E2.ex, gr := E2.gr, fr := E2.fr, nw := E2.nw, hk := E2.hk, sl := ?_ }
  refine ⟨fun n => match n with | 0 => f0 | n + 1 => fp n, fun i t hs => ?_, fun i j q d1 d2 => ?_⟩
  · cases i with
    | zero =>
      have e : t = r := by simpa using hs.symm
      subst e
      exact ⟨some v, rfl, sr2⟩
    | succ i =>
      obtain ⟨x, hx, r⟩ := h1 i t (by simpa using hs)
      refine ⟨x, by simpa using hx, r.mono g.1 (fun a hn w _ => kp.eq hn w) fun a ha => ?_⟩
      obtain ⟨o1, o2, o3, o4⟩ := r.own ha
      cases q : F' a with
      | none => rfl
      | some o =>
        rcases g.2 a o q with z | z
        · rw [o2] at z
          cases z
        · exact absurd z o1
  · have fresh : ∀ i a, a ∈ fp i → a ∉ f0 := fun i a ha hb => by
      obtain ⟨_, hi⟩ := h2 i i a ha ha
      obtain ⟨x, _, r⟩ := h1 i G[i] (by simp [hi])
      exact (r.own ha).1 (new a hb)
    cases i with
    | zero =>
      cases j with
      | zero => exact ⟨rfl, by simp⟩
      | succ j => exact absurd d1 (fresh j q d2)
    | succ i =>
      cases j with
      | zero => exact absurd d2 (fresh i q d1)
      | succ j =>
        obtain ⟨z1, z2⟩ := h2 i j q d1 d2
        exact ⟨by rw [z1], by simpa using z2⟩
/-- a call's own entry: no hand -/
def c0 (F H : Hp) : C0 := ⟨F, H, [], 0, fun _ => True, fun _ _ _ _ _ => trivial, fun _ _ a h => by cases h⟩
theorem env_args {c : C0} {F H : Hp} {ds : List DL.D} {vs : List V} (e : Ex F H) (h : Dats F ds vs) (hk : c.hok H) (hn : ∀ a ∈ c.W, F a = none) (e1 : c.F0 = F) (e2 : c.H0 = H) : EnvR c F H (vs.map some) (ds.map Sl.im) where
  len := by simp [h.length]
  ex0 := by rw [e1]; exact Ex.refl F
  ex := e
  gr := fun a o z => .inl (by rw [e1]; exact z)
  fr := fun a o z _ => by rw [e2] at z; exact z
  nw := hn
  hk := hk
  sl := ⟨fun _ => [], fun i s hs => by
    rw [List.getElem?_map] at hs
    cases q : ds[i]? with
    | none =>
      rw [q] at hs
      cases hs
    | some d =>
      rw [q] at hs
      have es : Sl.im d = s := by simpa using hs
      subst es
      obtain ⟨v, hv, hd⟩ := h.get q
      exact ⟨some v, by rw [List.getElem?_map, hv]; rfl, rfl, v, rfl, hd⟩, fun i j p z => by cases z⟩
theorem nv_ims (ds : List DL.D) : NV (ds.map Sl.im) := fun s hs => by
  obtain ⟨d', _, rfl⟩ := List.mem_map.mp hs
  rfl
section
variable {X : Cx} {c : C0} {Γ : List Sl} {K : Sl → Prop} {pos p : Pos} {k : Nat} {f : Addr} {fd : FuncData} {ps : List Str} {pre : List Sl → Prop} {post : List Sl → Sl → Prop} {x : Str} {e : Expr} {es : List Expr}
/-- f(e, ..), no hand among the arguments -/
theorem wp_call (G : FnOk X.prog X.w X.K X.mg X.base L2.CX0 k f fd ps (SpD ps.length pre post)) (hr : Room k X.A) (hm : X.mg x = some (.ref f)) (hk : PySem.W.keepIn X.K (.ref f) = true) (hb : Binds X.K fd ps [])
    (h : WPa X c (e :: es) Γ fun rs => ∃ ds : List DL.D, rs = ds.map Sl.im ∧ ds.length = ps.length ∧ pre rs ∧ ∀ r, post rs r → isv r = false ∧ r ≠ .hand ∧ K r) (hg : Gl X x := by rfl) (hn : starEach (e :: es) X.env = (false, eval e X.env) :: starEach es X.env := by rfl) (hdb : (x == ("__debug__" : Str)) = false := by decide)
    (hpl : (backTo pos (starEach es X.env)).any (·.1) = false := by rfl) : WPe X c (.Call (.Name x p) (e :: es) [] pos) Γ K := fun F H stk S σ hl E Q q => by
  refine we_of (pe_call (E := L2.E0) G hr hg hm hk hb .nil L2.pass0 pa_wa hdb hn hpl) ?_
  refine h F H stk S σ hl E _ fun vs rs F1 H1 k1 hl1 E1 => ?_
  obtain ⟨ds, e1, hlen, hpre, k1⟩ := k1
  subst e1
  have hvl : vs.length = ds.length := by simpa using hl1
  obtain ⟨E2, hd⟩ := EnvR.dats hvl E1
  rw [List.append_nil]
  refine ⟨by rw [hvl, hlen], c0 F1 H1, F1, ds.map Sl.im, by simpa using hlen, hpre, nv_ims ds, rfl, rfl, env_args E2.ex hd trivial (fun a z => by cases z) rfl rfl, fun v r F' H' hpost E' => ?_⟩
  obtain ⟨h1, h2, h3⟩ := k1 r hpost
  refine q v r F' H' h3 (E2.ret E' rfl rfl (fun a z => by cases z) ?_ (fun z => absurd z h2) h1)
  refine c.stab H1 H' (fun a w => ?_) (fun a φ h => E'.fr a _ h (by intro z; cases z)) E2.hk
  cases z : H1 a with
  | none => exact absurd z (E2.wne w)
  | some o => exact E'.fr a o z (by intro z; cases z)
/-- f(hand, e, ..) -/
theorem wp_callH (G : FnOk X.prog X.w X.K X.mg X.base L2.CX0 k f fd ps (SpD ps.length pre post)) (hr : Room k X.A) (hm : X.mg x = some (.ref f)) (hk : PySem.W.keepIn X.K (.ref f) = true) (hb : Binds X.K fd ps [])
    (h : WPa X c (e :: es) Γ fun rs => ∃ ds : List DL.D, rs = Sl.hand :: ds.map Sl.im ∧ ds.length + 1 = ps.length ∧ pre rs ∧ ∀ r, post rs r → isv r = false ∧ K r) (hg : Gl X x := by rfl) (hn : starEach (e :: es) X.env = (false, eval e X.env) :: starEach es X.env := by rfl) (hdb : (x == ("__debug__" : Str)) = false := by decide)
    (hpl : (backTo pos (starEach es X.env)).any (·.1) = false := by rfl) : WPe X c (.Call (.Name x p) (e :: es) [] pos) Γ K := fun F H stk S σ hl E Q q => by
  refine we_of (pe_call (E := L2.E0) G hr hg hm hk hb .nil L2.pass0 pa_wa hdb hn hpl) ?_
  refine h F H stk S σ hl E _ fun vs rs F1 H1 k1 hl1 E1 => ?_
  obtain ⟨ds, e1, hlen, hpre, k1⟩ := k1
  subst e1
  cases vs with
  | nil => simp at hl1
  | cons v0 vs =>
    have hvl : vs.length = ds.length := by simpa using hl1
    have E1' : EnvR c F1 H1 (vs.reverse.map some ++ (some v0 :: (stk ++ σ))) ((ds.map Sl.im).reverse ++ (.hand :: (S ++ Γ))) := by simpa [List.append_assoc] using E1
    obtain ⟨E2, hd⟩ := EnvR.dats hvl E1'
    have e0 : v0 = .ref c.hp := by
      have := E2.hand (i := 0) rfl
      simpa using this
    subst e0
    rw [List.append_nil]
    let c1 : C0 := { c with F0 := F1, H0 := H1 }
    have EA : EnvR c1 F1 H1 (vs.map some) (ds.map Sl.im) := env_args E2.ex hd E2.hk E2.nw rfl rfl
    have EB : EnvR c1 F1 H1 (some (.ref c.hp) :: vs.map some) (.hand :: ds.map Sl.im) := EA.pushS ⟨rfl, rfl⟩
    refine ⟨by simp [hvl, hlen], c1, F1, .hand :: ds.map Sl.im, by simpa using hlen, hpre, (nv_ims ds).cons rfl, rfl, rfl, EB, fun v r F' H' hpost E' => ?_⟩
    obtain ⟨h1, h3⟩ := k1 r hpost
    exact q v r F' H' h3 (E2.pop.ret E' rfl rfl (fun a z => z) E'.hk (fun _ => rfl) h1)
end
end DL

set_option Elab.async false
set_option linter.all false
set_option maxRecDepth 100000
set_option maxHeartbeats 2000000
/-! DL5: promises of defs that are called where nothing is being shown (so repr of tuples and lists tells them whole) -/
namespace DL
open PySem PySem.Spec PyProof.Rows L2
/-- FnOk, where no guard of repr stands -/
structure FnG (P : Program) (w : World) (K : PySem.W.Frag) (mg : Str → Option Value) (base : Heap) (k : Nat) (f : Addr) (fd : FuncData) (ps : List Str) (sp : Sp) : Prop where
  len : ∀ vs H Q E, sp vs H Q E → vs.length = ps.length
  go : ∀ (A : Around) (outer : List Env) (s : Shared) (H : Hp) (args : Args) (us : List Value) (vs : List V) (Q : VK) (E : XK), A.guards = some [] → Room k A →
    Env0 P w K mg base A outer s H → BindsTo s fd args (ps.zip us) → Vals vs us → sp vs H Q E → codeAny (model P w) A (.call (.ref f) args) (CR L2.CX0 outer P w H s Q E) s
section
variable {P : Program} {w : World} {K : PySem.W.Frag} {mg : Str → Option Value} {base : Heap} {k : Nat} {f : Addr} {fd : FuncData} {ps : List Str} {sp : Sp}
theorem FnG.of (F : FnOk P w K mg base L2.CX0 k f fd ps sp) : FnG P w K mg base k f fd ps sp := ⟨F.len, fun A outer s H args us vs Q E _ => F.run A outer s H args us vs Q E⟩
theorem FnG.mono {j : Nat} (F : FnG P w K mg base j f fd ps sp) (h : j ≤ k) : FnG P w K mg base k f fd ps sp := ⟨F.len, fun A outer s H args us vs Q E hg hr => F.go A outer s H args us vs Q E hg (hr.mono h)⟩
theorem guards_deeper {A : Around} {env : Env} (h : A.guards = some []) : (A.deeper env).guards = some [] := h
/-- a def's own promise, by its body -/
theorem fn_G {x qual : Str} {st : Stmt} {N : List Str} (F : Fun K x qual st f fd) (S : FnScope N ps (defScope st)) {pre : List Sl → Prop} {post : List Sl → Sl → Prop}
    (hb : ∀ (cdv : Value) (A : Around) (outer : List Env) (s : Shared) (H : Hp) (E : XK) (c : C0) (rs : List Sl), A.guards = some [] → Room k (A.deeper (PyProof.Rows.envOfC qual (defScope st) s.heap.objs.size f cdv)) → rs.length = ps.length → pre rs →
      WPs (cxOf L2.CX0 P w K mg base N qual (defScope st) f cdv A outer s H E).nox c (defBody st) (rs ++ List.replicate (N.length - ps.length) .any) { nx := fun _ => post rs (.im .non), rt := post rs }) : FnG P w K mg base (k + 1) f fd ps (SpD ps.length pre post) := by
  obtain ⟨oc, od, kV, doc, pm, an, cdv, ct, osl, rfl, lk, hcd⟩ := F.ex
  refine ⟨fun vs H Q E h => h.1, fun A outer s H args us vs Q E hgd hr e0 hbd r h => ?_⟩
  obtain ⟨hl, c, F1, rs, hrl, hpre, nv, e1, e2, E1, q⟩ := h
  have inK : K.In s.heap := e0.mod.kin.keeps fun b o e => (e0.bs b o e).1
  have noLim : s.heap.NoLimit := e0.mod.nolimit.keeps fun b o e => (e0.bs b o e).1
  have kinds : ∀ y ∈ ps.zip us, (defScope st).names.lookup y.1 = some .local ∨ ((defScope st).names.lookup y.1 = some .cell ∧ ((cellsFrom (s.heap.objs.size + 1) (defScope st).names []).lookup y.1).isSome = true) := by
    rintro ⟨n, v⟩ hy
    rcases S.par n (List.of_mem_zip hy).1 with z | z
    · exact .inl z
    · exact .inr ⟨z, PySem.W.cellsFrom_some _ _ _ (.inl z)⟩
  apply codeAny_call_function hr.depth (inK _ _ lk) rfl S.co S.gen rfl (PySem.W.codeRec_of inK hcd)
  apply hbd
  apply wpAny_newFunctionEnv_cells S.kind kinds
  intro env he s1 x
  subst he
  refine ⟨noLim.keeps x.toInCall.keep, codeAny_func ?_⟩
  have I := inv_start (CX := L2.CX0) (P := P) (w := w) (K := K) (mg := mg) (base := base) (E := E) S hr.hd e0 hl r x
  have hst : L2.start N vs = vs.map some ++ List.replicate (N.length - ps.length) none := by
    unfold L2.start
    rw [hl]
  have W := hb cdv A outer s H E c rs hgd (hr.deeper _) hrl hpre F1 H _ ⟨E1.rest, nv.rest⟩ { nx := fun _ H' => Q .non H', rt := Q } ⟨fun Γ F H σ hn E' => q .non (.im .non) F H hn (E'.env.push (d := .non) rfl).only, fun r v F H hn E' => q v r F H hn E', fun Γ F H σ hn E' => hn.elim, fun Γ F H σ hn E' => hn.elim⟩
  have T := (pss_wss (X := (cxOf L2.CX0 P w K mg base N qual (defScope st) f cdv A outer s H E).nox) (sts := defBody st)).nox
  have run := T.run [] s1 (L2.start N vs) H { nx := fun _ H' => Q .non H', rt := Q } I (by rw [hst]; exact W)
  refine wpAny_mono run (fun fl s' hs => ?_) (fun e s' hs => hs)
  cases fl with
  | ret u =>
    obtain ⟨v, σ', H', J, rv, hq⟩ := hs
    exact ⟨v, H', J.os, J.bare, J.base, J.hok, rv, hq⟩
  | next =>
    obtain ⟨σ', H', J, hq⟩ := hs
    exact ⟨V.non, H', J.os, J.bare, J.base, J.hok, rfl, hq⟩
  | brk => exact hs.choose_spec.choose_spec.2.elim
  | cont => exact hs.choose_spec.choose_spec.2.elim
end
section
variable {X : Cx} {k : Nat} {f : Addr} {fd : FuncData} {ps : List Str} {sp : Sp} {x : Str} {p pos : Pos} {e : Expr} {es : List Expr} {t : TA}
/-- the call by its name -/
theorem pe_callG (G : FnG X.prog X.w X.K X.mg X.base k f fd ps sp) (hgd : X.A.guards = some []) (hr : Room k X.A) (hg : Gl X x) (hm : X.mg x = some (.ref f)) (hk : PySem.W.keepIn X.K (.ref f) = true) (hb : Binds X.K fd ps [])
    (ha : PA X (e :: es) t) (hdb : (x == ("__debug__" : Str)) = false := by decide) (he : starEach (e :: es) X.env = (false, eval e X.env) :: starEach es X.env := by rfl) (hpl : (backTo pos (starEach es X.env)).any (·.1) = false := by rfl) :
    PE X (.Call (.Name x p) (e :: es) [] pos) (fun σ H Q => t σ H fun vs H1 => sp vs H1 Q L2.E0) := by
  constructor
  intro pins s σ H Q I h
  apply wpAny_Call_Name_kw
  apply ld_glob I hg hm _ hdb
  apply PySem.W.callWith_K (h₀ := X.base) I.ok.mod.kin hk _ he hpl
  refine thn (ha.run pos pins s σ H _ I h) fun us s1 ⟨vs, H1, I1, r, q⟩ => ⟨I1.kIn, wpAny_call ?_⟩
  have hl : (us ++ ([] : List Value)).length = ps.length := by
    rw [List.append_nil, ← r.length]
    exact G.len _ _ _ _ q
  have hbind := hb s1 us I1.kIn hl
  rw [List.append_nil] at hbind
  refine codeAny_mono (G.go X.A X.stack s1 H1 ⟨us, []⟩ us vs Q L2.E0 hgd hr I1.env0 hbind r q) fun r s' hq => ?_
  cases r with
  | error e => exact hq.elim
  | ok fl =>
    cases fl with
    | ret u => exact I1.after hq
    | next => exact False.elim hq
    | brk => exact False.elim hq
    | cont => exact False.elim hq
end
section
variable {X : Cx} {c : C0} {Γ : List Sl} {K : Sl → Prop} {pos p : Pos} {k : Nat} {f : Addr} {fd : FuncData} {ps : List Str} {pre : List Sl → Prop} {post : List Sl → Sl → Prop} {x : Str} {e : Expr} {es : List Expr}
theorem wp_callG (G : FnG X.prog X.w X.K X.mg X.base k f fd ps (SpD ps.length pre post)) (hgd : X.A.guards = some []) (hr : Room k X.A) (hm : X.mg x = some (.ref f)) (hk : PySem.W.keepIn X.K (.ref f) = true) (hb : Binds X.K fd ps [])
    (h : WPa X c (e :: es) Γ fun rs => ∃ ds : List DL.D, rs = ds.map Sl.im ∧ ds.length = ps.length ∧ pre rs ∧ ∀ r, post rs r → isv r = false ∧ r ≠ .hand ∧ K r) (hg : Gl X x := by rfl) (hn : starEach (e :: es) X.env = (false, eval e X.env) :: starEach es X.env := by rfl) (hdb : (x == ("__debug__" : Str)) = false := by decide)
    (hpl : (backTo pos (starEach es X.env)).any (·.1) = false := by rfl) : WPe X c (.Call (.Name x p) (e :: es) [] pos) Γ K := fun F H stk S σ hl E Q q => by
  refine we_of (pe_callG G hgd hr hg hm hk hb pa_wa hdb hn hpl) ?_
  refine h F H stk S σ hl E _ fun vs rs F1 H1 k1 hl1 E1 => ?_
  obtain ⟨ds, e1, hlen, hpre, k1⟩ := k1
  subst e1
  have hvl : vs.length = ds.length := by simpa using hl1
  obtain ⟨E2, hd⟩ := EnvR.dats hvl E1
  refine ⟨by rw [hvl, hlen], c0 F1 H1, F1, ds.map Sl.im, by simpa using hlen, hpre, nv_ims ds, rfl, rfl, env_args E2.ex hd trivial (fun a z => by cases z) rfl rfl, fun v r F' H' hpost E' => ?_⟩
  obtain ⟨h1, h2, h3⟩ := k1 r hpost
  refine q v r F' H' h3 (E2.ret E' rfl rfl (fun a z => by cases z) ?_ (fun z => absurd z h2) h1)
  refine c.stab H1 H' (fun a w => ?_) (fun a φ h => E'.fr a _ h (by intro z; cases z)) E2.hk
  cases z : H1 a with
  | none => exact absurd z (E2.wne w)
  | some o => exact E'.fr a o z (by intro z; cases z)
theorem wp_callHG (G : FnG X.prog X.w X.K X.mg X.base k f fd ps (SpD ps.length pre post)) (hgd : X.A.guards = some []) (hr : Room k X.A) (hm : X.mg x = some (.ref f)) (hk : PySem.W.keepIn X.K (.ref f) = true) (hb : Binds X.K fd ps [])
    (h : WPa X c (e :: es) Γ fun rs => ∃ ds : List DL.D, rs = Sl.hand :: ds.map Sl.im ∧ ds.length + 1 = ps.length ∧ pre rs ∧ ∀ r, post rs r → isv r = false ∧ K r) (hg : Gl X x := by rfl) (hn : starEach (e :: es) X.env = (false, eval e X.env) :: starEach es X.env := by rfl) (hdb : (x == ("__debug__" : Str)) = false := by decide)
    (hpl : (backTo pos (starEach es X.env)).any (·.1) = false := by rfl) : WPe X c (.Call (.Name x p) (e :: es) [] pos) Γ K := fun F H stk S σ hl E Q q => by
  refine we_of (pe_callG G hgd hr hg hm hk hb pa_wa hdb hn hpl) ?_
  refine h F H stk S σ hl E _ fun vs rs F1 H1 k1 hl1 E1 => ?_
  obtain ⟨ds, e1, hlen, hpre, k1⟩ := k1
  subst e1
  cases vs with
  | nil => simp at hl1
  | cons v0 vs =>
    have hvl : vs.length = ds.length := by simpa using hl1
    have E1' : EnvR c F1 H1 (vs.reverse.map some ++ (some v0 :: (stk ++ σ))) ((ds.map Sl.im).reverse ++ (.hand :: (S ++ Γ))) := by simpa [List.append_assoc] using E1
    obtain ⟨E2, hd⟩ := EnvR.dats hvl E1'
    have e0 : v0 = .ref c.hp := by
      have := E2.hand (i := 0) rfl
      simpa using this
    subst e0
    let c1 : C0 := { c with F0 := F1, H0 := H1 }
    have EA : EnvR c1 F1 H1 (vs.map some) (ds.map Sl.im) := env_args E2.ex hd E2.hk E2.nw rfl rfl
    have EB : EnvR c1 F1 H1 (some (.ref c.hp) :: vs.map some) (.hand :: ds.map Sl.im) := EA.pushS ⟨rfl, rfl⟩
    refine ⟨by simp [hvl, hlen], c1, F1, .hand :: ds.map Sl.im, by simpa using hlen, hpre, (nv_ims ds).cons rfl, rfl, rfl, EB, fun v r F' H' hpost E' => ?_⟩
    obtain ⟨h1, h3⟩ := k1 r hpost
    exact q v r F' H' h3 (E2.pop.ret E' rfl rfl (fun a z => z) E'.hk (fun _ => rfl) h1)
end
/-! ### the law's own call -/
/-- the promise of the law's def: the script, a list of ints, is known -/
def LawG (P : Program) (w : World) (K : PySem.W.Frag) (mg : Str → Option Value) (k : Nat) (fa : Addr) (fd : FuncData) (x : Str) (n : Nat) : Prop :=
  ∀ base : Heap, K.In base → base.Ns mainGlobals mg → FnG P w K mg base k fa fd [x] (fun vs H Q _ => ∃ (a : Addr) (ns : List Int), vs = [.ref a] ∧ ns.length ≤ n ∧ Only H ∧ SqL K H a (ns.map V.int) ∧ ∀ H', Q (.bl true) H')
/-- the tracked heap of the start: the script alone, if it is no object of the module -/
def heap0 (K : PySem.W.Frag) (a : Addr) (o : Obj) (u : HO) : Hp := fun b => if b = a ∧ K.lookup a = none then some (.frz o u) else none
theorem heap0_cases {K : PySem.W.Frag} {a b : Addr} {o : Obj} {u : HO} : heap0 K a o u b = none ∨ (b = a ∧ K.lookup a = none ∧ heap0 K a o u b = some (.frz o u)) := by
  unfold heap0
  by_cases h : b = a ∧ K.lookup a = none
  · rw [if_pos h]
    exact .inr ⟨h.1, h.2, rfl⟩
  · rw [if_neg h]
    exact .inl rfl
theorem law_callG {P : Program} {w : World} {K : PySem.W.Frag} {mg mb : Str → Option Value} {k n : Nat} {fa a : Addr} {fd : FuncData} {x : Str} {s₁ : Shared} {vs : List Value} {ns : List Int}
    (KX : K.In s₁.heap) (hns : s₁.heap.Ns mainGlobals mg) (hb : s₁.heap.Ns builtinsNs mb) (hbb : ∀ x : Str, x ≠ "__name__" → mb x = bootBuiltins x) (hlim : s₁.heap.NoLimit) (hg : s₁.gens = #[])
    (ha : s₁.heap.get? a = some { cls := .type "list", data := .seq vs.toArray }) (hi : IntsAre vs ns) (hn : ns.length ≤ n) (hl : n ≤ sizeLine) (hr : Room k callerA)
    (F : LawG P w K mg k fa fd x n) (hbind : ∀ (s : Shared) (u : Value), BindsTo s fd ⟨[u], []⟩ [(x, u)]) :
    codeAny (model P w) callerA (.call (.ref fa) ⟨[.ref a], []⟩) (fun r s' => r = .ok (.ret (.bool true)) ∧ OldK s₁.heap s'.heap ∧ s'.os = s₁.os ∧ AllBare s'.gens) s₁ := by
  have rv := vals_ints hi
  let H : Hp := heap0 K a { cls := .type "list", data := .seq vs.toArray } (.lst (ns.map V.int))
  have hO : Only H := fun b => by
    rcases heap0_cases (K := K) (a := a) (b := b) (o := { cls := .type "list", data := .seq vs.toArray }) (u := .lst (ns.map V.int)) with z | ⟨_, _, z⟩
    · exact .inl z
    · exact .inr ⟨_, _, z⟩
  have hat : ∀ b u, H b = some u → b = a ∧ K.lookup a = none ∧ u = .frz { cls := .type "list", data := .seq vs.toArray } (.lst (ns.map V.int)) := fun b u hu => by
    rcases heap0_cases (K := K) (a := a) (b := b) (o := { cls := .type "list", data := .seq vs.toArray }) (u := .lst (ns.map V.int)) with z | ⟨z1, z2, z⟩
    · rw [show H b = none from z] at hu
      cases hu
    · rw [show H b = _ from z] at hu
      cases hu
      exact ⟨z1, z2, rfl⟩
  have hS : SqL K H a (ns.map V.int) := by
    cases hk : K.lookup a with
    | some o =>
      have e := KX a o hk
      rw [ha] at e
      cases e
      exact .inr ⟨_, vs.toArray, _, hk, rfl, rfl, rfl, by rw [List.size_toArray, ← rv.length, List.length_map]; omega, by simpa using rv⟩
    | none => exact .inl (.inr ⟨{ cls := .type "list", data := .seq vs.toArray }, if_pos ⟨rfl, hk⟩⟩)
  have hok : HOk P w H s₁.heap := fun b u hu => by
    obtain ⟨rfl, _, rfl⟩ := hat b u hu
    exact ⟨ha, by rw [List.length_map]; omega, vs, _, rv, ha⟩
  have free : ∀ {b : Addr} {o : Obj} {es : Array DictEntry} {ep : Nat}, s₁.heap.get? b = some o → o.data = .dict es ep → H b = none := fun {b o es ep} e d => by
    cases q : H b with
    | none => rfl
    | some u =>
      obtain ⟨rfl, _, _⟩ := hat b u q
      rw [ha] at e
      cases e
      exact absurd d (by intro z; cases z)
  have nsK : ∀ {b : Addr} {m : Str → Option Value}, s₁.heap.Ns b m → (hidT s₁.heap H).Ns b m := fun {b m} z => by
    obtain ⟨o, es, ep, e, d, r⟩ := z
    exact ⟨o, es, ep, hidT_get e (free e d), d, r⟩
  have hKb : K.In (hidT s₁.heap H) := fun b o e => hidT_get (KX b o e) (by
    cases q : H b with
    | none => rfl
    | some u =>
      obtain ⟨rfl, h2, _⟩ := hat b u q
      rw [h2] at e
      cases e)
  have lim' : (hidT s₁.heap H).NoLimit := by
    obtain ⟨mc, h1, h2⟩ := hlim
    exact ⟨mc, nsK h1, h2⟩
  have e0 : Env0 P w K mg (hidT s₁.heap H) callerA [] s₁ H := by
    refine ⟨rfl, ⟨hKb, nsK hns, ⟨mb, nsK hb, hbb⟩, lim'⟩, fun b o e => of_hidT e, Nat.le_of_eq (hidT_size _ _), trivial, fun b hb => ?_, hok, .of_eq hg⟩
    cases hb
  have R := (F _ hKb (nsK hns)).go callerA [] s₁ H ⟨[.ref a], []⟩ [.ref a] [.ref a] (fun v _ => v = .bl true) L2.E0 rfl hr e0 (hbind s₁ (.ref a)) (.cons rfl .nil) ⟨a, ns, rfl, hn, hO, hS, fun _ => rfl⟩
  refine codeAny_mono R fun r s' h => ?_
  cases r with
  | error e => exact h.elim
  | ok fl =>
    cases fl with
    | next => exact False.elim h
    | brk => exact False.elim h
    | cont => exact False.elim h
    | ret u =>
      obtain ⟨v, H', os, bare, un, hok', r', q⟩ := h
      have q' : v = .bl true := q
      subst q'
      have eu : u = Value.bool true := r'
      subst eu
      refine ⟨rfl, OldK.of_keep fun b o e => ?_, os, bare⟩
      cases q : H b with
      | none => exact un.keep b o e q (fun z => by cases z) (fun z => by cases z)
      | some y =>
        obtain ⟨rfl, _, rfl⟩ := hat b y q
        obtain ⟨e1, _⟩ := hok _ _ q
        obtain ⟨e2, _⟩ := hok' _ _ (un.frzs _ _ _ q)
        rw [e] at e1
        cases e1
        exact e2
/-- the goal that k_head leaves -/
theorem walk_ofG {l : PySem.W.OpenLaw} {n k : Nat} {q : Program} {loose : List Str} {XP : (Str → Option Value) → Heap → Prop} {YP : World → Heap → Prop} {d : DefRec} {K : Params → PySem.W.Frag} {x : Str}
    (hn : l.most = some n) (hn2 : n ≤ sizeLine) (hdf : d.params.defaults = []) (hr : Room k callerA)
    (hY : ∀ (w : World) (h : Heap), YP w h → (K w.params).In h)
    (F : ∀ (w : World) (mg : Str → Option Value) (fa : Addr) (h : Heap), (K w.params).In h → h.Ns mainGlobals mg → mg d.name = some (.ref fa) →
      ∃ fd : FuncData, (∀ (s : Shared) (u : Value), BindsTo s fd ⟨[u], []⟩ [(x, u)]) ∧ LawG l.prog w (K w.params) mg k fa fd x n) :
    PySem.W.WalkO q loose XP YP l.row.toRowW d [] (fun f vs => PySem.call f vs) := by
  refine Att.attach_call hn hdf fun w s₀ s₁ mg mb fa o pm cd doc a vs ns G Y ho hd hcd hmg hobj hints hlen hg => ?_
  have KX := hY w _ Y
  obtain ⟨fd, hb, hF⟩ := F w mg fa _ KX G.T.g hmg
  exact law_callG KX G.T.g G.T.b G.T.builtins G.T.nolimit hg hobj hints hlen hn2 hr hF hb
end DL

set_option Elab.async false
set_option linter.all false
set_option maxRecDepth 100000
set_option maxHeartbeats 2000000
/-! DL6: operations and built-ins on known data -/
namespace DL
open PySem PySem.Spec PyProof.Rows L2
mutual
def py : D → PyData
  | .non => .none
  | .bl b => .bool b
  | .int i => .int i
  | .str s => .str s
  | .tup l => .tuple (pys l)
  | .lst l => .list (pys l)
  | .dct _ _ => .dict []
def pys : List D → List PyData
  | [] => []
  | d :: r => py d :: pys r
end
theorem pys_map : ∀ l : List D, pys l = l.map py
  | [] => by simp [pys]
  | d :: r => by rw [pys, pys_map r]; rfl
mutual
theorem Dat.dp {X : Cx} {F H : Hp} (e : Ex F H) : ∀ {d : D} {v : V}, (py d).canLay0 = true → Dat F d v → Dp X.K H v (py d)
  | .non, v, _, h => by
    have h' : v = .non := h
    rw [h', py]
    exact .non
  | .bl b, v, _, h => by
    have h' : v = .bl b := h
    rw [h', py]
    exact .bl b
  | .int i, v, _, h => by
    have h' : v = .int i := h
    rw [h', py]
    exact .int i
  | .str s, v, _, h => by
    have h' : v = .str s := h
    rw [h', py]
    exact .str s
  | .tup l, v, z, h => by
    obtain ⟨p, vs, h1, h2, h3⟩ := h
    rw [h1, py]
    rw [py, PyData.canLay0] at z
    exact .tup (.inl (.inl (e _ _ h2))) (Dats.dp e z h3)
  | .lst l, v, z, h => by
    obtain ⟨p, vs, h1, h2, h3⟩ := h
    rw [h1, py]
    rw [py, PyData.canLay0] at z
    exact .lst (.inl (.inl (e _ _ h2))) (Dats.dp e z h3)
  | .dct ks l, v, z, h => by
    rw [py, PyData.canLay0] at z
    cases z
theorem Dats.dp {X : Cx} {F H : Hp} (e : Ex F H) : ∀ {l : List D} {vs : List V}, PyData.canLayAll0 (pys l) = true → Dats F l vs → DpAll X.K H vs (pys l)
  | [], vs, _, h => by
    have h' : vs = [] := h
    rw [h', pys]
    exact .nil
  | d :: r, vs, z, h => by
    obtain ⟨v, w, h1, h2, h3⟩ := h
    rw [h1, pys]
    rw [pys, PyData.canLayAll0, Bool.and_eq_true] at z
    exact .cons (Dat.dp e z.1 h2) (Dats.dp e z.2 h3)
end
/-- what an operand's slot holds -/
def lst? : Sl → Option (List D)
  | .im (.lst l) => some l
  | .vw (.lst l) => some l
  | _ => none
def seq? : Sl → Option (List D)
  | .im (.lst l) => some l
  | .vw (.lst l) => some l
  | .im (.tup l) => some l
  | _ => none
def dct? : Sl → Option (List Key × List D)
  | .im (.dct ks l) => some (ks, l)
  | .vw (.dct ks l) => some (ks, l)
  | _ => none
section
variable {c : C0} {F H : Hp} {σ : L2.St} {Γ : List Sl}
theorem EnvR.lstAt (E : EnvR c F H σ Γ) {i : Nat} {r : Sl} {l : List D} {v : V} (h : Γ[i]? = some r) (hv : σ[i]? = some (some v)) (hl : lst? r = some l) : ∃ p vs, v = .ref p ∧ H p = some (.lst vs) ∧ Dats F l vs := by
  cases r with
  | im d =>
    cases d with
    | lst l' =>
      cases hl
      obtain ⟨u, hu, p, vs, h1, h2, h3⟩ := E.im h
      rw [hv] at hu
      cases hu
      exact ⟨p, vs, h1, E.ex _ _ h2, h3⟩
    | _ => cases hl
  | vw d =>
    cases d with
    | lst l' =>
      cases hl
      obtain ⟨x, o, hx, _, p, hp, ⟨vs, h1, h2⟩, _⟩ := E.get h
      rw [hv] at hx
      have e := (Option.some.inj hx).trans hp
      cases e
      exact ⟨p, vs, rfl, h1, h2⟩
    | _ => cases hl
  | _ => cases hl
theorem EnvR.seqAt {K : PySem.W.Frag} (E : EnvR c F H σ Γ) {i : Nat} {r : Sl} {l : List D} {v : V} (h : Γ[i]? = some r) (hv : σ[i]? = some (some v)) (hl : seq? r = some l) : ∃ p vs, v = .ref p ∧ (SqL K H p vs ∨ SqT K H p vs) ∧ Dats F l vs := by
  have key : lst? r = some l → ∃ p vs, v = .ref p ∧ (SqL K H p vs ∨ SqT K H p vs) ∧ Dats F l vs := fun z => by
    obtain ⟨p, vs, h1, h2, h3⟩ := E.lstAt h hv z
    exact ⟨p, vs, h1, .inl (.inl (.inl h2)), h3⟩
  cases r with
  | im d =>
    cases d with
    | lst l' => exact key hl
    | tup l' =>
      cases hl
      obtain ⟨u, hu, p, vs, h1, h2, h3⟩ := E.im h
      rw [hv] at hu
      cases hu
      exact ⟨p, vs, h1, .inr (.inl (.inl (E.ex _ _ h2))), h3⟩
    | _ => cases hl
  | vw d =>
    cases d with
    | lst l' => exact key hl
    | _ => cases hl
  | _ => cases hl
theorem EnvR.dctAt (E : EnvR c F H σ Γ) {i : Nat} {r : Sl} {ks : List Key} {l : List D} {v : V} (h : Γ[i]? = some r) (hv : σ[i]? = some (some v)) (hl : dct? r = some (ks, l)) : ∃ p vs, v = .ref p ∧ H p = some (.dK (ks.zip vs)) ∧ ks.length = l.length ∧ Dats F l vs := by
  cases r with
  | im d =>
    cases d with
    | dct k' l' =>
      cases hl
      obtain ⟨u, hu, p, vs, h1, h2, h3, h4⟩ := E.im h
      rw [hv] at hu
      cases hu
      exact ⟨p, vs, h1, E.ex _ _ h2, h3, h4⟩
    | _ => cases hl
  | vw d =>
    cases d with
    | dct k' l' =>
      cases hl
      obtain ⟨x, o, hx, _, p, hp, ⟨vs, h1, h2, h3⟩, _⟩ := E.get h
      rw [hv] at hx
      have e := (Option.some.inj hx).trans hp
      cases e
      exact ⟨p, vs, rfl, h1, h2, h3⟩
    | _ => cases hl
  | _ => cases hl
theorem EnvR.imAt (E : EnvR c F H σ Γ) {i : Nat} {d : D} {v : V} (h : Γ[i]? = some (.im d)) (hv : σ[i]? = some (some v)) : Dat F d v := by
  obtain ⟨u, hu, hd⟩ := E.im h
  rw [hv] at hu
  cases hu
  exact hd
end
section
variable {X : Cx} {c : C0} {K : Sl → Prop} {f : Value → Value → Sem Value} {rr : R2}
/-! ### two-place operations -/
/-- on known data, telling known data -/
theorem opd_val (h : OpR X f rr) {da db dr : D} (hq : ∀ F H x y, Ex F H → Dat F da x → Dat F db y → ∃ v, Dat F dr v ∧ ∀ Q : VK, Q v H → rr x y H Q) (k : K (.im dr)) : OpD X c f (.im da) (.im db) K := fun F H L G x y E Q q pins s σ u w I rx ry => by
  have hx := E.imAt (i := 1) rfl rfl
  have hy := E.imAt (i := 0) rfl rfl
  obtain ⟨v, hv, hr⟩ := hq F H x y E.ex hx hy
  exact h pins s σ H x y u w Q I rx ry (hr Q (q v _ F H k (E.pop.pop.push hv)))
theorem opd_ii {g : Int → Int → V} (h : OpR X f (rI0 g)) {i j : Int} {dr : D} (hg : ∀ F, Dat F dr (g i j)) (k : K (.im dr)) : OpD X c f (.im (.int i)) (.im (.int j)) K :=
  opd_val h (fun F H x y _ hx hy => ⟨g i j, hg F, fun Q q => ⟨i, j, hx, hy, q⟩⟩) k
theorem opd_iic {C : Int → Int → Prop} {g : Int → Int → V} (h : OpR X f (rI C g)) {i j : Int} {dr : D} (hc : C i j) (hg : ∀ F, Dat F dr (g i j)) (k : K (.im dr)) : OpD X c f (.im (.int i)) (.im (.int j)) K :=
  opd_val h (fun F H x y _ hx hy => ⟨g i j, hg F, fun Q q => ⟨i, j, hx, hy, hc, q⟩⟩) k
variable {i j : Int}
theorem od_add (k : K (.im (.int (i + j)))) : OpD X c (binaryOp .Add) (.im (.int i)) (.im (.int j)) K := opd_ii (dr := .int (i + j)) op_add (fun _ => rfl) k
theorem od_sub (k : K (.im (.int (i - j)))) : OpD X c (binaryOp .Sub) (.im (.int i)) (.im (.int j)) K := opd_ii (dr := .int (i - j)) op_sub (fun _ => rfl) k
theorem od_lt (k : K (.im (.bl (decide (i < j))))) : OpD X c (compareOp .Lt) (.im (.int i)) (.im (.int j)) K := opd_ii (dr := .bl (decide (i < j))) op_lt (fun _ => rfl) k
theorem od_le (k : K (.im (.bl (decide (i ≤ j))))) : OpD X c (compareOp .LtE) (.im (.int i)) (.im (.int j)) K := opd_ii (dr := .bl (decide (i ≤ j))) op_le (fun _ => rfl) k
theorem od_gt (k : K (.im (.bl (decide (j < i))))) : OpD X c (compareOp .Gt) (.im (.int i)) (.im (.int j)) K := opd_ii (dr := .bl (decide (j < i))) op_gt (fun _ => rfl) k
theorem od_ge (k : K (.im (.bl (decide (j ≤ i))))) : OpD X c (compareOp .GtE) (.im (.int i)) (.im (.int j)) K := opd_ii (dr := .bl (decide (j ≤ i))) op_ge (fun _ => rfl) k
theorem od_iadd (k : K (.im (.int (i + j)))) : OpD X c (inplaceOp .Add) (.im (.int i)) (.im (.int j)) K := fun F H L G x y E Q q pins s σ u w I rx ry =>
  ip_add pins s σ H x y u w Q I rx ry ⟨i, j, E.imAt (i := 1) rfl rfl, E.imAt (i := 0) rfl rfl, q _ (.im (.int (i + j))) F H k (E.pop.pop.push rfl)⟩
theorem od_isub (k : K (.im (.int (i - j)))) : OpD X c (inplaceOp .Sub) (.im (.int i)) (.im (.int j)) K := fun F H L G x y E Q q pins s σ u w I rx ry =>
  ip_sub pins s σ H x y u w Q I rx ry ⟨i, j, E.imAt (i := 1) rfl rfl, E.imAt (i := 0) rfl rfl, q _ (.im (.int (i - j))) F H k (E.pop.pop.push rfl)⟩
theorem od_eqI (k : K (.im (.bl (decide (i = j))))) : OpD X c (compareOp .Eq) (.im (.int i)) (.im (.int j)) K :=
  opd_val (dr := .bl (decide (i = j))) op_eq (fun F H x y _ hx hy => ⟨.bl (decide (i = j)), rfl, fun Q q => by
    rw [show x = .int i from hx, show y = .int j from hy]
    exact ⟨rfl, by simpa using q⟩⟩) k
theorem od_neI (k : K (.im (.bl (!decide (i = j))))) : OpD X c (compareOp .NotEq) (.im (.int i)) (.im (.int j)) K :=
  opd_val (dr := .bl (!decide (i = j))) op_ne (fun F H x y _ hx hy => ⟨.bl (!decide (i = j)), rfl, fun Q q => by
    rw [show x = .int i from hx, show y = .int j from hy]
    exact ⟨rfl, by simpa using q⟩⟩) k
variable {a b : Str}
theorem od_eqS (k : K (.im (.bl (decide (a = b))))) : OpD X c (compareOp .Eq) (.im (.str a)) (.im (.str b)) K :=
  opd_val (dr := .bl (decide (a = b))) op_eq (fun F H x y _ hx hy => ⟨.bl (decide (a = b)), rfl, fun Q q => by
    rw [show x = .str a from hx, show y = .str b from hy]
    exact ⟨rfl, by simpa using q⟩⟩) k
theorem od_neS (k : K (.im (.bl (!decide (a = b))))) : OpD X c (compareOp .NotEq) (.im (.str a)) (.im (.str b)) K :=
  opd_val (dr := .bl (!decide (a = b))) op_ne (fun F H x y _ hx hy => ⟨.bl (!decide (a = b)), rfl, fun Q q => by
    rw [show x = .str a from hx, show y = .str b from hy]
    exact ⟨rfl, by simpa using q⟩⟩) k
theorem od_eqD (hu : X.A.units + 64 < cLine) {d e : D} (h1 : SeqAt.shaped (py d) = true) (h2 : SeqAt.shaped (py e) = true) (k : K (.im (.bl (PyData.eqv (py d) (py e))))) : OpD X c (compareOp .Eq) (.im d) (.im e) K :=
  opd_val (dr := .bl (PyData.eqv (py d) (py e))) (op_eqD hu) (fun F H x y ex hx hy => ⟨.bl _, rfl, fun Q q => ⟨py d, py e, hx.dp ex (SeqAt.canLay_of_shaped h1), hy.dp ex (SeqAt.canLay_of_shaped h2), h1, h2, q⟩⟩) k
theorem od_neD (hu : X.A.units + 64 < cLine) {d e : D} (h1 : SeqAt.shaped (py d) = true) (h2 : SeqAt.shaped (py e) = true) (k : K (.im (.bl (!PyData.eqv (py d) (py e))))) : OpD X c (compareOp .NotEq) (.im d) (.im e) K :=
  opd_val (dr := .bl (!PyData.eqv (py d) (py e))) (op_neD hu) (fun F H x y ex hx hy => ⟨.bl _, rfl, fun Q q => ⟨py d, py e, hx.dp ex (SeqAt.canLay_of_shaped h1), hy.dp ex (SeqAt.canLay_of_shaped h2), h1, h2, q⟩⟩) k
theorem od_notInStr {z : Bool} (hz : (Builtin.Str.occurrences b a 0 b.length 1).isEmpty = z) (k : K (.im (.bl z))) : OpD X c (compareOp .NotIn) (.im (.str a)) (.im (.str b)) K :=
  opd_val (dr := .bl z) op_notIn_str (fun F H x y _ hx hy => ⟨.bl z, rfl, fun Q q => ⟨a, b, hx, hy, by rw [hz]; cases z <;> exact q⟩⟩) k
/-- a text in a list or tuple of texts -/
theorem flat_strs : ∀ (l : List Str), (l.map V.str).all flatV = true
  | [] => rfl
  | _ :: r => flat_strs r
theorem in_strs {a : Str} : ∀ (l : List Str), inV (.str a) (l.map V.str) = decide (a ∈ l)
  | [] => rfl
  | b :: r => by
    have ih := in_strs (a := a) r
    unfold inV at ih ⊢
    rw [List.map_cons, List.any_cons, ih]
    have e : eqV (.str b) (.str a) = decide (a = b) := by
      show (b == a) = decide (a = b)
      by_cases q : a = b
      · subst q
        simp
      · have q2 : ¬ b = a := fun z => q z.symm
        simp [q, q2]
    rw [e]
    simp [List.mem_cons]
theorem od_inS {r : Sl} {l : List Str} (hr : seq? r = some (l.map D.str)) (k : K (.im (.bl (decide (a ∈ l))))) : OpD X c (compareOp .In) (.im (.str a)) r K := fun F H L G x y E Q q pins s σ u w I rx ry => by
  obtain ⟨p, vs, e1, h2, h3⟩ := E.seqAt (K := X.K) (i := 0) rfl rfl hr
  have hx : x = .str a := E.imAt (i := 1) rfl rfl
  subst e1 hx
  rw [h3.strs] at h2
  exact op_in_seq pins s σ H _ _ u w Q I rx ry ⟨p, l.map V.str, rfl, h2, rfl, flat_strs l, by
    rw [if_neg Bool.false_ne_true, in_strs]
    exact q _ (.im (.bl (decide (a ∈ l)))) F H k (E.pop.pop.push rfl)⟩
theorem od_notInS {r : Sl} {l : List Str} (hr : seq? r = some (l.map D.str)) (k : K (.im (.bl (!decide (a ∈ l))))) : OpD X c (compareOp .NotIn) (.im (.str a)) r K := fun F H L G x y E Q q pins s σ u w I rx ry => by
  obtain ⟨p, vs, e1, h2, h3⟩ := E.seqAt (K := X.K) (i := 0) rfl rfl hr
  have hx : x = .str a := E.imAt (i := 1) rfl rfl
  subst e1 hx
  rw [h3.strs] at h2
  exact op_notIn_seq pins s σ H _ _ u w Q I rx ry ⟨p, l.map V.str, rfl, h2, rfl, flat_strs l, by
    rw [if_pos rfl, in_strs]
    exact q _ (.im (.bl (!decide (a ∈ l)))) F H k (E.pop.pop.push rfl)⟩
/-- list + list -/
theorem od_cat {ra rb : Sl} {l m : List D} (h1 : lst? ra = some l) (h2 : lst? rb = some m) (hz : l.length + m.length ≤ sizeLine) (k : K (.own (.lst (l ++ m)))) : OpD X c (binaryOp .Add) ra rb K := fun F H L G x y E Q q pins s σ u w I rx ry => by
  obtain ⟨p, vs, e1, h3, h4⟩ := E.lstAt (i := 1) rfl rfl h1
  obtain ⟨p2, ws, e2, h5, h6⟩ := E.lstAt (i := 0) rfl rfl h2
  subst e1 e2
  exact op_cat pins s σ H _ _ u w Q I rx ry ⟨p, p2, vs, ws, rfl, rfl, h3, h5, by rw [← h4.length, ← h6.length]; exact hz, fun a ha => q _ (.own (.lst (l ++ m))) F _ k (E.pop.pop.pushOwn ha ⟨vs ++ ws, upd_same, h4.append h6⟩)⟩
theorem od_catStr (hz : a.length + b.length ≤ sizeLine) (k : K (.im (.str (a ++ b)))) (h : OpR X (binaryOp .Add) (fun x y H Q => ∃ i j, x = .str i ∧ y = .str j ∧ i.length + j.length ≤ sizeLine ∧ Q (.str (i ++ j)) H)) : OpD X c (binaryOp .Add) (.im (.str a)) (.im (.str b)) K :=
  opd_val (dr := .str (a ++ b)) h (fun F H x y _ hx hy => ⟨.str (a ++ b), rfl, fun Q q => ⟨a, b, hx, hy, hz, q⟩⟩) k
/-! ### xs[i] -/
theorem xd_seq {r : Sl} {l : List D} {i : Int} {d : D} (hr : seq? r = some l) (hi : atI l i = some d) (k : K (.im d)) : IxD X c r (.im (.int i)) K := fun F H L G x y E Q q value slice pins s σ v u I rx ry hs => by
  obtain ⟨p, vs, e1, h2, h3⟩ := E.seqAt (K := X.K) (i := 1) rfl rfl hr
  have hy : y = .int i := E.imAt (i := 0) rfl rfl
  subst e1 hy
  have hat : ∃ z, atI vs i = some z ∧ Dat F d z := by
    unfold atI at hi ⊢
    cases q : ixN l.length i with
    | none =>
      rw [q] at hi
      cases hi
    | some n =>
      rw [q] at hi
      rw [← h3.length, q]
      exact h3.get hi
  obtain ⟨z, hz, hd⟩ := hat
  have fin := q z (.im d) F H k (E.pop.pop.push hd)
  rcases h2 with h2 | h2
  · exact ix_list value slice pins s σ H _ _ v u Q I rx ry ⟨p, vs, i, z, rfl, rfl, h2, hz, fin⟩ hs
  · exact ix_tup value slice pins s σ H _ _ v u Q I rx ry ⟨p, vs, i, z, rfl, rfl, h2, hz, fin⟩ hs
/-! ### calls -/
theorem cd_val {fv : Value} {cr : List V → Hp → VK → Prop} (h : CallR X fv cr) {ds : List D} {dr : D} (hq : ∀ F H xs, Ex F H → Dats F ds xs → ∃ v, Dat F dr v ∧ ∀ Q : VK, Q v H → cr xs H Q) (k : K (.im dr)) : CallD X c fv (ds.map Sl.im) K := fun F H L G vs hl E Q q pins s σ us I r => by
  obtain ⟨E2, hd⟩ := EnvR.dats (by simpa using hl) E
  obtain ⟨v, hv, hr⟩ := hq F H vs E2.ex hd
  exact h pins s σ H vs us Q I r (hr Q (q v _ F H k (E2.push hv)))
theorem cd_one {fv : Value} {cr : List V → Hp → VK → Prop} (h : CallR X fv cr) {r : Sl} (hq : ∀ F H L G v, EnvR c F H (some v :: L) (r :: G) → ∀ Q : VK, (∀ w r' F' H', K r' → EnvR c F' H' (some w :: L) (r' :: G) → Q w H') → cr [v] H Q) : CallD X c fv [r] K := fun F H L G vs hl E Q q pins s σ us I rv => by
  cases vs with
  | nil => simp at hl
  | cons v w =>
    cases w with
    | nil => exact h pins s σ H _ us Q I rv (hq F H L G v E Q q)
    | cons => simp at hl
theorem cd_len {r : Sl} {l : List D} (hr : seq? r = some l) (k : K (.im (.int l.length))) : CallD X c (.builtin "len") [r] K := cd_one call_len_seq fun F H L G v E Q q => by
  obtain ⟨p, vs, e1, h2, h3⟩ := E.seqAt (K := X.K) (i := 0) rfl rfl hr
  exact ⟨p, vs, by rw [e1], h2, by rw [← h3.length]; exact q _ (.im (.int l.length)) F H k (E.pop.push rfl)⟩
theorem cd_min (hc : X.calm = true) {i j : Int} (k : K (.im (.int (min i j)))) : CallD X c (.builtin "min") [.im (.int i), .im (.int j)] K :=
  cd_val (ds := [.int i, .int j]) (dr := .int (min i j)) (call_min2 hc) (fun F H xs _ hx => ⟨.int (min i j), rfl, fun Q q => by
    obtain ⟨v, w, e, hv, v2, w2, e2, hv2, e3⟩ := hx
    have e3' : w2 = [] := e3
    subst e3' e2 e
    rw [show v = .int i from hv, show v2 = .int j from hv2]
    refine ⟨i, j, rfl, ?_⟩
    have e : min i j = if j < i then j else i := by
      split <;> omega
    rw [e] at q
    exact q⟩) k
theorem cd_list {r : Sl} {l : List D} (hr : seq? r = some l) (k : K (.own (.lst l))) : CallD X c (.type "list") [r] K := cd_one call_list_of fun F H L G v E Q q => by
  obtain ⟨p, vs, e1, h2, h3⟩ := E.seqAt (K := X.K) (i := 0) rfl rfl hr
  exact ⟨p, vs, by rw [e1], h2, fun a ha => q _ (.own (.lst l)) F _ k (E.pop.pushOwn ha ⟨vs, upd_same, h3⟩)⟩
theorem cd_tuple {r : Sl} {l : List D} (hr : seq? r = some l) (k : K (.im (.tup l))) : CallD X c (.type "tuple") [r] K := cd_one call_tuple_of fun F H L G v E Q q => by
  have key : lst? r = some l → ∃ p ys, [v] = [V.ref p] ∧ ((SqL X.K H p ys ∧ ∀ l, H l = none → Q (.ref l) (upd H l (.tup ys))) ∨ (SqT X.K H p ys ∧ Q (.ref p) H)) := fun z => by
    obtain ⟨p, vs, h1, h2, h3⟩ := E.lstAt (i := 0) rfl rfl z
    exact ⟨p, vs, by rw [h1], .inl ⟨.inl (.inl h2), fun a ha => q _ (.im (.tup l)) _ _ k (E.pop.pushTup ha h3)⟩⟩
  cases r with
  | im d =>
    cases d with
    | lst l' => exact key hr
    | tup l' =>
      cases hr
      obtain ⟨p, vs, h1, h2, h3⟩ := E.imAt (i := 0) rfl rfl
      exact ⟨p, vs, by rw [h1], .inr ⟨.inl (.inl (E.ex _ _ h2)), q _ (.im (.tup l)) F H k (by rw [← h1]; exact E)⟩⟩
    | _ => cases hr
  | vw d =>
    cases d with
    | lst l' => exact key hr
    | _ => cases hr
  | _ => cases hr
theorem cd_sum (hc : X.calm = true) {r : Sl} {ns : List Int} (hr : lst? r = some (ns.map D.int)) (k : K (.im (.int ns.sum))) : CallD X c (.builtin "sum") [r] K := cd_one (cr_sum hc) fun F H L G v E Q q => by
  obtain ⟨p, vs, e1, h2, h3⟩ := E.lstAt (i := 0) rfl rfl hr
  rw [h3.ints] at h2
  exact ⟨p, ns, by rw [e1], .inl (.inl h2), q _ (.im (.int ns.sum)) F H k (E.pop.push rfl)⟩
theorem Dats.bls {F : Hp} : ∀ {ns : List Bool} {vs : List V}, Dats F (ns.map D.bl) vs → vs = ns.map V.bl
  | [], vs, h => h
  | n :: r, vs, h => by
    obtain ⟨v, w, rfl, hd, q⟩ := h
    have e : v = .bl n := hd
    rw [e, Dats.bls q]
    rfl
theorem cd_all (hc : X.calm = true) {r : Sl} {bs : List Bool} (hr : lst? r = some (bs.map D.bl)) (k : K (.im (.bl (bs.all id)))) : CallD X c (.builtin "all") [r] K := cd_one (cr_all hc) fun F H L G v E Q q => by
  obtain ⟨p, vs, e1, h2, h3⟩ := E.lstAt (i := 0) rfl rfl hr
  rw [h3.bls] at h2
  exact ⟨p, bs, by rw [e1], .inl (.inl h2), q _ (.im (.bl (bs.all id))) F H k (E.pop.push rfl)⟩
/-- repr of nested lists and tuples -/
theorem cd_repr (hg : X.A.guards = some []) (hu : X.A.units + 64 < cLine) {r : Sl} {l : List D} {d : D} (hr : r = .im d) (hd : d = .tup l ∨ d = .lst l) (hl : (py d).canLay0 = true) (hdp : (py d).depth ≤ 60) (hs : (py d).showable = true) (hz : (py d).shown.length ≤ sizeLine) (k : K (.im (.str (py d).shown))) : CallD X c (.builtin "repr") [r] K := fun F H L G vs hl' E Q q pins s σ us I rv => by
  subst hr
  cases vs with
  | nil => simp at hl'
  | cons v w =>
    cases w with
    | cons => simp at hl'
    | nil =>
      have hv := E.imAt (i := 0) rfl rfl
      have hp := hv.dp (X := X) E.ex hl
      obtain ⟨u, eu, ru⟩ := vals1 rv
      subst eu
      obtain ⟨as, R⟩ := Dp.reads I (py d) v u hp ru
      obtain ⟨p, ep⟩ : ∃ p, u = .ref p := by
        rcases hd with e | e
        · subst e
          obtain ⟨p, vs, h1, _⟩ := hv
          subst h1
          exact ⟨p, ru⟩
        · subst e
          obtain ⟨p, vs, h1, _⟩ := hv
          subst h1
          exact ⟨p, ru⟩
      subst ep
      refine repr_of_reads' R hs (fun z => ?_) hg (by omega) (fun _ _ e => e) (fun h' t tk hk => ?_) hz
      · rw [PyData.hasDict_of_canLay _ hl] at z
        cases z
      · exact ⟨.str (py d).shown, H, I.kept hk, ⟨t, rfl⟩, q _ (.im (.str (py d).shown)) F H k (E.pop.push rfl)⟩
end
end DL

set_option Elab.async false
set_option linter.all false
set_option maxRecDepth 100000
set_option maxHeartbeats 2000000
/-! DL7: enumerate and zip of known tuples and lists -/
namespace DL
open PySem PySem.Spec PyProof.Rows L2
/-- an iterator that gives n new tuples, of what Src knows -/
def ItW (n : Nat) (item : Nat → List V) (Src : Hp → Prop) : It :=
  ⟨fun i H => i < n ∧ Src H, fun i H v H' => ∃ T, v = .ref T ∧ H T = none ∧ H' = upd H T (.tup (item i)), fun i H => i = n ∧ Src H⟩
theorem itok_W {n : Nat} {item : Nat → List V} {Src srcF : Hp → Prop} {ds : Nat → List D} (mono : ∀ F F', Ex F F' → srcF F → srcF F') (sr : ∀ F H, Ex F H → srcF F → Src H) (hd : ∀ F i, srcF F → i < n → Dats F (ds i) (item i)) : ItOk (ItW n item Src) n (fun i => .tup (ds i)) srcF where
  mono := mono
  go := fun F H i e h hi => ⟨hi, sr F H e h⟩
  yld := fun c F H σ Γ i x H' E h hi hy => by
    obtain ⟨T, rfl, hT, rfl⟩ := hy
    exact ⟨_, Ex.new (E.ex.back hT), E.pushTup hT (hd F i h hi)⟩
  stop := fun F H e h => ⟨rfl, sr F H e h⟩
section
variable {P : Program} {w : World} {K : PySem.W.Frag} {elts : List Expr} {kk : Nat} {tpos : Pos}
/-- any of the library's walks that hands out tuples, over sources that the abstract heap knows -/
theorem turn_W {ι : Type} {it : Addr} {fp fpW ch : List Addr} {n : Nat} {tn : Nat → Heap → Prop} {Src : Hp → Prop} {item : Nat → List V} {good : ι → Prop} {has : ι → Heap → Prop} {vals : ι → Nat → Array Value → Prop} {mid : ι → Nat → Addr → Heap → Prop} (mem : it ∈ fp) (chs : ∀ b ∈ ch, b ∈ fp)
    (obj : ∀ i h, tn i h → ∀ b ∈ fp, ∃ o, h.get? b = some o ∧ ∀ v, o.data ≠ .cell v) (keep : ∀ i h h', tn i h → (∀ b ∈ fp, ∀ o, h.get? b = some o → h'.get? b = some o) → tn i h')
    (W : ∀ (A : Around) (z : ι), A.handled = none → good z → WalksT P w A it fpW ch n (vals z) (fun i h => tn i h ∧ has z h) (mid z))
    (src : ∀ (X : Cx) (pins : List (Addr × Obj)) (s : Shared) (σ : L2.St) (H : Hp), X.prog = P → X.w = w → X.K = K → Inv X pins σ H s → Src H → ∃ z, good z ∧ has z s.heap ∧ ∀ i vs, i < n → vals z i vs → Vals (item i) vs.toList)
    (small : ∀ i, (item i).length ≤ sizeLine) (keepS : ∀ (H : Hp) T o, H T = none → Src H → Src (upd H T o))
    (self : ∀ (A : Around) (i : Nat) (s : Shared) (Q : Value → Shared → Prop) (E : Value → Shared → Prop), tn i s.heap → Q (.ref it) s → wpAny (model P w) A (pyIter (.ref it)) Q E s) :
    Turn P w K (.Tuple elts kk tpos) (ItW n item Src) fp it tn where
  mem := mem
  obj := obj
  keep := keep
  item := by
    intro X hP hw hK hc i pins s σ H E I hf st hg
    obtain ⟨hi, hS⟩ := hg
    obtain ⟨z, hz, hh, hv⟩ := src X pins s σ H hP hw hK I hS
    subst hP hw hK
    have Wz := W X.A z (I.ok.hd hc) hz
    refine Wz.item i s _ E hi ⟨st, hh⟩ fun T vs h' tk hvs hT hTup hm hk => ⟨_, rfl, ?_⟩
    refine Wz.go elts kk tpos i T { s with heap := h', toks := tk } _ E hm fun h'' st'' hk' => ?_
    have hTch : T ∉ ch := Wz.apart i T h' hm
    obtain ⟨o, ho, hoc, m, hod⟩ := hTup
    have new : ObjOk X.prog X.w (upd H T (.tup (item i))) h'' T (.tup (item i)) := ⟨small i, vs.toList, hv i vs hi hvs, ⟨o, hk' T o hTch ho, hoc, m, by simpa using hod⟩⟩
    have I1 : Inv X pins σ (upd H T (.tup (item i))) { s with heap := h'', toks := tk } := I.turnedNew (ch := ch) (fun b o hb e => hk' b o hb (hk b o hb e)) (fun b hb => hf b (chs b hb)) hT new
    refine ⟨.ref T, _, I1, rfl, ⟨T, rfl, I.hok.fresh hT, rfl⟩, st''.1, fun b hb => ?_⟩
    obtain ⟨ob, eb, _⟩ := obj i _ st b hb
    have hlt : b < s.heap.objs.size := Heap.lt_size eb
    rw [upd_ne (fun e => absurd hlt (by rw [e]; exact Nat.not_lt.mpr hT))]
    exact (hf b hb).1
  done := by
    intro X hP hw hK hc i pins s σ H E I hf st hg
    obtain ⟨hi, hS⟩ := hg
    obtain ⟨z, hz, hh, hv⟩ := src X pins s σ H hP hw hK I hS
    subst hP hw hK hi
    exact (W X.A z (I.ok.hd hc) hz).done s _ E ⟨st, hh⟩ fun h' tk hk => ⟨rfl, I.turnedL (t' := tk) (ch := ch) (fun b o hb e => hk b o hb e) fun b hb => hf b (chs b hb)⟩
  self := self
end
/-! ### enumerate of a tuple -/
theorem meets_enumT {v : Value} {o : Obj} {Hh : Heap → Prop} (B : Begins v o Hh) : Meets (Builtin.«enumerate.__new__» ⟨[.type "enumerate", v], []⟩) (fun _ R s => Hh s.heap ∧
      R (.ok (.ret (.ref (s.heap.push o).objs.size))) { s with heap := (s.heap.push o).push { cls := .type "enumerate", data := .fields #[.none, .bool false, .ref s.heap.objs.size, rawInt 0, .none, .none] } }) :=
  .of_wp fun prog w A R s h => by
    obtain ⟨hp, g, d, tk, os⟩ := s
    obtain ⟨h1, h⟩ := h
    have hsub := sub_enumerate
    have step : ∀ {A' : Around} {E : Value → Shared → Prop} {Q : Value → Shared → Prop}, Q (.ref hp.objs.size) ⟨hp.push o, g, d, tk, os⟩ → wpAny (model prog w) A' (pyIter v) Q E ⟨hp, g, d, tk, os⟩ := fun q => B.iter prog w _ _ ⟨hp, g, d, tk, os⟩ _ h1 q
    wp_walk using step
    refine wpAny_stack_any fun st => wpAny_pure ?_
    split
    · rename_i cc _ _ _ _ _
      cases (cc == Value.type "enumerate") <;> (wp_walk using step; exact ⟨_, rfl, h⟩)
    · wp_walk using step
      exact ⟨_, rfl, h⟩
theorem call_enumT {prog : Program} {w : World} {A : Around} {E : Value → Shared → Prop} {s : Shared} {v : Value} {o : Obj} {Hh : Heap → Prop} {Q : Value → Shared → Prop} (B : Begins v o Hh) (h1 : Hh s.heap)
    (h : ∀ h', IsEnum h' (s.heap.objs.size + 1) s.heap.objs.size 0 .none → h'.get? s.heap.objs.size = some o → (∀ b o, s.heap.get? b = some o → h'.get? b = some o) → Q (.ref (s.heap.objs.size + 1)) { s with heap := h' }) : wpAny (model prog w) A (call (.type "enumerate") [v]) Q E s := by
  refine callType_new F.called_enumerate (by decide) (F.typeCall_enumerate_1 _) (F.newCall_enumerate_1 _) (fun obj => F.args_object_init_2 obj _) F.entry_enumerate_new (meets_enumT B) ⟨h1, ?_⟩
  have sz : (s.heap.push o).objs.size = s.heap.objs.size + 1 := Heap.size_push ..
  show _ ∧ _
  rw [sz]
  have he : IsEnum ((s.heap.push o).push { cls := .type "enumerate", data := .fields #[.none, .bool false, .ref s.heap.objs.size, rawInt 0, .none, .none] }) (s.heap.objs.size + 1) s.heap.objs.size 0 .none := by
    have q := Heap.get?_push_size (s.heap.push o) (o := { cls := .type "enumerate", data := .fields #[.none, .bool false, .ref s.heap.objs.size, rawInt 0, .none, .none] }) rfl
    rw [sz] at q
    exact q
  exact ⟨⟨_, he, rfl⟩, h _ he (Heap.get?_push_of_some _ (Heap.get?_push_size _ B.free)) fun b o x => Heap.get?_push_of_some _ (Heap.get?_push_of_some _ x)⟩
theorem WalksT.copy {prog : Program} {w : World} {A : Around} {it : Addr} {fp ch : List Addr} {n m : Nat} {P P' : Nat → Array Value → Prop} {St St' : Nat → Heap → Prop} {M : Nat → Addr → Heap → Prop} (W : WalksT prog w A it fp ch n P St M) (hn : n = m) (hP : P = P') (hS : St = St') : WalksT prog w A it fp ch m P' St' M := by
  subst hn hP hS
  exact W
def iEnumT (K : PySem.W.Frag) (ta : TA) : TI := fun σ H R => ta σ H fun vs H1 => ∃ a xs, vs = [.ref a] ∧ SqT K H1 a xs ∧ R (ItW xs.length (fun i => [.int (i : Nat), xs.getD i .non]) fun H => SqT K H a xs) H1
theorem sqT_upd {K : PySem.W.Frag} {H : Hp} {a T : Addr} {o : HO} {xs : List V} (h : H T = none) (q : SqT K H a xs) : SqT K (upd H T o) a xs := by
  rcases q with q | q
  · left
    rcases q with q | ⟨u, q⟩
    · exact .inl (by rw [upd_ne (ne_of_none q h)]; exact q)
    · exact .inr ⟨u, by rw [upd_ne (ne_of_none q h)]; exact q⟩
  · exact .inr q
theorem pi_enumT {X : Cx} {e : Expr} {ta : TA} {p pos tpos : Pos} {elts : List Expr} {kk : Nat} (hm : X.mg "enumerate" = none) (ha : PA X [e] ta) (hg : Gl X "enumerate" := by rfl) (hs : starEach [e] X.env = [(false, eval e X.env)] := by rfl) :
    PI X (.Tuple elts kk tpos) (.Call (.Name "enumerate" p) [e] [] pos) (iEnumT X.K ta) := by
  constructor
  intro pins s σ H R I h
  refine Call_ ?_
  apply ld_blt I hg hm boot_enumerate
  refine PyProof.Rows.callWith_type1 (thn (ha.run pos pins s σ H _ I h) fun us s1 hq => ?_) hs rfl
  obtain ⟨vs, H1, I1, r1, a, xs, rfl, hq, q⟩ := hq
  obtain ⟨u, rfl, ru⟩ := vals1 r1
  have eu : u = Value.ref a := ru
  subst eu
  obtain ⟨its0, rv0, p0, z0⟩ := I1.tuple hq
  have hal : a < s1.heap.objs.size := p0.lt
  refine call_enumT (begins_tuple a its0.toArray) p0 fun h' he hit hk => wpAny_pyIter_enum he ?_
  have I2 : Inv X pins σ H1 { s1 with heap := h' } := I1.kept (t' := s1.toks) hk
  have hne : s1.heap.objs.size + 1 ≠ s1.heap.objs.size := Nat.succ_ne_self _
  refine ⟨s1.heap.objs.size + 1, [s1.heap.objs.size + 1, s1.heap.objs.size], fun i h => (∃ old, IsEnum h (s1.heap.objs.size + 1) s1.heap.objs.size (0 + (i : Int)) old) ∧ h.IsTupleIter s1.heap.objs.size a i, _, H1, rfl, I2, ?_, ⟨⟨.none, by simpa using he⟩, ⟨_, hit, rfl, rfl⟩⟩, fun b hb => ?_, q⟩
  · refine turn_W (ι := Array Value) (good := fun z => z.size = xs.length) (has := fun z h => h.IsTuple a z) (fpW := [s1.heap.objs.size + 1, s1.heap.objs.size, a]) (ch := [s1.heap.objs.size + 1, s1.heap.objs.size]) (vals := fun z i vals => ∃ t x, z[i]? = some x ∧ vals = #[.int (0 + (i : Int)) t, x]) (mid := fun z i T h => (∃ x, IsEnumOut h (s1.heap.objs.size + 1) s1.heap.objs.size (0 + (i : Int) + 1) x T) ∧ (h.IsTupleIter s1.heap.objs.size a (i + 1) ∧ h.IsTuple a z) ∧ T ≠ s1.heap.objs.size + 1 ∧ T ≠ s1.heap.objs.size)
      (by simp) (fun b hb => hb) (fun i h st b hb => ?_) (fun i h g st k => ?_) (fun A z hA hz => ?_) (fun Y pins s σ H hP hw hK J hS => ?_) (fun i => by show 2 ≤ sizeLine; decide) (fun H T o hT hS => sqT_upd hT hS) (fun A i s Q E st h => ?_)
    · obtain ⟨⟨old, he⟩, o, ho, hc, hd⟩ := st
      have e' : b = s1.heap.objs.size + 1 ∨ b = s1.heap.objs.size := by simpa using hb
      rcases e' with z | z
      · rw [z]
        exact ⟨_, he, fun v q => by cases q⟩
      · rw [z]
        exact ⟨o, ho, fun v q => by rw [hd] at q; cases q⟩
    · obtain ⟨⟨old, he⟩, hi⟩ := st
      exact ⟨⟨old, k _ (by simp) _ he⟩, hi.at fun o q => k _ (by simp) o q⟩
    · refine WalksT.copy (WalksT.enumFrom 0 (Draws.tuple (A := A.in1) hA s1.heap.objs.size a (Nat.ne_of_lt hal) z) (s1.heap.objs.size + 1) hne (fun hm => ?_) (by simp)) hz rfl ?_
      · have e' : s1.heap.objs.size + 1 = s1.heap.objs.size ∨ s1.heap.objs.size + 1 = a := by simpa using hm
        rcases e' with q | q
        · exact hne q
        · exact absurd hal (by rw [← q]; exact Nat.not_lt.mpr (Nat.le_succ _))
      · funext i h
        exact propext and_assoc.symm
    · rw [← hK] at hS
      obtain ⟨its, rv, p, z⟩ := J.tuple hS
      refine ⟨its.toArray, by simp [rv.length], p, fun i vs hi hv => ?_⟩
      obtain ⟨t, x, hx, rfl⟩ := hv
      obtain ⟨u, hu, ru⟩ := rv.get (i := i) (x := xs.getD i .non) (by simp [List.getD_eq_getElem?_getD, hi])
      have eux : u = x := by
        have hx' : its[i]? = some x := by simpa using hx
        rw [hu] at hx'
        exact Option.some.inj hx'
      subst eux
      exact .cons ⟨t, by simp⟩ (.cons ru .nil)
    · obtain ⟨⟨_, he⟩, _⟩ := st
      exact wpAny_pyIter_enum he h
  · have e' : b = s1.heap.objs.size + 1 ∨ b = s1.heap.objs.size := by simpa using hb
    have hle : s1.heap.objs.size ≤ b := by
      rcases e' with z | z
      · rw [z]
        exact Nat.le_succ _
      · rw [z]
        exact Nat.le_refl _
    exact I1.fpOk hle (I1.hok.fresh hle)
/-! ### zip of three tuples -/
def SqT3 (K : PySem.W.Frag) (a b d : Addr) (xs ys zs : List V) (H : Hp) : Prop := SqT K H a xs ∧ SqT K H b ys ∧ SqT K H d zs
def iZip3T (K : PySem.W.Frag) (ta : TA) : TI := fun σ H R => ta σ H fun vs H1 => ∃ a b d xs ys zs, vs = [.ref a, .ref b, .ref d] ∧ SqT3 K a b d xs ys zs H1 ∧ R (ItW (min (min xs.length ys.length) zs.length) (fun i => [xs.getD i .non, ys.getD i .non, zs.getD i .non]) (SqT3 K a b d xs ys zs)) H1
theorem pi_zip3T {X : Cx} {e1 e2 e3 : Expr} {ta : TA} {p pos tpos : Pos} {elts : List Expr} {kk : Nat} (hm : X.mg "zip" = none) (ha : PA X [e1, e2, e3] ta) (hg : Gl X "zip" := by rfl) (hs : starEach [e1, e2, e3] X.env = (false, eval e1 X.env) :: starEach [e2, e3] X.env := by rfl) (hpl : (backTo pos (starEach [e2, e3] X.env)).any (·.1) = false := by rfl) :
    PI X (.Tuple elts kk tpos) (.Call (.Name "zip" p) [e1, e2, e3] [] pos) (iZip3T X.K ta) := by
  constructor
  intro pins s σ H R I h
  refine Call_ ?_
  apply ld_blt I hg hm PyProof.Rows.boot_zip
  refine PyProof.Rows.callWith_type1 (thn (ha.run pos pins s σ H _ I h) fun us s1 hq => ?_) hs hpl
  obtain ⟨vs, H1, I1, r1, a, b, d, xs, ys, zs, rfl, ⟨ha, hb, hd⟩, q⟩ := hq
  cases r1 with
  | cons ra r1 =>
  cases r1 with
  | cons rb r1 =>
  cases r1 with
  | cons rd r1 =>
  cases r1
  cases ra
  cases rb
  cases rd
  obtain ⟨i1, rv1, p1, _⟩ := I1.tuple ha
  obtain ⟨i2, rv2, p2, _⟩ := I1.tuple hb
  obtain ⟨i3, rv3, p3, _⟩ := I1.tuple hd
  have hal : a < s1.heap.objs.size := p1.lt
  have hbl : b < s1.heap.objs.size := p2.lt
  have hdl : d < s1.heap.objs.size := p3.lt
  generalize hNn : s1.heap.objs.size = N at hal hbl hdl
  refine zip_begins3 (begins_tuple a i1.toArray) (begins_tuple b i2.toArray) (begins_tuple d i3.toArray) p1 p2 p3 fun h' hz hTI hTO g1 g2 g3 hsz hk => ?_
  rw [hNn] at hz hTI hTO g1 g2 g3 hsz ⊢
  refine wpAny_pyIter_zip hz ?_
  have I2 : Inv X pins σ H1 { s1 with heap := h' } := I1.kept (t' := s1.toks) hk
  refine ⟨N + 5, [N + 5, N + 3, N + 4, N, N + 1, N + 2], fun i h => IsZip h (N + 5) (N + 3) (N + 4) .none ∧ IsTupOf3 h (N + 3) (.ref N) (.ref (N + 1)) (.ref (N + 2)) ∧ (∃ a1 a2 a3, IsTupOf3 h (N + 4) a1 a2 a3) ∧ h.IsTupleIter N a i ∧ h.IsTupleIter (N + 1) b i ∧ h.IsTupleIter (N + 2) d i, _, H1, rfl, I2, ?_, ⟨hz, hTI, ⟨_, _, _, hTO⟩, ⟨_, g1, rfl, rfl⟩, ⟨_, g2, rfl, rfl⟩, ⟨_, g3, rfl, rfl⟩⟩, fun b hb => ?_, q⟩
  · refine turn_W (ι := Array Value × Array Value × Array Value) (good := fun z => z.1.size = xs.length ∧ z.2.1.size = ys.length ∧ z.2.2.size = zs.length) (has := fun z h => h.IsTuple a z.1 ∧ h.IsTuple b z.2.1 ∧ h.IsTuple d z.2.2)
      (fpW := (N + 5) :: (N + 3) :: (N + 4) :: ([N, a] ++ [N + 1, b] ++ [N + 2, d])) (ch := [N + 5, N + 4, N, N + 1, N + 2]) (vals := fun z i vals => ∃ x1 x2 x3, z.1[i]? = some x1 ∧ z.2.1[i]? = some x2 ∧ z.2.2[i]? = some x3 ∧ vals = #[x1, x2, x3])
      (mid := fun z i T h => IsZip h (N + 5) (N + 3) (N + 4) (rawInt T) ∧ IsTupOf3 h (N + 3) (.ref N) (.ref (N + 1)) (.ref (N + 2)) ∧ (∃ a1 a2 a3, IsTupOf3 h (N + 4) a1 a2 a3) ∧ (h.IsTupleIter N a (i + 1) ∧ h.IsTuple a z.1) ∧ (h.IsTupleIter (N + 1) b (i + 1) ∧ h.IsTuple b z.2.1) ∧ (h.IsTupleIter (N + 2) d (i + 1) ∧ h.IsTuple d z.2.2) ∧ T ≠ N + 5 ∧ T ≠ N + 4 ∧ T ≠ N ∧ T ≠ N + 1 ∧ T ≠ N + 2)
      (by simp) (fun b hb => ?_) (fun i h st c hc => ?_) (fun i h g st k => ?_) (fun A z hA hz => ?_) (fun Y pins s σ H hP hw hK J hS => ?_) (fun i => by show 3 ≤ sizeLine; decide) (fun H T o hT hS => ⟨sqT_upd hT hS.1, sqT_upd hT hS.2.1, sqT_upd hT hS.2.2⟩) (fun A i s Q E st h => wpAny_pyIter_zip st.1 h)
    · simp only [List.mem_cons, List.not_mem_nil, or_false] at hb ⊢
      rcases hb with q | q | q | q | q <;> simp [q]
    · obtain ⟨hz, hTI, ⟨_, _, _, hTO⟩, ⟨o1, e1, _, d1⟩, ⟨o2, e2, _, d2⟩, ⟨o3, e3, _, d3⟩⟩ := st
      simp only [List.mem_cons, List.not_mem_nil, or_false] at hc
      rcases hc with q | q | q | q | q | q
      · rw [q]; exact ⟨_, hz, fun v z => by cases z⟩
      · rw [q]; exact ⟨_, hTI, fun v z => by cases z⟩
      · rw [q]; exact ⟨_, hTO, fun v z => by cases z⟩
      · rw [q]; exact ⟨o1, e1, fun v z => by rw [d1] at z; cases z⟩
      · rw [q]; exact ⟨o2, e2, fun v z => by rw [d2] at z; cases z⟩
      · rw [q]; exact ⟨o3, e3, fun v z => by rw [d3] at z; cases z⟩
    · obtain ⟨hz, hTI, ⟨x1, x2, x3, hTO⟩, h1, h2, h3⟩ := st
      exact ⟨k _ (by simp) _ hz, k _ (by simp) _ hTI, ⟨x1, x2, x3, k _ (by simp) _ hTO⟩, h1.at fun o q => k _ (by simp) o q, h2.at fun o q => k _ (by simp) o q, h3.at fun o q => k _ (by simp) o q⟩
    · obtain ⟨z1, z2, z3⟩ := z
      obtain ⟨s1', s2', s3'⟩ := hz
      refine WalksT.copy (WalksT.zipD3 (zip_sep3 (N := N) (fp1 := [a]) (fp2 := [b]) (fp3 := [d]) (fun c hc => ?_) (fun c hc => ?_) fun c hc => ?_) (Draws.tuple (A := A.in1) hA N a (Nat.ne_of_lt hal) z1) (Draws.tuple (A := A.in1) hA (N + 1) b (Nat.ne_of_lt (Nat.lt_succ_of_lt hbl)) z2) (Draws.tuple (A := A.in1) hA (N + 2) d (Nat.ne_of_lt (Nat.lt_succ_of_lt (Nat.lt_succ_of_lt hdl))) z3)) ?_ rfl ?_
      · rw [List.mem_singleton.mp hc]; exact hal
      · rw [List.mem_singleton.mp hc]; exact hbl
      · rw [List.mem_singleton.mp hc]; exact hdl
      · show min (min z1.size z2.size) z3.size = _
        rw [show z1.size = xs.length from s1', show z2.size = ys.length from s2', show z3.size = zs.length from s3']
      · funext i h
        apply propext
        constructor
        · rintro ⟨q1, q2, q3, ⟨q4, q5⟩, ⟨q6, q7⟩, q8, q9⟩
          exact ⟨⟨q1, q2, q3, q4, q6, q8⟩, q5, q7, q9⟩
        · rintro ⟨⟨q1, q2, q3, q4, q6, q8⟩, q5, q7, q9⟩
          exact ⟨q1, q2, q3, ⟨q4, q5⟩, ⟨q6, q7⟩, q8, q9⟩
    · rw [← hK] at hS
      obtain ⟨ha, hb, hd⟩ := hS
      obtain ⟨j1, r1, t1, _⟩ := J.tuple ha
      obtain ⟨j2, r2, t2, _⟩ := J.tuple hb
      obtain ⟨j3, r3, t3, _⟩ := J.tuple hd
      refine ⟨(j1.toArray, j2.toArray, j3.toArray), ⟨by simp [r1.length], by simp [r2.length], by simp [r3.length]⟩, ⟨t1, t2, t3⟩, fun i vs hi hv => ?_⟩
      obtain ⟨x1, x2, x3, q1, q2, q3, rfl⟩ := hv
      have l1 : i < xs.length := by omega
      have l2 : i < ys.length := by omega
      have l3 : i < zs.length := by omega
      have one : ∀ {js : List Value} {ws : List V} {x : Value}, Vals ws js → i < ws.length → js[i]? = some x → RelV (ws.getD i .non) x := fun {js ws x} r l e => by
        obtain ⟨u, hu, ru⟩ := r.get (i := i) (x := ws.getD i .non) (by simp [List.getD_eq_getElem?_getD, l])
        rw [hu] at e
        cases e
        exact ru
      exact .cons (one r1 l1 (by simpa using q1)) (.cons (one r2 l2 (by simpa using q2)) (.cons (one r3 l3 (by simpa using q3)) .nil))
  · have hle : N ≤ b := by
      simp only [List.mem_cons, List.not_mem_nil, or_false] at hb
      rcases hb with z | z | z | z | z | z <;> (rw [z]; omega)
    rw [← hNn] at hle
    exact I1.fpOk hle (I1.hok.fresh hle)
/-! ### in the judgements -/
section
variable {X : Cx} {c : C0} {Γ : List Sl} {KI : Nat → (Nat → DL.D) → Prop} {e e1 e2 e3 : Expr} {p pos tpos : Pos} {elts : List Expr} {kk : Nat}
theorem dats_getD {F : Hp} {ds : List D} {vs : List V} (h : Dats F ds vs) {i : Nat} (hi : i < ds.length) : Dat F (ds.getD i .non) (vs.getD i .non) := by
  obtain ⟨v, hv, hd⟩ := h.get (i := i) (d := ds[i]) (by simp [hi])
  have e1 : ds.getD i .non = ds[i] := by simp [hi]
  have e2 : vs.getD i .non = v := by simp [List.getD_eq_getElem?_getD, hv]
  rw [e1, e2]
  exact hd
/-- the one argument of a built-in -/
theorem arg1 {P : V → Hp → Prop} {K1 : Sl → Prop} (h : WPe X c e Γ K1) (hs : starEach [e] X.env = [(false, eval e X.env)] := by rfl) : WPa X c [e] Γ fun rs => ∃ r, rs = [frz r] ∧ K1 r := wpa_cons (h.mono fun r k => wpa_nil ⟨r, rfl, k⟩) hs
theorem wpi_enumT (hm : X.mg "enumerate" = none) (h : WPa X c [e] Γ fun rs => ∃ ds, rs = [.im (.tup ds)] ∧ KI ds.length fun i => .tup [.int i, ds.getD i .non]) (hg : Gl X "enumerate" := by rfl) (hs : starEach [e] X.env = [(false, eval e X.env)] := by rfl) : WPi X c (.Tuple elts kk tpos) (.Call (.Name "enumerate" p) [e] [] pos) Γ KI := fun F H stk S σ hl E R q => by
  refine iw_of (pi_enumT hm pa_wa hg hs) ?_
  refine h F H stk S σ hl E _ fun vs rs F1 H1 k1 hl1 E1 => ?_
  obtain ⟨ds, er, k⟩ := k1
  subst er
  obtain ⟨E2, hd⟩ := EnvR.dats (ds := [.tup ds]) (by simpa using hl1) E1
  obtain ⟨v, w, rfl, hv, hw⟩ := hd
  have hw' : w = [] := hw
  subst hw'
  obtain ⟨a, xs, rfl, ha, hds⟩ := hv
  refine ⟨a, xs, rfl, .inl (.inl (E2.ex _ _ ha)), ?_⟩
  rw [← hds.length]
  exact q _ _ _ (fun F => F a = some (.tup xs) ∧ Dats F ds xs) F1 H1 k (itok_W (fun F F' e h => ⟨e _ _ h.1, h.2.mono e⟩) (fun F H e h => .inl (.inl (e _ _ h.1))) fun F i h hi => .cons rfl (.one (dats_getD h.2 hi))) ⟨ha, hds⟩ E2
theorem wpi_zip3T (hm : X.mg "zip" = none) (h : WPa X c [e1, e2, e3] Γ fun rs => ∃ xs ys zs, rs = [.im (.tup xs), .im (.tup ys), .im (.tup zs)] ∧ KI (min (min xs.length ys.length) zs.length) fun i => .tup [xs.getD i .non, ys.getD i .non, zs.getD i .non])
    (hg : Gl X "zip" := by rfl) (hs : starEach [e1, e2, e3] X.env = (false, eval e1 X.env) :: starEach [e2, e3] X.env := by rfl) (hpl : (backTo pos (starEach [e2, e3] X.env)).any (·.1) = false := by rfl) : WPi X c (.Tuple elts kk tpos) (.Call (.Name "zip" p) [e1, e2, e3] [] pos) Γ KI := fun F H stk S σ hl E R q => by
  refine iw_of (pi_zip3T hm pa_wa hg hs hpl) ?_
  refine h F H stk S σ hl E _ fun vs rs F1 H1 k1 hl1 E1 => ?_
  obtain ⟨ds, ds2, ds3, er, k⟩ := k1
  subst er
  obtain ⟨E2, hd⟩ := EnvR.dats (ds := [.tup ds, .tup ds2, .tup ds3]) (by simpa using hl1) E1
  obtain ⟨v, w, rfl, hv, v2, w2, rfl, hv2, v3, w3, rfl, hv3, hw⟩ := hd
  have hw' : w3 = [] := hw
  subst hw'
  obtain ⟨a, xs, rfl, ha, hds⟩ := hv
  obtain ⟨b, ys, rfl, hb, hds2⟩ := hv2
  obtain ⟨d, zs, rfl, hdd, hds3⟩ := hv3
  refine ⟨a, b, d, xs, ys, zs, rfl, ⟨.inl (.inl (E2.ex _ _ ha)), .inl (.inl (E2.ex _ _ hb)), .inl (.inl (E2.ex _ _ hdd))⟩, ?_⟩
  rw [← hds.length, ← hds2.length, ← hds3.length]
  refine q _ _ _ (fun F => (F a = some (.tup xs) ∧ Dats F ds xs) ∧ (F b = some (.tup ys) ∧ Dats F ds2 ys) ∧ F d = some (.tup zs) ∧ Dats F ds3 zs) F1 H1 k (itok_W (fun F F' e h => ⟨⟨e _ _ h.1.1, h.1.2.mono e⟩, ⟨e _ _ h.2.1.1, h.2.1.2.mono e⟩, e _ _ h.2.2.1, h.2.2.2.mono e⟩) (fun F H e h => ⟨.inl (.inl (e _ _ h.1.1)), .inl (.inl (e _ _ h.2.1.1)), .inl (.inl (e _ _ h.2.2.1))⟩) fun F i h hi => ?_) ⟨⟨ha, hds⟩, ⟨hb, hds2⟩, hdd, hds3⟩ E2
  have l1 : i < ds.length := by omega
  have l2 : i < ds2.length := by omega
  have l3 : i < ds3.length := by omega
  exact .cons (dats_getD h.1.2 l1) (.cons (dats_getD h.2.1.2 l2) (.one (dats_getD h.2.2.2 l3)))
/-- enumerate of a known list -/
theorem wpi_enumL (hm : X.mg "enumerate" = none) (h : WPa X c [e] Γ fun rs => ∃ ds, rs = [.im (.lst ds)] ∧ KI ds.length fun i => .tup [.int i, ds.getD i .non]) (hg : Gl X "enumerate" := by rfl) (hs : starEach [e] X.env = [(false, eval e X.env)] := by rfl) : WPi X c (.Tuple elts kk tpos) (.Call (.Name "enumerate" p) [e] [] pos) Γ KI := fun F H stk S σ hl E R q => by
  refine iw_of (pi_enum hg hm pa_wa hs) ?_
  refine h F H stk S σ hl E _ fun vs rs F1 H1 k1 hl1 E1 => ?_
  obtain ⟨ds, er, k⟩ := k1
  subst er
  obtain ⟨E2, hd⟩ := EnvR.dats (ds := [.lst ds]) (by simpa using hl1) E1
  obtain ⟨v, w, rfl, hv, hw⟩ := hd
  have hw' : w = [] := hw
  subst hw'
  obtain ⟨a, xs, rfl, ha, hds⟩ := hv
  refine ⟨a, xs, rfl, .inl (.inl (E2.ex _ _ ha)), q _ ds.length _ (fun F => F a = some (.lst xs) ∧ Dats F ds xs) F1 H1 k ⟨fun F F' e h => ⟨e _ _ h.1, h.2.mono e⟩, fun F H i e h hi => ?_, fun c F H σ Γ i x H' E h hi hy => ?_, fun F H e h => ⟨xs, .inl (.inl (e _ _ h.1)), by rw [h.2.length]; exact Nat.le_refl _⟩⟩ ⟨ha, hds⟩ E2⟩
  · obtain ⟨v, hv, _⟩ := h.2.get (i := i) (d := ds[i]) (by simp [hi])
    exact ⟨xs, v, .inl (.inl (e _ _ h.1)), hv⟩
  · obtain ⟨T, y, rfl, hT, rfl, hx⟩ := hy
    obtain ⟨v, hv, hd⟩ := h.2.get (i := i) (d := ds[i]) (by simp [hi])
    have e1 := hx xs (.inl (.inl (E.ex _ _ h.1)))
    rw [hv] at e1
    cases e1
    have e3 : ds.getD i .non = ds[i] := by simp [hi]
    exact ⟨_, Ex.new (E.ex.back hT), by rw [e3]; exact E.pushTup hT (.cons rfl (.one hd))⟩
/-- zip of two known lists -/
theorem wpi_zipL (hm : X.mg "zip" = none) (h : WPa X c [e1, e2] Γ fun rs => ∃ xs ys, rs = [.im (.lst xs), .im (.lst ys)] ∧ KI (min xs.length ys.length) fun i => .tup [xs.getD i .non, ys.getD i .non])
    (hg : Gl X "zip" := by rfl) (hs : starEach [e1, e2] X.env = (false, eval e1 X.env) :: starEach [e2] X.env := by rfl) (hpl : (backTo pos (starEach [e2] X.env)).any (·.1) = false := by rfl) : WPi X c (.Tuple elts kk tpos) (.Call (.Name "zip" p) [e1, e2] [] pos) Γ KI := fun F H stk S σ hl E R q => by
  refine iw_of (pi_zip hg hm pa_wa hs hpl) ?_
  refine h F H stk S σ hl E _ fun vs rs F1 H1 k1 hl1 E1 => ?_
  obtain ⟨ds, ds2, er, k⟩ := k1
  subst er
  obtain ⟨E2, hd⟩ := EnvR.dats (ds := [.lst ds, .lst ds2]) (by simpa using hl1) E1
  obtain ⟨v, w, rfl, hv, v2, w2, rfl, hv2, hw⟩ := hd
  have hw' : w2 = [] := hw
  subst hw'
  obtain ⟨a, xs, rfl, ha, hds⟩ := hv
  obtain ⟨b, ys, rfl, hb, hds2⟩ := hv2
  refine ⟨a, b, xs, ys, rfl, .inl (.inl (E2.ex _ _ ha)), .inl (.inl (E2.ex _ _ hb)), q _ (min ds.length ds2.length) _ (fun F => (F a = some (.lst xs) ∧ Dats F ds xs) ∧ F b = some (.lst ys) ∧ Dats F ds2 ys) F1 H1 k ⟨fun F F' e h => ⟨⟨e _ _ h.1.1, h.1.2.mono e⟩, e _ _ h.2.1, h.2.2.mono e⟩, fun F H i e h hi => ?_, fun c F H σ Γ i x H' E h hi hy => ?_, fun F H e h => ⟨xs, ys, .inl (.inl (e _ _ h.1.1)), .inl (.inl (e _ _ h.2.1)), ?_⟩⟩ ⟨⟨ha, hds⟩, hb, hds2⟩ E2⟩
  · have l1 : i < ds.length := by omega
    have l2 : i < ds2.length := by omega
    obtain ⟨v, hv, _⟩ := h.1.2.get (i := i) (d := ds[i]) (by simp [l1])
    obtain ⟨v2, hv2, _⟩ := h.2.2.get (i := i) (d := ds2[i]) (by simp [l2])
    exact ⟨xs, ys, v, v2, .inl (.inl (e _ _ h.1.1)), .inl (.inl (e _ _ h.2.1)), hv, hv2⟩
  · have l1 : i < ds.length := by omega
    have l2 : i < ds2.length := by omega
    obtain ⟨T, y, y2, rfl, hT, rfl, hx, hx2⟩ := hy
    obtain ⟨v, hv, hd⟩ := h.1.2.get (i := i) (d := ds[i]) (by simp [l1])
    obtain ⟨v2, hv2, hd2⟩ := h.2.2.get (i := i) (d := ds2[i]) (by simp [l2])
    have e1 := hx xs (.inl (.inl (E.ex _ _ h.1.1)))
    have e2 := hx2 ys (.inl (.inl (E.ex _ _ h.2.1)))
    rw [hv] at e1
    rw [hv2] at e2
    cases e1
    cases e2
    have e3 : ds.getD i .non = ds[i] := by simp [l1]
    have e4 : ds2.getD i .non = ds2[i] := by simp [l2]
    exact ⟨_, Ex.new (E.ex.back hT), by rw [e3, e4]; exact E.pushTup hT (.cons hd (.one hd2))⟩
  · rw [← h.1.2.length, ← h.2.2.length]
    omega
end
end DL

set_option Elab.async false
set_option linter.all false
set_option maxRecDepth 100000
set_option maxHeartbeats 2000000
/-! DL8: list and dict comprehensions -/
namespace DL
open PySem PySem.Spec PyProof.Rows L2
/-! ### a comprehension's own names -/
def lookS : Sl → Sl
  | .deep v o => .vo v [] o
  | .own d => .vw d
  | s => s
def wipeS (Γ : List Sl) : List Nat → List Sl
  | [] => Γ
  | v :: vs => (wipeS Γ vs).set v .any
theorem wipeS_length (Γ : List Sl) : ∀ vs, (wipeS Γ vs).length = Γ.length
  | [] => rfl
  | v :: vs => by
    show ((wipeS Γ vs).set v .any).length = _
    rw [List.length_set, wipeS_length Γ vs]
theorem wipe_get (σ : L2.St) : ∀ (vs : List Nat) (k : Nat), (wipe σ vs)[k]? = if k ∈ vs ∧ k < σ.length then some none else σ[k]?
  | [], k => by simp [wipe]
  | v :: vs, k => by
    unfold wipe
    by_cases h : v = k
    · subst h
      by_cases hl : v < σ.length
      · rw [List.getElem?_set_self (by rw [wipe_length]; exact hl), if_pos ⟨by simp, hl⟩]
      · rw [List.getElem?_set, if_pos rfl, if_neg (by rw [wipe_length]; exact hl), if_neg (fun z => hl z.2), List.getElem?_eq_none (by omega)]
    · rw [List.getElem?_set_ne h, wipe_get σ vs k]
      by_cases q : k ∈ vs ∧ k < σ.length
      · rw [if_pos q, if_pos ⟨List.mem_cons_of_mem _ q.1, q.2⟩]
      · rw [if_neg q, if_neg (fun z => q ⟨by
          rcases List.mem_cons.mp z.1 with e | e
          · exact absurd e.symm h
          · exact e, z.2⟩)]
theorem wipe_eq {σ σ' : L2.St} {vs : List Nat} (hl : σ'.length = σ.length) (h : ∀ k, k ∉ vs → σ'[k]? = σ[k]?) : wipe σ' vs = wipe σ vs := by
  apply List.ext_getElem?
  intro k
  rw [wipe_get, wipe_get, hl]
  by_cases q : k ∈ vs
  · by_cases z : k < σ.length
    · rw [if_pos ⟨q, z⟩, if_pos ⟨q, z⟩]
    · rw [if_neg (fun w => z w.2), if_neg (fun w => z w.2), List.getElem?_eq_none (by omega), List.getElem?_eq_none (by omega)]
  · rw [if_neg (fun w => q w.1), if_neg (fun w => q w.1), h k q]
theorem wipe_set {σ : L2.St} {vs : List Nat} {i : Nat} {x : Option V} (hi : i ∈ vs) : wipe (σ.set i x) vs = wipe σ vs := wipe_eq (by simp) fun k hk => by
  rw [List.getElem?_set_ne]
  intro e
  exact hk (by rw [← e]; exact hi)
theorem wipe_wipe {σ : L2.St} {vs : List Nat} : wipe (wipe σ vs) vs = wipe σ vs := by
  apply List.ext_getElem?
  intro k
  rw [wipe_get, wipe_get, wipe_length]
  split <;> rfl
def C0.at (c : C0) (F H : Hp) : C0 := { c with F0 := F, H0 := H }
section
variable {c : C0} {F F1 H H1 : Hp} {σ σ1 stk : L2.St} {Γ Γ1 S : List Sl}
/-- own things are looked at only -/
theorem EnvR.look (E : EnvR c F H σ Γ) (g : Gr F1 H1 F) (k : Keep c.W H1 H) : EnvR (c.at F1 H1) F H σ (Γ.map lookS) where
  len := by simp [E.len]
  ex0 := g.1
  ex := E.ex
  gr := g.2
  fr := fun a o h w => k a o h w
  nw := E.nw
  hk := E.hk
  sl := by
    obtain ⟨fp, h1, h2⟩ := E.sl
    refine ⟨fun _ => [], fun i s hs => ?_, fun i j p e => by cases e⟩
    rw [List.getElem?_map] at hs
    cases q : Γ[i]? with
    | none =>
      rw [q] at hs
      cases hs
    | some t =>
      rw [q] at hs
      have es : lookS t = s := by simpa using hs
      subst es
      obtain ⟨x, hx, r⟩ := h1 i t q
      refine ⟨x, hx, ?_⟩
      cases t with
      | any => rfl
      | im d => exact ⟨rfl, r.2⟩
      | own d =>
        obtain ⟨p, _, r2, r3, _, r5, _⟩ := r
        exact ⟨rfl, p, r2, r3, r5⟩
      | vw d => exact ⟨rfl, r.2⟩
      | hand => exact ⟨rfl, r.2⟩
      | vo v π o => exact ⟨rfl, r.2⟩
      | deep v o =>
        obtain ⟨r1, r2, r3, r4⟩ := r
        exact ⟨rfl, v, _, r1, rfl, r2, fun a ha => (r4 a ha).2.1⟩
theorem EnvR.wipeR (E : EnvR c F H (stk ++ σ) (S ++ Γ)) (hl : stk.length = S.length) : ∀ {vs : List Nat}, (∀ v ∈ vs, v < Γ.length) → EnvR c F H (stk ++ wipe σ vs) (S ++ wipeS Γ vs)
  | [], _ => E
  | v :: vs, h => by
    have E1 := EnvR.wipeR E hl (vs := vs) fun u hu => h u (List.mem_cons_of_mem _ hu)
    exact (E1.pushAny none).storeS hl (by rw [wipeS_length]; exact h v (by simp))
/-- a new own thing over things that are none -/
def ownS : Sl → Bool
  | .own _ => true
  | .deep _ _ => true
  | _ => false
theorem EnvR.addOwn {d : D} {p : Addr} (E : EnvR c F H σ Γ) (h0 : c.H0 p = none) (ho : Own F H p d) (hF : F p = none) (hW : p ∉ c.W) (hn : ∀ s ∈ Γ, ownS s = false) : EnvR c F H (some (.ref p) :: σ) (.own d :: Γ) :=
  E.pushF ⟨p, rfl, rfl, ho, hF, hW, h0⟩ fun fp h1 i hi a ha hb => by
    obtain ⟨x, _, r⟩ := h1 i Γ[i] (by simp [hi])
    have hm := hn Γ[i] (List.getElem_mem hi)
    revert r hm
    cases Γ[i] with
    | any => intro r _; rw [show fp i = [] from r] at hb; cases hb
    | im d => intro r _; rw [r.1] at hb; cases hb
    | vw d => intro r _; rw [r.1] at hb; cases hb
    | hand => intro r _; rw [r.1] at hb; cases hb
    | vo v π o => intro r _; rw [r.1] at hb; cases hb
    | own d => intro r z; cases z
    | deep v o => intro r z; cases z
end
theorem look_noOwn {Γ : List Sl} : ∀ s ∈ Γ.map lookS, ownS s = false := fun s hs => by
  obtain ⟨t, _, rfl⟩ := List.mem_map.mp hs
  cases t <;> rfl
theorem wipe_noOwn {Γ : List Sl} (h : ∀ s ∈ Γ, ownS s = false) : ∀ {vs : List Nat}, ∀ s ∈ wipeS Γ vs, ownS s = false
  | [] => h
  | v :: vs => fun s hs => by
    rcases List.mem_or_eq_of_mem_set hs with z | z
    · exact wipe_noOwn h (vs := vs) s z
    · rw [z]
      rfl
/-! ### targets -/
def GtC (X : Cx) (c : C0) (tg : Expr) (r : Sl) (Γ : List Sl) (vs : List Nat) (K : List Sl → Prop) : Prop :=
  ∀ (F H : Hp) (stk : L2.St) (S : List Sl) (σ : L2.St) (v : V), stk.length = S.length → EnvR c F H (some v :: (stk ++ σ)) (r :: (S ++ Γ)) → ∀ Q : L2.St → Hp → Prop,
    (∀ F' H' σ' Γ', K Γ' → wipe σ' vs = wipe σ vs → EnvR c F' H' (stk ++ σ') (S ++ Γ') → Q σ' H') → GW X tg v σ H Q
section
variable {X : Cx} {c : C0} {Γ : List Sl} {vs : List Nat} {K : List Sl → Prop} {pos : Pos}
theorem gtc_name (i : Nat) {x : Str} {r : Sl} (hN : X.N.Nodup) (k : K (Γ.set i r)) (hl : i < Γ.length := by exact Nat.le_of_ble_eq_true rfl) (hm : i ∈ vs := by decide) (hi : X.N[i]? = some x := by rfl) (hx : Loc X.env.scope x := by first | exact Or.inl rfl | exact Or.inr rfl)
    (hf : X.fn x = true ∨ X.env.scope.names.lookup x = some .local := by first | exact .inl rfl | exact .inr rfl) : GtC X c (.Name x pos) r Γ vs K := fun F H stk S σ v hls E Q q =>
  gw_of (pg_name hN hi hx hf) (q F H _ _ k (wipe_set hm) (E.storeS hls hl))
theorem gtc_tup2 (i j : Nat) {x y : Str} {d1 d2 : DL.D} {px py : Pos} {kt} (hc : X.calm = true) (hN : X.N.Nodup) (k : K ((Γ.set i (.im d1)).set j (.im d2))) (hl : i < Γ.length := by exact Nat.le_of_ble_eq_true rfl) (hl2 : j < Γ.length := by exact Nat.le_of_ble_eq_true rfl) (hm : i ∈ vs := by decide) (hm2 : j ∈ vs := by decide) (hi : X.N[i]? = some x := by rfl) (hj : X.N[j]? = some y := by rfl) (hx : Loc X.env.scope x := by first | exact Or.inl rfl | exact Or.inr rfl) (hy : Loc X.env.scope y := by first | exact Or.inl rfl | exact Or.inr rfl)
    (hf : X.fn x = true ∨ X.env.scope.names.lookup x = some .local := by first | exact .inl rfl | exact .inr rfl) (hf2 : X.fn y = true ∨ X.env.scope.names.lookup y = some .local := by first | exact .inl rfl | exact .inr rfl)
    (hn : (assignEach [.Name x px, .Name y py] X.env).length = 2 := by rfl) (hst : (assignEach [.Name x px, .Name y py] X.env).findIdx? (·.1) = none := by rfl)
    (hs1 : (assignEach [.Name x px, .Name y py] X.env).map (·.2) = assign (.Name x px) X.env :: (assignEach [.Name y py] X.env).map (·.2) := by rfl) (hs2 : (assignEach [.Name y py] X.env).map (·.2) = assign (.Name y py) X.env :: (assignEach [] X.env).map (·.2) := by rfl) :
    GtC X c (.Tuple [.Name x px, .Name y py] kt pos) (.im (.tup [d1, d2])) Γ vs K := fun F H stk S σ v hls E Q q => by
  refine gw_of (pg_tup hc (pgs_cons (pg_name hN hi hx hf) (pgs_cons (pg_name hN hj hy hf2) pgs_nil hs2) hs1) hn hst) ?_
  obtain ⟨p, vs', e, hp, v1, w1, e1, hd1, v2, w2, e2, hd2, e3⟩ := E.imAt (i := 0) rfl rfl
  have e3 : w2 = [] := e3
  subst e3 e2 e1
  refine ⟨p, [v1, v2], e, .inl (.inl (E.ex _ _ hp)), rfl, v1, [v2], rfl, v2, [], rfl, rfl, ?_⟩
  have E1 := ((E.pop.push hd1).storeS hls hl)
  have E2 := (E1.push hd2).storeS (Γ := Γ.set i (.im d1)) hls (by simpa using hl2)
  exact q F H _ _ k (by rw [wipe_set hm2, wipe_set hm]) E2
theorem gtc_tup3 (i j l : Nat) {x y z : Str} {d1 d2 d3 : DL.D} {px py pz : Pos} {kt} (hc : X.calm = true) (hN : X.N.Nodup) (k : K (((Γ.set i (.im d1)).set j (.im d2)).set l (.im d3))) (hl : i < Γ.length := by exact Nat.le_of_ble_eq_true rfl) (hl2 : j < Γ.length := by exact Nat.le_of_ble_eq_true rfl) (hl3 : l < Γ.length := by exact Nat.le_of_ble_eq_true rfl) (hm : i ∈ vs := by decide) (hm2 : j ∈ vs := by decide) (hm3 : l ∈ vs := by decide) (hi : X.N[i]? = some x := by rfl) (hj : X.N[j]? = some y := by rfl) (hll : X.N[l]? = some z := by rfl)
    (hx : Loc X.env.scope x := by first | exact Or.inl rfl | exact Or.inr rfl) (hy : Loc X.env.scope y := by first | exact Or.inl rfl | exact Or.inr rfl) (hz : Loc X.env.scope z := by first | exact Or.inl rfl | exact Or.inr rfl)
    (hf : X.fn x = true ∨ X.env.scope.names.lookup x = some .local := by first | exact .inl rfl | exact .inr rfl) (hf2 : X.fn y = true ∨ X.env.scope.names.lookup y = some .local := by first | exact .inl rfl | exact .inr rfl) (hf3 : X.fn z = true ∨ X.env.scope.names.lookup z = some .local := by first | exact .inl rfl | exact .inr rfl)
    (hn : (assignEach [.Name x px, .Name y py, .Name z pz] X.env).length = 3 := by rfl) (hst : (assignEach [.Name x px, .Name y py, .Name z pz] X.env).findIdx? (·.1) = none := by rfl)
    (hs1 : (assignEach [.Name x px, .Name y py, .Name z pz] X.env).map (·.2) = assign (.Name x px) X.env :: (assignEach [.Name y py, .Name z pz] X.env).map (·.2) := by rfl) (hs2 : (assignEach [.Name y py, .Name z pz] X.env).map (·.2) = assign (.Name y py) X.env :: (assignEach [.Name z pz] X.env).map (·.2) := by rfl) (hs3 : (assignEach [.Name z pz] X.env).map (·.2) = assign (.Name z pz) X.env :: (assignEach [] X.env).map (·.2) := by rfl) :
    GtC X c (.Tuple [.Name x px, .Name y py, .Name z pz] kt pos) (.im (.tup [d1, d2, d3])) Γ vs K := fun F H stk S σ v hls E Q q => by
  refine gw_of (pg_tup hc (pgs_cons (pg_name hN hi hx hf) (pgs_cons (pg_name hN hj hy hf2) (pgs_cons (pg_name hN hll hz hf3) pgs_nil hs3) hs2) hs1) hn hst) ?_
  obtain ⟨p, vs', e, hp, v1, w1, e1, hd1, v2, w2, e2, hd2, v3, w3, e3, hd3, e4⟩ := E.imAt (i := 0) rfl rfl
  have e4 : w3 = [] := e4
  subst e4 e3 e2 e1
  refine ⟨p, [v1, v2, v3], e, .inl (.inl (E.ex _ _ hp)), rfl, v1, [v2, v3], rfl, v2, [v3], rfl, v3, [], rfl, rfl, ?_⟩
  have E1 := ((E.pop.push hd1).storeS hls hl)
  have E2 := (E1.push hd2).storeS (Γ := Γ.set i (.im d1)) hls (by simpa using hl2)
  have E3 := (E2.push hd3).storeS (Γ := (Γ.set i (.im d1)).set j (.im d2)) hls (by simpa using hl3)
  exact q F H _ _ k (by rw [wipe_set hm3, wipe_set hm2, wipe_set hm]) E3
end
/-! ### blocks -/
def IsBlk (X : Cx) (scope : Scope) (Y : Cx) : Prop := ∃ (s : Shared) (H : Hp) (C : Addr) (cl : List (Str × Addr)) (fp : List Addr), Y = X.blk s H scope (compEnvC scope cl C X.env) fp
def gB (X : Cx) (scope : Scope) (tg : Expr) : TG := fun v σ H Q => ∀ Y, IsBlk X scope Y → GW Y tg v σ H Q
def eB (X : Cx) (scope : Scope) (e : Expr) : TE := fun σ H Q => ∀ Y, IsBlk X scope Y → WE Y e σ H Q
def tB (X : Cx) (scope : Scope) : List Expr → TT
  | [] => tYes
  | [t] => fun σ H Q => ∀ Y, IsBlk X scope Y → WT Y t σ H Q
  | _ => fun _ _ _ => False
theorem pg_gB {X : Cx} {scope : Scope} {tg : Expr} (s : Shared) (H : Hp) (C : Addr) (cl : List (Str × Addr)) (fp : List Addr) : PG (X.blk s H scope (compEnvC scope cl C X.env) fp) tg (gB X scope tg) := ⟨fun pins s1 σ H1 v u Q I r h => h _ ⟨s, H, C, cl, fp, rfl⟩ pins s1 u I r⟩
theorem pe_eB {X : Cx} {scope : Scope} {e : Expr} (s : Shared) (H : Hp) (C : Addr) (cl : List (Str × Addr)) (fp : List Addr) : PE (X.blk s H scope (compEnvC scope cl C X.env) fp) e (eB X scope e) := ⟨fun pins s1 σ H1 Q I h => h _ ⟨s, H, C, cl, fp, rfl⟩ pins s1 I⟩
theorem pt_tB {X : Cx} {scope : Scope} {ifs : List Expr} (s : Shared) (H : Hp) (C : Addr) (cl : List (Str × Addr)) (fp : List Addr) : PTs (X.blk s H scope (compEnvC scope cl C X.env) fp) ifs (tB X scope ifs) := by
  match ifs with
  | [] => exact pts_nil
  | [t] => exact pts_one ⟨fun pins s1 σ H1 Q I h => h _ ⟨s, H, C, cl, fp, rfl⟩ pins s1 I⟩
  | _ :: _ :: _ => exact ⟨fun pins s1 σ H1 Q I h => h.elim⟩
def WPts (X : Cx) (c : C0) : List Expr → List Sl → (Bool → Prop) → Prop
  | [], _, K => K true
  | [t], Γ, K => WPt X c t Γ K
  | _, _, _ => False
/-- what a comprehension keeps from turn to turn -/
structure Acc (c : C0) (F1 H1 F H : Hp) (D : Addr) : Prop where
  ex : Ex F H
  gr : Gr F1 H1 F
  kp : Keep c.W H1 H
  hk : c.hok H
  fF : F D = none
section
variable {X : Cx} {c : C0} {Γ : List Sl} {K : Sl → Prop} {tg iter elt : Expr} {ifs : List Expr} {scope : Scope} {own : List (Str × Nat)} {pos : Pos}
/-- a turn's own entry -/
theorem Acc.env {F1 H1 F H : Hp} {D : Addr} {stk σ : L2.St} {S : List Sl} {d : DL.D} {vs : List Nat} (A : Acc c F1 H1 F H D) (E1 : EnvR c F1 H1 (stk ++ σ) (S ++ Γ)) (hl : stk.length = S.length) (hv : ∀ v ∈ vs, v < Γ.length) (hD : H1 D = none) (ho : Own F H D d) :
    EnvR (c.at F1 H1) F H (some (.ref D) :: (stk ++ wipe σ vs)) (.own d :: (S.map lookS ++ wipeS (Γ.map lookS) vs)) := by
  have E2 := (E1.step A.gr A.ex A.kp A.hk).look A.gr A.kp
  rw [List.map_append] at E2
  have E3 := E2.wipeR (vs := vs) (by rw [List.length_map]; exact hl) (fun v hm => by rw [List.length_map]; exact hv v hm)
  refine E3.addOwn hD ho A.fF (fun w => E1.wne w hD) fun s hs => ?_
  rcases List.mem_append.mp hs with z | z
  · exact look_noOwn s z
  · exact wipe_noOwn look_noOwn s z
theorem blk_of {sc' : Scope} {N' : List Str} (h : blkC N' sc' scope own = true) (hN : X.N = N' := by rfl) (hs : X.env.scope = sc' := by rfl) : BlkOk X.N X.env.scope scope own := by
  rw [hN, hs]
  exact blkOk_by h
theorem lc_D (J : Nat → List DL.D → Prop) (hv : own.all (fun p => decide (p.2 < Γ.length)) = true)
    (h : WPi X c tg iter Γ fun n item => J 0 [] ∧ (∀ (F1 H1 : Hp) (i : Nat) (acc : List DL.D), i < n → J i acc → ∀ Y, IsBlk X scope Y → GtC Y (c.at F1 H1) tg (.im (item i)) (wipeS (Γ.map lookS) (own.map (·.2))) (own.map (·.2)) fun Γ2 =>
      ∀ Y, IsBlk X scope Y → WPts Y (c.at F1 H1) ifs Γ2 fun b => (b = true → ∀ Y, IsBlk X scope Y → WPe Y (c.at F1 H1) elt Γ2 fun r => ∃ d, frz r = .im d ∧ acc.length < sizeLine ∧ J (i + 1) (acc ++ [d])) ∧ (b = false → J (i + 1) acc)) ∧ ∀ acc, J n acc → K (.own (.lst acc)))
    (F H : Hp) (stk : L2.St) (S : List Sl) (σ : L2.St) (hl : stk.length = S.length) (E : EnvR c F H (stk ++ σ) (S ++ Γ)) (Q : VK) (q : ∀ v r F' H', K r → EnvR c F' H' (some v :: (stk ++ σ)) (r :: (S ++ Γ)) → Q v H') :
    tLc (IWt X tg iter) (gB X scope tg) (tB X scope ifs) (eB X scope elt) (own.map (·.2)) σ H Q := by
  refine h F H stk S σ hl E _ fun It n item src F1 H1 k1 io sF E1 D hD => ?_
  obtain ⟨j0, turn, fin⟩ := k1
  have hDW : D ∉ c.W := fun w => E1.wne w hD
  have hD1 : F1 D = none := E1.ex.back hD
  have hvs : ∀ v ∈ own.map (·.2), v < Γ.length := fun v hm => by
    obtain ⟨p, hp, rfl⟩ := List.mem_map.mp hm
    exact of_decide_eq_true (List.all_eq_true.mp hv p hp)
  refine ⟨fun i m H => m = n - i ∧ i ≤ n ∧ ∃ F acc vs', J i acc ∧ Acc c F1 H1 F H D ∧ H D = some (.lst vs') ∧ Dats F acc vs', ⟨n, by simp, Nat.zero_le _, F1, [], [], j0, ⟨E1.ex.mut hD1, Gr.refl _ _, fun a u ha _ => by rw [upd_ne (ne_of_none ha hD)]; exact ha, c.stab H1 _ (fun a w => upd_ne (fun z => hDW (by rw [← z]; exact w))) (extx_new hD) E1.hk, hD1⟩, upd_same, .nil⟩, ?_⟩
  rintro i m H2 ⟨rfl, hi, F2, acc, vs', ji, A, hD2, hd⟩
  have sF2 : src F2 := io.mono F1 F2 A.gr.1 sF
  have E2 := A.env (vs := own.map (·.2)) E1 hl hvs hD (d := .lst acc) ⟨vs', hD2, hd⟩
  by_cases hlt : i < n
  · refine .inr ⟨io.go F2 H2 i A.ex sF2 hlt, fun H' => ∃ F acc vs', J (i + 1) acc ∧ Acc c F1 H1 F H' D ∧ H' D = some (.lst vs') ∧ Dats F acc vs', fun H' hN => ⟨n - (i + 1), by omega, rfl, hlt, hN⟩, fun x H' hy => ?_⟩
    obtain ⟨F3, e3, E3⟩ := io.yld _ F2 H2 _ _ i x H' E2 sF2 hlt hy
    intro Y hY
    refine turn F1 H1 i acc hlt ji Y hY F3 H' (some (.ref D) :: stk) (.own (.lst acc) :: S.map lookS) _ x (by simp [hl]) E3 _ fun F4 H4 σ4 Γ4 k4 w4 E4 => ⟨w4.trans wipe_wipe, ?_⟩
    have step : ∀ (F5 H5 : Hp), EnvR (c.at F1 H1) F5 H5 (some (.ref D) :: (stk ++ σ4)) (.own (.lst acc) :: (S.map lookS ++ Γ4)) → ∀ b : Bool, ((b = true → ∀ Y, IsBlk X scope Y → WPe Y (c.at F1 H1) elt Γ4 fun r => ∃ d, frz r = .im d ∧ acc.length < sizeLine ∧ J (i + 1) (acc ++ [d])) ∧ (b = false → J (i + 1) acc)) →
        if b = true then eB X scope elt σ4 H5 fun y H4 => ∃ acc, H4 D = some (.lst acc) ∧ acc.length < sizeLine ∧ (fun H' => ∃ F acc vs', J (i + 1) acc ∧ Acc c F1 H1 F H' D ∧ H' D = some (.lst vs') ∧ Dats F acc vs') (upd H4 D (.lst (acc ++ [y]))) else (fun H' => ∃ F acc vs', J (i + 1) acc ∧ Acc c F1 H1 F H' D ∧ H' D = some (.lst vs') ∧ Dats F acc vs') H5 := by
      intro F5 H5 E5 b kb
      have own5 : ∀ {F H : Hp} {L : L2.St} {G : List Sl}, EnvR (c.at F1 H1) F H (some (.ref D) :: L) (.own (.lst acc) :: G) → ∃ ws, H D = some (.lst ws) ∧ Dats F acc ws ∧ F D = none := fun {F H L G} E => by
        obtain ⟨p, hp, ⟨ws, w1, w2⟩, w3, _⟩ := E.own (i := 0) rfl
        have e : D = p := by simpa using hp
        subst e
        exact ⟨ws, w1, w2, w3⟩
      cases b with
      | false =>
        refine iteF ?_
        obtain ⟨ws, w1, w2, w3⟩ := own5 E5
        exact ⟨F5, acc, ws, kb.2 rfl, ⟨E5.ex, ⟨E5.ex0, E5.gr⟩, E5.fr, E5.hk, w3⟩, w1, w2⟩
      | true =>
        refine iteT ?_
        intro Y hY
        refine kb.1 rfl Y hY F5 H5 (some (.ref D) :: stk) (.own (.lst acc) :: S.map lookS) σ4 (by simp [hl]) E5 _ fun y r F6 H6 k6 E6 => ?_
        obtain ⟨d, hfr, hlen, j6⟩ := k6
        obtain ⟨F7, E7⟩ := E6.frzTop
        rw [hfr] at E7
        have hy := E7.imAt (i := 0) rfl rfl
        have E8 := E7.pop
        obtain ⟨ws, w1, w2, w3⟩ := own5 E8
        refine ⟨ws, w1, by rw [← w2.length]; exact hlen, F7, acc ++ [d], ws ++ [y], j6, ⟨E8.ex.mut w3, ⟨E8.ex0, E8.gr⟩, fun a o ha w => ?_, c.stab H6 _ (fun a w => upd_ne (fun z => hDW (by rw [← z]; exact w))) (extx_mut fun φ z => by rw [w1] at z; cases z) E8.hk, w3⟩, upd_same, w2.append (.one hy)⟩
        rw [upd_ne (ne_of_none ha hD)]
        exact E8.fr a o ha w
    have E4' : EnvR (c.at F1 H1) F4 H4 (some (.ref D) :: (stk ++ σ4)) (.own (.lst acc) :: (S.map lookS ++ Γ4)) := E4
    match ifs, k4 with
    | [], k4 => exact step F4 H4 E4' true (k4 Y hY)
    | [t], k4 =>
      intro Y hY
      exact k4 Y hY F4 H4 (some (.ref D) :: stk) (.own (.lst acc) :: S.map lookS) σ4 (by simp [hl]) E4 _ fun b F5 H5 kb E5 => step F5 H5 E5 b kb
    | _ :: _ :: _, k4 => exact (k4 Y hY).elim
  · have e : i = n := by omega
    subst e
    refine .inl ⟨io.stop F2 H2 A.ex sF2, q (.ref D) (.own (.lst acc)) F2 H2 (fin acc ji) ?_⟩
    exact E1.ret E2.only rfl rfl (fun a z => z) A.hk (fun z => by cases z) rfl
theorem wp_lc (J : Nat → List DL.D → Prop) (hc : X.calm = true) (hN : X.N.Nodup) (ok : BlkOk X.N X.env.scope scope own) (hv : own.all (fun p => decide (p.2 < Γ.length)) = true)
    (h : WPi X c tg iter Γ fun n item => J 0 [] ∧ (∀ (F1 H1 : Hp) (i : Nat) (acc : List DL.D), i < n → J i acc → ∀ Y, IsBlk X scope Y → GtC Y (c.at F1 H1) tg (.im (item i)) (wipeS (Γ.map lookS) (own.map (·.2))) (own.map (·.2)) fun Γ2 =>
      ∀ Y, IsBlk X scope Y → WPts Y (c.at F1 H1) ifs Γ2 fun b => (b = true → ∀ Y, IsBlk X scope Y → WPe Y (c.at F1 H1) elt Γ2 fun r => ∃ d, frz r = .im d ∧ acc.length < sizeLine ∧ J (i + 1) (acc ++ [d])) ∧ (b = false → J (i + 1) acc)) ∧ ∀ acc, J n acc → K (.own (.lst acc)))
    (hs : ∀ x, foldedSetIterable iter X.env x = pure x := by intro _; rfl) : WPe X c (.ListComp elt [⟨tg, iter, ifs, 0⟩] scope pos) Γ K := fun F H stk S σ hl E Q q =>
  we_of (pe_lc hc hN pi_iw ok pg_gB pt_tB pe_eB hs) (lc_D J hv h F H stk S σ hl E Q q)
/-- x = [.. for ..] on one line -/
theorem wst_setLc (i : Nat) {y : Str} {py spos : Pos} {D : DEnds} (J : Nat → List DL.D → Prop) (hc : X.calm = true) (hN : X.N.Nodup) (ok : BlkOk X.N X.env.scope scope own) (hv : own.all (fun p => decide (p.2 < Γ.length)) = true)
    (h : WPi X c tg iter Γ fun n item => J 0 [] ∧ (∀ (F1 H1 : Hp) (i : Nat) (acc : List DL.D), i < n → J i acc → ∀ Y, IsBlk X scope Y → GtC Y (c.at F1 H1) tg (.im (item i)) (wipeS (Γ.map lookS) (own.map (·.2))) (own.map (·.2)) fun Γ2 =>
      ∀ Y, IsBlk X scope Y → WPts Y (c.at F1 H1) ifs Γ2 fun b => (b = true → ∀ Y, IsBlk X scope Y → WPe Y (c.at F1 H1) elt Γ2 fun r => ∃ d, frz r = .im d ∧ acc.length < sizeLine ∧ J (i + 1) (acc ++ [d])) ∧ (b = false → J (i + 1) acc)) ∧ ∀ acc, J n acc → D.nx (Γ.set i (.own (.lst acc))))
    (hi : i < Γ.length := by exact Nat.le_of_ble_eq_true rfl) (hy : X.N[i]? = some y := by rfl) (hyl : X.env.scope.names.lookup y = some .local := by rfl) (hsw : swapsWith (.ListComp elt [⟨tg, iter, ifs, 0⟩] scope pos) (some (.Name y py)) spos.line X.env = pure true := by rfl)
    (hs : ∀ x, foldedSetIterable iter X.env x = pure x := by intro _; rfl) : WPst X c (.Assign [.Name y py] (.ListComp elt [⟨tg, iter, ifs, 0⟩] scope pos) spos) Γ D := fun F H σ E Ee ok' => by
  refine ws_of (ps_setLc hc hN hy hyl hsw pi_iw ok pg_gB pt_tB pe_eB hs) ?_
  refine lc_D (K := fun r => ∃ acc, r = .own (.lst acc) ∧ D.nx (Γ.set i (.own (.lst acc)))) J hv (fun F H stk S σ hl E R q => h F H stk S σ hl E R fun J' n item src F' H' k => q J' n item src F' H' ⟨k.1, k.2.1, fun acc ja => ⟨acc, rfl, k.2.2 acc ja⟩⟩) F H [] [] σ rfl E.env _ fun v r F' H' k E' => ?_
  obtain ⟨acc, rfl, k⟩ := k
  exact ok'.nx _ F' H' _ k ⟨EnvR.store (Γ := Γ) (σ := σ) E' hi, E.nv.set rfl⟩
end
end DL

set_option Elab.async false
set_option linter.all false
set_option maxRecDepth 100000
set_option maxHeartbeats 2000000
/-! DL9: methods, slices, dicts, stores -/
namespace DL
open PySem PySem.Spec PyProof.Rows L2
/-! ### methods of an own list, as statements -/
section
variable {X : Cx} {c : C0} {Γ : List Sl} {D : DEnds} {e e2 : Expr} {pos p apos cpos : Pos} {x : Str} {l : List DL.D}
theorem ixN_of {n j : Nat} (hj : j < n) : ixN n (j : Int) = some j := by
  unfold ixN
  rw [if_pos (by omega), if_pos (by omega), Int.toNat_natCast]
theorem EnvR.ownAt {F H : Hp} {σ : L2.St} {Γ : List Sl} (E : EnvR c F H σ Γ) {i : Nat} (h : Γ[i]? = some (.own (.lst l))) : ∃ p vs, σ[i]? = some (some (.ref p)) ∧ H p = some (.lst vs) ∧ Dats F l vs ∧ F p = none := by
  obtain ⟨p, h1, ⟨vs, h2, h3⟩, h4, _⟩ := E.own h
  exact ⟨p, vs, h1, h2, h3, h4⟩
theorem wst_append (i : Nat) (hΓ : Γ[i]? = some (.own (.lst l))) (hz : l.length < sizeLine) (h : WPe X c e Γ fun r => ∃ d, frz r = .im d ∧ D.nx (Γ.set i (.own (.lst (l ++ [d]))))) (hN : X.N[i]? = some x := by rfl)
    (hv : Vis X.env.scope x := by first | exact Or.inl rfl | exact Or.inr (Or.inl rfl) | exact Or.inr (Or.inr rfl)) (hd : (x == ("__debug__" : Str)) = false := by decide) (hcd : (x == ("__classdict__" : Str)) = false := by decide)
    (hbase : attributeBase (.Name x p) "append" X.env (eval (.Name x p) X.env) = eval (.Name x p) X.env := by rfl)
    (hfew : ((backTo cpos (starEach [e] X.env)).all (fun x => !x.1) && (backToKw cpos (keywordEach [] X.env)).all (fun x => x.1.isSome) && decide ([e].length + ([] : List Keyword).length + (if ([] : List Keyword).isEmpty then 0 else 1) < 30)) = true := by rfl)
    (hline : (apos.endLine == cpos.line) = true := by rfl) (hs : starEach [e] X.env = (false, eval e X.env) :: starEach [] X.env := by rfl) (hplain : (backTo cpos (starEach [] X.env)).any (·.1) = false := by rfl) (hsw : swapsWith (.Call (.Attribute (.Name x p) "append" apos) [e] [] cpos) none pos.line X.env = pure false := by rfl) :
    WPst X c (.Expr (.Call (.Attribute (.Name x p) "append" apos) [e] [] cpos) pos) Γ D := fun F H σ E Ee ok => by
  refine ws_of (ps_expr (pe_bm PySem.F.plainAttrs_list PySem.F.slot_list_append PySem.F.type_list_append mt_append (pe_var hN hv hd hcd) (pa_cons pe_we pa_nil hs) hbase hfew hline hs hplain) hsw) ?_
  obtain ⟨q, vs, h1, h2, h3, h4⟩ := E.env.ownAt hΓ
  refine ⟨.ref q, h1, .inl ⟨rfl, vs, .inl (.inl h2)⟩, ?_⟩
  refine h F H [] [] σ rfl E.env _ fun v r F1 H1 k1 E1 => ?_
  obtain ⟨d, hfr, k⟩ := k1
  obtain ⟨F2, E2⟩ := E1.frzTop
  rw [hfr] at E2
  have hy := E2.imAt (i := 0) rfl rfl
  have E3 : EnvR c F2 H1 σ Γ := E2.pop
  obtain ⟨q2, ws, g1, g2, g3, g4⟩ := E3.ownAt hΓ
  rw [h1] at g1
  cases g1
  refine ⟨q, ws, v, rfl, rfl, g2, by rw [← g3.length]; exact hz, ok.nx _ F2 _ σ k ⟨?_, E.nv.set rfl⟩⟩
  exact E3.write E.nv hΓ h1 ⟨ws ++ [v], upd_same, g3.append (.one hy)⟩
end
theorem meets_extT (l : Addr) (items : Array Value) (n : Nat) (b : Addr) (items2 : Array Value) (n2 : Nat) (dct : Option Addr) (sl : Array (Option Value)) (h0 : ¬(!items.isEmpty && Builtin.List.listTooLong (items.size + items2.size)) = true) (h1 : items.size ≤ sizeLine) (h2 : items.size + items2.size ≤ sizeLine + 1) :
    Meets (Builtin.«list.extend» ⟨[.ref l, .ref b], []⟩) (fun _ R s => s.heap.get? l = some { cls := .type "list", data := .seq items n } ∧ s.heap.get? b = some { cls := .type "tuple", dict := dct, data := .seq items2 n2, slots := sl } ∧
      R (.ok (.ret Value.none)) { s with heap := s.heap.update l (Obj.mapSeq fun x => x ++ items2), toks := s.toks }) :=
  .of_wp fun prog w A R s h => by
    obtain ⟨hp, g, d, tk, os⟩ := s
    obtain ⟨hl, hb, h⟩ := h
    have f1 := AutoSeq1.idx_int
    have f2 := AutoSeq1.sub_tuple_tuple
    have f3 := AutoSeq1.sub_list_list
    have f4 := AutoSeq1.sub_tuple_list
    have f5 := AutoSeq1.sub_list_tuple
    have sz : (items ++ items2).size ≤ sizeLine + 1 := by
      rw [Array.size_append]
      exact h2
    wp_walk using (wpAny_updateSeq hl rfl (hz := h1) (_hz' := sz)), AutoSeq1.wpAny_loadPart' hl, AutoSeq1.wpAny_loadPart' hb
    exact ⟨_, rfl, h⟩
section
variable {X : Cx} {c : C0} {Γ : List Sl} {D : DEnds} {e e2 : Expr} {pos p apos cpos : Pos} {x : Str} {l : List DL.D}
theorem mt_extendT : MtM X "list.extend" (fun x vs H Q => ∃ l b xs zs, x = .ref l ∧ vs = [.ref b] ∧ H l = some (.lst xs) ∧ H b = some (.tup zs) ∧ xs.length + zs.length ≤ sizeLine ∧ Q .non (upd H l (.lst (xs ++ zs)))) := by
  intro pins s σ H x vs v us Q I rx rv h
  obtain ⟨l, b, xs, zs, rfl, rfl, hH, hB, hz, q⟩ := h
  cases rx
  obtain ⟨u, rfl, ru⟩ := rv.one
  cases ru
  obtain ⟨z, its, n, r, hl, e⟩ := I.lstM hH
  obtain ⟨its2, r2, ⟨o, ho, hc, n2, hd⟩, z2⟩ := I.tuple (.inl (.inl hB))
  have hl2 := r2.length
  have total : its.toArray.size + its2.toArray.size ≤ sizeLine := by rw [List.size_toArray, List.size_toArray]; omega
  have short : ¬ (!its.toArray.isEmpty && Builtin.List.listTooLong (its.toArray.size + its2.toArray.size)) = true := by
    rw [notLongL total, Bool.and_false]
    exact Bool.false_ne_true
  obtain ⟨oc, od, odt, osl⟩ := o
  replace hc : oc = .type "tuple" := hc
  replace hd : odt = .seq its2.toArray n2 := hd
  subst hc hd
  refine call_meets F.slot_list_extend ⟨_, e, rfl⟩ F.entry_list_extend (F.args_list_extend_2 _ _) (meets_extT l its.toArray n b its2.toArray n2 od osl short (by rw [List.size_toArray]; omega) (by omega)) ⟨e, ho, ?_⟩
  exact ⟨.non, _, I.lset (its' := its ++ its2) hH e (by simp) (r.append r2) (by rw [List.length_append]; omega), rfl, q⟩
/-- a method's call that leaves a changed list in slot i -/
theorem wst_extend (i : Nat) (hΓ : Γ[i]? = some (.own (.lst l))) (h : WPe X c e Γ fun r => ∃ m, seq? (frz r) = some m ∧ l.length + m.length ≤ sizeLine ∧ D.nx (Γ.set i (.own (.lst (l ++ m))))) (hN : X.N[i]? = some x := by rfl)
    (hv : Vis X.env.scope x := by first | exact Or.inl rfl | exact Or.inr (Or.inl rfl) | exact Or.inr (Or.inr rfl)) (hd : (x == ("__debug__" : Str)) = false := by decide) (hcd : (x == ("__classdict__" : Str)) = false := by decide)
    (hbase : attributeBase (.Name x p) "extend" X.env (eval (.Name x p) X.env) = eval (.Name x p) X.env := by rfl)
    (hfew : ((backTo cpos (starEach [e] X.env)).all (fun x => !x.1) && (backToKw cpos (keywordEach [] X.env)).all (fun x => x.1.isSome) && decide ([e].length + ([] : List Keyword).length + (if ([] : List Keyword).isEmpty then 0 else 1) < 30)) = true := by rfl)
    (hline : (apos.endLine == cpos.line) = true := by rfl) (hs : starEach [e] X.env = (false, eval e X.env) :: starEach [] X.env := by rfl) (hplain : (backTo cpos (starEach [] X.env)).any (·.1) = false := by rfl) (hsw : swapsWith (.Call (.Attribute (.Name x p) "extend" apos) [e] [] cpos) none pos.line X.env = pure false := by rfl) :
    WPst X c (.Expr (.Call (.Attribute (.Name x p) "extend" apos) [e] [] cpos) pos) Γ D := fun F H σ E Ee ok => by
  refine ws_of (ps_expr (pe_bm PySem.F.plainAttrs_list PySem.F.slot_list_extend PySem.F.type_list_extend (MtR.or mt_extend mt_extendT) (pe_var hN hv hd hcd) (pa_cons pe_we pa_nil hs) hbase hfew hline hs hplain) hsw) ?_
  obtain ⟨q, vs, h1, h2, h3, h4⟩ := E.env.ownAt hΓ
  refine ⟨.ref q, h1, .inl ⟨rfl, vs, .inl (.inl h2)⟩, ?_⟩
  refine h F H [] [] σ rfl E.env _ fun v r F1 H1 k1 E1 => ?_
  obtain ⟨m, hfr, hz, k⟩ := k1
  obtain ⟨F2, E2⟩ := E1.frzTop
  have E3 : EnvR c F2 H1 σ Γ := E2.pop
  obtain ⟨q2, ws, g1, g2, g3, g4⟩ := E3.ownAt hΓ
  rw [h1] at g1
  cases g1
  have fin : ∀ (zs : List V), Dats F2 m zs → Ee.nx σ (upd H1 q (.lst (ws ++ zs))) := fun zs hzs =>
    ok.nx _ F2 _ σ k ⟨E3.write E.nv hΓ h1 ⟨ws ++ zs, upd_same, g3.append hzs⟩, E.nv.set rfl⟩
  have key : lst? (frz r) = some m → ∃ l b xs zs, V.ref q = .ref l ∧ [v] = [V.ref b] ∧ H1 l = some (.lst xs) ∧ H1 b = some (.lst zs) ∧ xs.length + zs.length ≤ sizeLine ∧ Ee.nx σ (upd H1 l (.lst (xs ++ zs))) := fun z => by
    obtain ⟨b, zs, e1, e2, e3⟩ := E2.lstAt (i := 0) rfl rfl z
    exact ⟨q, b, ws, zs, rfl, by rw [e1], g2, e2, by rw [← g3.length, ← e3.length]; exact hz, fin zs e3⟩
  revert key E2 hfr
  generalize frz r = rf
  intro hfr E2 key
  cases rf with
  | im d =>
    cases d with
    | lst l' => exact .inl (key hfr)
    | tup l' =>
      cases hfr
      obtain ⟨b, zs, e1, e2, e3⟩ := E2.imAt (i := 0) rfl rfl
      exact .inr ⟨q, b, ws, zs, rfl, by rw [e1], g2, E2.ex _ _ e2, by rw [← g3.length, ← e3.length]; exact hz, fin zs e3⟩
    | _ => cases hfr
  | vw d =>
    cases d with
    | lst l' => exact .inl (key hfr)
    | _ => cases hfr
  | _ => cases hfr
theorem wst_popAt (i : Nat) (hΓ : Γ[i]? = some (.own (.lst l))) (h : WPe X c e Γ fun r => ∃ n : Nat, r = .im (.int (n : Int)) ∧ n < l.length ∧ l.length ≤ sizeLine ∧ D.nx (Γ.set i (.own (.lst (l.eraseIdx n))))) (hN : X.N[i]? = some x := by rfl)
    (hv : Vis X.env.scope x := by first | exact Or.inl rfl | exact Or.inr (Or.inl rfl) | exact Or.inr (Or.inr rfl)) (hd : (x == ("__debug__" : Str)) = false := by decide) (hcd : (x == ("__classdict__" : Str)) = false := by decide)
    (hbase : attributeBase (.Name x p) "pop" X.env (eval (.Name x p) X.env) = eval (.Name x p) X.env := by rfl)
    (hfew : ((backTo cpos (starEach [e] X.env)).all (fun x => !x.1) && (backToKw cpos (keywordEach [] X.env)).all (fun x => x.1.isSome) && decide ([e].length + ([] : List Keyword).length + (if ([] : List Keyword).isEmpty then 0 else 1) < 30)) = true := by rfl)
    (hline : (apos.endLine == cpos.line) = true := by rfl) (hs : starEach [e] X.env = (false, eval e X.env) :: starEach [] X.env := by rfl) (hplain : (backTo cpos (starEach [] X.env)).any (·.1) = false := by rfl) (hsw : swapsWith (.Call (.Attribute (.Name x p) "pop" apos) [e] [] cpos) none pos.line X.env = pure false := by rfl) :
    WPst X c (.Expr (.Call (.Attribute (.Name x p) "pop" apos) [e] [] cpos) pos) Γ D := fun F H σ E Ee ok => by
  refine ws_of (ps_expr (pe_bm PySem.F.plainAttrs_list PySem.F.slot_list_pop PySem.F.type_list_pop mt_popAt (pe_var hN hv hd hcd) (pa_cons pe_we pa_nil hs) hbase hfew hline hs hplain) hsw) ?_
  obtain ⟨q, vs, h1, h2, h3, h4⟩ := E.env.ownAt hΓ
  refine ⟨.ref q, h1, .inl ⟨rfl, vs, .inl (.inl h2)⟩, ?_⟩
  refine h F H [] [] σ rfl E.env _ fun v r F1 H1 k1 E1 => ?_
  obtain ⟨n, hfr, hn, hz, k⟩ := k1
  subst hfr
  have hy : v = .int (n : Int) := E1.imAt (i := 0) rfl rfl
  subst hy
  have E3 : EnvR c F1 H1 σ Γ := E1.pop
  obtain ⟨q2, ws, g1, g2, g3, g4⟩ := E3.ownAt hΓ
  rw [h1] at g1
  cases g1
  have hws : n < ws.length := by rw [← g3.length]; exact hn
  have h62 : sizeLine = 2 ^ 24 := rfl
  refine ⟨q, ws, (n : Int), n, ws[n], rfl, rfl, g2, by omega, by omega, (ixN_seq (ixN_of hws)).1, by simp [hws], ok.nx _ F1 _ σ k ⟨?_, E.nv.set rfl⟩⟩
  exact E3.write E.nv hΓ h1 ⟨ws.eraseIdx n, upd_same, g3.eraseIdx n⟩
theorem wst_insert (i : Nat) (hΓ : Γ[i]? = some (.own (.lst l))) (h : WPe X c e Γ fun r => ∃ n : Nat, r = .im (.int (n : Int)) ∧ n < 2 ^ 63 ∧ l.length < sizeLine ∧ WPe X c e2 Γ fun r2 => ∃ d, frz r2 = .im d ∧ D.nx (Γ.set i (.own (.lst (l.take n ++ [d] ++ l.drop n))))) (hN : X.N[i]? = some x := by rfl)
    (hv : Vis X.env.scope x := by first | exact Or.inl rfl | exact Or.inr (Or.inl rfl) | exact Or.inr (Or.inr rfl)) (hd : (x == ("__debug__" : Str)) = false := by decide) (hcd : (x == ("__classdict__" : Str)) = false := by decide)
    (hbase : attributeBase (.Name x p) "insert" X.env (eval (.Name x p) X.env) = eval (.Name x p) X.env := by rfl)
    (hfew : ((backTo cpos (starEach [e, e2] X.env)).all (fun x => !x.1) && (backToKw cpos (keywordEach [] X.env)).all (fun x => x.1.isSome) && decide ([e, e2].length + ([] : List Keyword).length + (if ([] : List Keyword).isEmpty then 0 else 1) < 30)) = true := by rfl)
    (hline : (apos.endLine == cpos.line) = true := by rfl) (hs : starEach [e, e2] X.env = (false, eval e X.env) :: starEach [e2] X.env := by rfl) (hs2 : starEach [e2] X.env = (false, eval e2 X.env) :: starEach [] X.env := by rfl) (hplain : (backTo cpos (starEach [e2] X.env)).any (·.1) = false := by rfl) (hsw : swapsWith (.Call (.Attribute (.Name x p) "insert" apos) [e, e2] [] cpos) none pos.line X.env = pure false := by rfl) :
    WPst X c (.Expr (.Call (.Attribute (.Name x p) "insert" apos) [e, e2] [] cpos) pos) Γ D := fun F H σ E Ee ok => by
  refine ws_of (ps_expr (pe_bm PySem.F.plainAttrs_list PySem.F.slot_list_insert PySem.F.type_list_insert mt_insert (pe_var hN hv hd hcd) (pa_cons pe_we (pa_cons pe_we pa_nil hs2) hs) hbase hfew hline hs hplain) hsw) ?_
  obtain ⟨q, vs, h1, h2, h3, h4⟩ := E.env.ownAt hΓ
  refine ⟨.ref q, h1, .inl ⟨rfl, vs, .inl (.inl h2)⟩, ?_⟩
  refine h F H [] [] σ rfl E.env _ fun v r F1 H1 k1 E1 => ?_
  obtain ⟨n, hfr, hn, hz, k1⟩ := k1
  subst hfr
  refine k1 F1 H1 [some v] [.im (.int (n : Int))] σ rfl E1 _ fun v2 r2 F2 H2 k2 E2 => ?_
  obtain ⟨d, hfr, k⟩ := k2
  obtain ⟨F3, E3⟩ := E2.frzTop
  rw [hfr] at E3
  have hy2 := E3.imAt (i := 0) rfl rfl
  have E4 : EnvR c F3 H2 (some v :: σ) (.im (.int (n : Int)) :: Γ) := E3.pop
  have hy : v = .int (n : Int) := E4.imAt (i := 0) rfl rfl
  subst hy
  have E5 := E4.pop
  obtain ⟨q2, ws, g1, g2, g3, g4⟩ := E5.ownAt hΓ
  rw [h1] at g1
  cases g1
  refine ⟨q, ws, (n : Int), v2, rfl, rfl, g2, by rw [← g3.length]; exact hz, by omega, by omega, ok.nx _ F3 _ σ k ⟨?_, E.nv.set rfl⟩⟩
  exact E5.write E.nv hΓ h1 ⟨_, upd_same, by rw [Int.toNat_natCast]; exact ((g3.take n).append (.one hy2)).append (g3.drop n)⟩
/-- x[e] = v, x an own list -/
theorem wst_lput (i : Nat) {ie : Expr} {p2 : Pos} (hΓ : Γ[i]? = some (.own (.lst l))) (h : WPe X c e Γ fun r => ∃ d, r = .im d ∧ WPe X c ie Γ fun r2 => ∃ n : Nat, r2 = .im (.int (n : Int)) ∧ n < l.length ∧ D.nx (Γ.set i (.own (.lst (l.set n d))))) (hN : X.N[i]? = some x := by rfl)
    (hv : Vis X.env.scope x := by first | exact Or.inl rfl | exact Or.inr (Or.inl rfl) | exact Or.inr (Or.inr rfl)) (hd : (x == ("__debug__" : Str)) = false := by decide) (hcd : (x == ("__classdict__" : Str)) = false := by decide)
    (ha : ∀ v, assign (.Subscript (.Name x p) ie p2) X.env v = (do
      let ov ← holding [v] (eval (.Name x p) X.env)
      let iv ← holding [v, ov] (eval ie X.env)
      standAt p2
      holding [v, ov, iv] (setItem ov iv v)
      release [v, ov, iv] []) := by intro _; rfl) (hs1 : swapsWithSole [.Subscript (.Name x p) ie p2] e pos.line X.env = pure false := by rfl) (hs2 : swappedStores [.Subscript (.Name x p) ie p2] e X.env = pure none := by rfl)
    (hs3 : (assignEach [.Subscript (.Name x p) ie p2] X.env).map (·.2) = [assign (.Subscript (.Name x p) ie p2) X.env] := by rfl) : WPst X c (.Assign [.Subscript (.Name x p) ie p2] e pos) Γ D := fun F H σ E Ee ok => by
  refine ws_of (ps_asg pe_we (pg_sub (pe_var hN hv hd hcd) pe_we set_list ha) hs1 hs2 hs3) ?_
  refine h F H [] [] σ rfl E.env _ fun v r F1 H1 k1 E1 => ?_
  obtain ⟨d, hfr, k1⟩ := k1
  subst hfr
  have E1' : EnvR c F1 H1 σ Γ := E1.pop
  obtain ⟨q, vs, h1, h2, h3, h4⟩ := E1'.ownAt hΓ
  refine ⟨.ref q, h1, ?_⟩
  refine k1 F1 H1 [some v] [.im d] σ rfl E1 _ fun v2 r2 F2 H2 k2 E2 => ?_
  obtain ⟨n, hfr, hn, k⟩ := k2
  subst hfr
  have hy2 : v2 = .int (n : Int) := E2.imAt (i := 0) rfl rfl
  subst hy2
  have E3 : EnvR c F2 H2 (some v :: σ) (.im d :: Γ) := E2.pop
  have hy := E3.imAt (i := 0) rfl rfl
  have E5 := E3.pop
  obtain ⟨q2, ws, g1, g2, g3, g4⟩ := E5.ownAt hΓ
  rw [h1] at g1
  cases g1
  refine ⟨q, ws, (n : Int), n, rfl, rfl, g2, ixN_of (by rw [← g3.length]; exact hn), ok.nx _ F2 _ σ k ⟨?_, E.nv.set rfl⟩⟩
  exact E5.write E.nv hΓ h1 ⟨_, upd_same, g3.set n hy⟩
end
/-! ### slices -/
def WO (X : Cx) (e : Option Expr) : TO := fun σ H Q => ∀ (pins : List (Addr × Obj)) (s : Shared), Inv X pins σ H s → wpAny (model X.prog X.w) X.A (evalPart e X.env) (fun u s' => ∃ o H', Inv X pins σ H' s' ∧ IsPart u o ∧ Q o H') X.xe s
theorem po_wo {X : Cx} {e : Option Expr} : PO X e (WO X e) := ⟨fun pins s σ H Q I h => h pins s I⟩
theorem wo_of {X : Cx} {e : Option Expr} {t : TO} (h : PO X e t) {σ : L2.St} {H : Hp} {Q : Option Int → Hp → Prop} (q : t σ H Q) : WO X e σ H Q := fun pins s I => h.run pins s σ H Q I q
def WPo (X : Cx) (c : C0) (e : Option Expr) (Γ : List Sl) (K : Option Int → Prop) : Prop :=
  ∀ (F H : Hp) (stk : L2.St) (S : List Sl) (σ : L2.St), stk.length = S.length → EnvR c F H (stk ++ σ) (S ++ Γ) → ∀ Q : Option Int → Hp → Prop,
    (∀ o F' H', K o → EnvR c F' H' (stk ++ σ) (S ++ Γ) → Q o H') → WO X e σ H Q
section
variable {X : Cx} {c : C0} {Γ : List Sl} {K : Sl → Prop} {a e : Expr} {lo hi : Option Expr} {pos p2 : Pos}
theorem wpo_none {KO : Option Int → Prop} (k : KO none) : WPo X c none Γ KO := fun F H stk S σ hl E Q q => wo_of po_none (q none F H k E)
theorem wpo_some {KO : Option Int → Prop} (h : WPe X c e Γ fun r => ∃ i, r = .im (.int i) ∧ KO (some i)) : WPo X c (some e) Γ KO := fun F H stk S σ hl E Q q => by
  refine wo_of (po_some pe_we) ?_
  refine h F H stk S σ hl E _ fun v r F1 H1 k1 E1 => ?_
  obtain ⟨i, rfl, k⟩ := k1
  exact ⟨i, E1.imAt (i := 0) rfl rfl, q (some i) F1 H1 k E1.pop⟩
/-- the items of a slice -/
def cutD (xs : List D) (lo hi : Option Int) : List D := (xs.drop (HT.sIx xs.length 0 lo)).take (HT.sIx xs.length xs.length hi - HT.sIx xs.length 0 lo)
theorem Dats.cut {F : Hp} {ds : List D} {vs : List V} (h : Dats F ds vs) (lo hi : Option Int) : Dats F (cutD ds lo hi) (cutV vs lo hi) := by
  unfold cutD cutV
  rw [h.length]
  exact (h.drop _).take _
theorem wp_sliceT (h : WPe X c a Γ fun ra => ∃ l, ra = .im (.tup l) ∧ WPo X c lo Γ fun o1 => WPo X c hi Γ fun o2 => K (.im (.tup (cutD l o1 o2)))) : WPe X c (.Subscript a (.Slice lo hi none p2) pos) Γ K := fun F H stk S σ hl E Q q => by
  refine we_of (pe_slice sl_tupA pe_we po_wo po_wo) ?_
  refine h F H stk S σ hl E _ fun x ra F1 H1 k1 E1 => ?_
  obtain ⟨l, rfl, k1⟩ := k1
  refine k1 F1 H1 (some x :: stk) (.im (.tup l) :: S) σ (by simp [hl]) E1 _ fun o1 F2 H2 k2 E2 => ?_
  refine k2 F2 H2 (some x :: stk) (.im (.tup l) :: S) σ (by simp [hl]) E2 _ fun o2 F3 H3 k3 E3 => ?_
  obtain ⟨p, vs, e1, hp, hd⟩ := E3.imAt (i := 0) rfl rfl
  have hcut := hd.cut o1 o2
  refine ⟨p, vs, e1, .inl (.inl (E3.ex _ _ hp)), fun w => ?_, fun w p3 hp3 => ?_⟩
  · have e : cutD l o1 o2 = l := by
      have hl := hd.length
      unfold cutD
      rw [hl, w.1, w.2, List.drop_zero, Nat.sub_zero, List.take_of_length_le (by omega)]
    refine q _ (.im (.tup (cutD l o1 o2))) F3 H3 k3 ?_
    rw [e, ← e1]
    exact E3
  · exact q _ (.im (.tup (cutD l o1 o2))) _ _ k3 (EnvR.pushTup (σ := stk ++ σ) (Γ := S ++ Γ) E3.pop hp3 hcut)
theorem wp_sliceL (h : WPe X c a Γ fun ra => ∃ l, lst? (frz ra) = some l ∧ WPo X c lo Γ fun o1 => WPo X c hi Γ fun o2 => K (.own (.lst (cutD l o1 o2)))) : WPe X c (.Subscript a (.Slice lo hi none p2) pos) Γ K := fun F H stk S σ hl E Q q => by
  refine we_of (pe_slice sl_list pe_we po_wo po_wo) ?_
  refine h F H stk S σ hl E _ fun x ra F1 H1 k1 E1 => ?_
  obtain ⟨l, hr, k1⟩ := k1
  obtain ⟨F1, E1⟩ := E1.frzTop
  refine k1 F1 H1 (some x :: stk) (frz ra :: S) σ (by simp [hl]) E1 _ fun o1 F2 H2 k2 E2 => ?_
  refine k2 F2 H2 (some x :: stk) (frz ra :: S) σ (by simp [hl]) E2 _ fun o2 F3 H3 k3 E3 => ?_
  obtain ⟨p, vs, e1, hp, hd⟩ := E3.lstAt (i := 0) rfl rfl hr
  exact ⟨p, vs, e1, .inl (.inl hp), fun p3 hp3 => q _ (.own (.lst (cutD l o1 o2))) _ _ k3 (EnvR.pushOwn (σ := stk ++ σ) (Γ := S ++ Γ) E3.pop hp3 ⟨_, upd_same, hd.cut o1 o2⟩)⟩
/-- xs[::-1] -/
theorem wp_rev {kk : Nat} {q1 q2 q3 : Pos} (h : WPe X c a Γ fun ra => ∃ l, lst? (frz ra) = some l ∧ K (.own (.lst l.reverse))) : WPe X c (.Subscript a (.Slice none none (some (.UnaryOp .USub (.Constant (.int 1) kk q1) q2)) q3) pos) Γ K := fun F H stk S σ hl E Q q => by
  refine we_of (pe_revL pe_we) ?_
  refine h F H stk S σ hl E _ fun x ra F1 H1 k1 E1 => ?_
  obtain ⟨l, hr, k1⟩ := k1
  obtain ⟨F1, E1⟩ := E1.frzTop
  obtain ⟨p, vs, e1, hp, hd⟩ := E1.lstAt (i := 0) rfl rfl hr
  exact ⟨p, vs, e1, .inl (.inl hp), fun p3 hp3 => q _ (.own (.lst l.reverse)) _ _ k1 (EnvR.pushOwn (σ := stk ++ σ) (Γ := S ++ Γ) E1.pop hp3 ⟨_, upd_same, hd.reverse⟩)⟩
/-- list(range(n)) -/
theorem wp_listRange {q1 q2 q3 : Pos} (hc : X.calm = true) (hm : X.mg "list" = none) (hm2 : X.mg "range" = none) (h : WPe X c a Γ fun r => ∃ n : Nat, r = .im (.int (n : Int)) ∧ n ≤ 16777216 ∧ K (.own (.lst ((List.range n).map fun i => .int (i : Nat))))) (hg : Gl X "list" := by rfl) (hg2 : Gl X "range" := by rfl)
    (na : starEach [a] X.env = (false, eval a X.env) :: starEach [] X.env := by rfl) (na2 : starEach [.Call (.Name "range" q1) [a] [] q2] X.env = (false, eval (.Call (.Name "range" q1) [a] [] q2) X.env) :: starEach [] X.env := by rfl) :
    WPe X c (.Call (.Name "list" q3) [.Call (.Name "range" q1) [a] [] q2] [] pos) Γ K := fun F H stk S σ hl E Q q => by
  refine we_of (pe_listRg hc hg hm (prg_1 hg2 hm2 pe_we na) na2) ?_
  refine h F H stk S σ hl E _ fun v r F1 H1 k1 E1 => ?_
  obtain ⟨n, rfl, hn, k⟩ := k1
  refine ⟨(n : Int), E1.imAt (i := 0) rfl rfl, RgOk.of_le (Int.le_refl 0) (by omega) (by omega) (by omega), fun p hp => q _ _ F1 _ k (EnvR.pushOwn (σ := stk ++ σ) (Γ := S ++ Γ) E1.pop hp ⟨_, upd_same, ?_⟩)⟩
  unfold rgV
  have e1 : ((n : Int) - 0).toNat = n := by omega
  rw [e1]
  have e2 : ((List.range n).map fun i => D.int ((i : Nat) : Int)) = ((List.range n).map fun i => ((i : Nat) : Int)).map D.int := by rw [List.map_map]; rfl
  have e3 : ((List.range n).map fun i => V.int (0 + ((i : Nat) : Int))) = ((List.range n).map fun i => ((i : Nat) : Int)).map V.int := by
    rw [List.map_map]
    apply List.map_congr_left
    intro i _
    simp
  rw [e2, e3]
  exact Dats.of_ints _
end
/-! ### dicts -/
def kD : Key → D
  | .inl i => .int i
  | .inr s => .str s
theorem kD_dat {F : Hp} {k : Key} {v : V} (h : Dat F (kD k) v) : v = kV k := by
  cases k with
  | inl i => exact h
  | inr s => exact h
/-- d[k] -/
def getD? : List Key → List D → Key → Option D
  | k :: ks, d :: ds, j => if k = j then some d else getD? ks ds j
  | _, _, _ => none
theorem valV_zip {F : Hp} {j : Key} : ∀ {ks : List Key} {ds : List D} {vs : List V}, ks.length = ds.length → Dats F ds vs → (valV (ks.zip vs) j).isSome = (getD? ks ds j).isSome ∧ ∀ d, getD? ks ds j = some d → ∃ v, valV (ks.zip vs) j = some v ∧ Dat F d v
  | [], [], vs, _, h => by
    have e : vs = [] := h
    subst e
    exact ⟨rfl, fun d h => by cases h⟩
  | [], _ :: _, _, e, _ => by simp at e
  | _ :: _, [], _, e, _ => by simp at e
  | k :: ks, d :: ds, vs, e, h => by
    obtain ⟨v, w, rfl, hd, ht⟩ := h
    have ih := valV_zip (j := j) (ks := ks) (ds := ds) (vs := w) (by simpa using e) ht
    rw [List.zip_cons_cons]
    by_cases q : k = j
    · have e1 : getD? (k :: ks) (d :: ds) j = some d := if_pos q
      rw [valV_pos (show (k, v).1 = j from q), e1]
      exact ⟨rfl, fun d' h' => by cases h'; exact ⟨v, rfl, hd⟩⟩
    · have e1 : getD? (k :: ks) (d :: ds) j = getD? ks ds j := if_neg q
      rw [valV_neg (show ¬ (k, v).1 = j from q), e1]
      exact ih
theorem getD?_none {j : Key} : ∀ {ks : List Key} {ds : List D}, ks.length = ds.length → (getD? ks ds j = none ↔ j ∉ ks)
  | [], [], _ => by simp [getD?]
  | [], _ :: _, e => by simp at e
  | _ :: _, [], e => by simp at e
  | k :: ks, d :: ds, e => by
    have ih := getD?_none (j := j) (ks := ks) (ds := ds) (by simpa using e)
    by_cases q : k = j
    · subst q
      have e1 : getD? (k :: ks) (d :: ds) k = some d := if_pos rfl
      rw [e1]
      simp
    · have e1 : getD? (k :: ks) (d :: ds) j = getD? ks ds j := if_neg q
      rw [e1, ih, List.mem_cons]
      exact ⟨fun h z => z.elim (fun z => q z.symm) h, fun h z => h (.inr z)⟩
section
variable {X : Cx} {c : C0} {Γ : List Sl} {K : Sl → Prop} {a b : Expr} {pos : Pos}
theorem wp_dget (hu : X.A.units + 1 < cLine) (h : WPe X c a Γ fun ra => WPe X c b Γ fun rb => ∃ ks ds k d, dct? (frz ra) = some (ks, ds) ∧ rb = .im (kD k) ∧ getD? ks ds k = some d ∧ K (.im d)) (hs : NoSl b := by exact fun _ _ => rfl) : WPe X c (.Subscript a b pos) Γ K := fun F H stk S σ hl E Q q => by
  refine we_of (pe_dget hu pe_we pe_we hs) ?_
  refine h F H stk S σ hl E _ fun x ra F1 H1 k1 E1 => ?_
  obtain ⟨F1, E1⟩ := E1.frzTop
  refine k1 F1 H1 (some x :: stk) (frz ra :: S) σ (by simp [hl]) E1 _ fun y rb F2 H2 k2 E2 => ?_
  obtain ⟨ks, ds, k, d, hr, rfl, hg, k2⟩ := k2
  have hy := kD_dat (E2.imAt (i := 0) rfl rfl)
  obtain ⟨p, vs, e1, e2, e3, e4⟩ := E2.dctAt (i := 1) rfl rfl hr
  obtain ⟨v, hv, hd⟩ := (valV_zip (j := k) e3 e4).2 d hg
  refine ⟨p, v, e1, .inl ⟨_, k, .inl e2, hy, hv.symm⟩, q v (.im d) F2 H2 k2 ?_⟩
  exact EnvR.push (σ := stk ++ σ) (Γ := S ++ Γ) E2.pop.pop hd
theorem op_inD (hu : X.A.units + 1 < cLine) : OpR X (compareOp .In) (fun y x H Q => ∃ a o, x = .ref a ∧ DGet H a y o ∧ Q (.bl o.isSome) H) := fun pins s σ H x y v u Q I rx ry h => by
  obtain ⟨a, o, rfl, g, q⟩ := h
  have eu : u = Value.ref a := ry
  subst eu
  exact d_in hu I g rx fun s3 I3 => ⟨.bl o.isSome, H, I3, rfl, q⟩
theorem od_inD (hu : X.A.units + 1 < cLine) {rb : Sl} {k : Key} {ks : List Key} {ds : List D} (hr : dct? rb = some (ks, ds)) (kk : K (.im (.bl (getD? ks ds k).isSome))) : OpD X c (compareOp .In) (.im (kD k)) rb K := fun F H L G x y E Q q pins s σ u w I rx ry => by
  have hx := kD_dat (E.imAt (i := 1) rfl rfl)
  obtain ⟨p, vs, e1, e2, e3, e4⟩ := E.dctAt (i := 0) rfl rfl hr
  refine op_inD hu pins s σ H x y u w Q I rx ry ⟨p, valV (ks.zip vs) k, e1, .inl ⟨_, k, .inl e2, hx, rfl⟩, ?_⟩
  rw [(valV_zip (j := k) e3 e4).1]
  exact q _ (.im (.bl (getD? ks ds k).isSome)) F H kk (E.pop.pop.push rfl)
/-- sorted(d) of int keys -/
theorem cd_sortedDI (hc : X.calm = true) {r : Sl} {ns : List Int} {ds : List D} (hr : dct? r = some (ns.map Sum.inl, ds)) (hl : ns.length < 64) (k : ∀ ys : List Int, ys.Perm ns → ys.Pairwise (· ≤ ·) → K (.own (.lst (ys.map D.int)))) : CallD X c (.builtin "sorted") [r] K := cd_one (call_sortedDI hc) fun F H L G v E Q q => by
  obtain ⟨p, vs, e1, e2, e3, e4⟩ := E.dctAt (i := 0) rfl rfl hr
  refine ⟨p, _, ns, by rw [e1], .inl e2, ?_, hl, fun ys a hp hs ha => q _ (.own (.lst (ys.map D.int))) F _ (k ys hp hs) (E.pop.pushOwn ha ⟨_, upd_same, Dats.of_ints ys⟩)⟩
  rw [List.map_fst_zip]
  rw [e3, e4.length]
  exact Nat.le_refl _
/-! ### isinstance -/
def tyD : Sl → String
  | .im .non => "NoneType"
  | .im (.bl _) => "bool"
  | .im (.int _) => "int"
  | .im (.str _) => "str"
  | .im (.tup _) => "tuple"
  | .im (.lst _) => "list"
  | .vw (.lst _) => "list"
  | .im (.dct _ _) => "dict"
  | .vw (.dct _ _) => "dict"
  | _ => ""
theorem EnvR.tyX {F H : Hp} {σ : L2.St} {Γ : List Sl} (E : EnvR c F H σ Γ) {i : Nat} {r : Sl} {v : V} (h : Γ[i]? = some r) (hv : σ[i]? = some (some v)) (hn : tyD r ≠ "") : TyX X.K H v (.type (tyD r)) := by
  have kd : ∀ ks l, dct? r = some (ks, l) → tyD r = "dict" → TyX X.K H v (.type (tyD r)) := fun ks l z z2 => by
    obtain ⟨p, vs, e1, e2, _⟩ := E.dctAt h hv z
    rw [e1, z2]
    exact .base (.dK e2)
  have kl : ∀ l, lst? r = some l → tyD r = "list" → TyX X.K H v (.type (tyD r)) := fun l z z2 => by
    obtain ⟨p, vs, e1, e2, _⟩ := E.lstAt h hv z
    rw [e1, z2]
    exact .base (.lst e2)
  cases r with
  | any => exact absurd rfl hn
  | own d => exact absurd rfl hn
  | hand => exact absurd rfl hn
  | deep v o => exact absurd rfl hn
  | vo v π o => exact absurd rfl hn
  | im d =>
    have hd := E.imAt h hv
    cases d with
    | non =>
      have e : v = .non := hd
      rw [e]
      exact .base .non
    | bl b =>
      have e : v = .bl b := hd
      rw [e]
      exact .base (.bl b)
    | int b =>
      have e : v = .int b := hd
      rw [e]
      exact .base (.int b)
    | str b =>
      have e : v = .str b := hd
      rw [e]
      exact .base (.str b)
    | tup l =>
      obtain ⟨p, vs, e, e2, _⟩ := hd
      rw [e]
      exact .base (.tup (E.ex _ _ e2))
    | lst l => exact kl l rfl rfl
    | dct ks l => exact kd ks l rfl rfl
  | vw d =>
    cases d with
    | lst l => exact kl l rfl rfl
    | dct ks l => exact kd ks l rfl rfl
    | _ => exact absurd rfl hn
theorem wp_isi {e : Expr} {p q : Pos} {T : Str} {Tn : String} (hm : X.mg "isinstance" = none) (hT : X.mg T = none) (hb : bootBuiltins T = some (.type Tn)) (h : WPe X c e Γ fun r => ∃ t b, tyD (frz r) = t ∧ t ≠ "" ∧ kitB t Tn = some b ∧ K (.im (.bl b))) (hg : Gl X "isinstance" := by rfl) (hg2 : Gl X T := by rfl) (hn : T ≠ "__name__" := by decide) (hd : (T == ("__debug__" : Str)) = false := by decide)
    (he : starEach [e, .Name T q] X.env = (false, eval e X.env) :: starEach [.Name T q] X.env := by rfl) (he2 : starEach [.Name T q] X.env = (false, eval (.Name T q) X.env) :: starEach [] X.env := by rfl) (hpl : (backTo pos (starEach [.Name T q] X.env)).any (·.1) = false := by rfl) :
    WPe X c (.Call (.Name "isinstance" p) [e, .Name T q] [] pos) Γ K := fun F H stk S σ hl E Q qq => by
  refine we_of (pe_callB call_isi hg hm PyProof.Rows.boot_isinstance (pa_cons pe_we (pa_cons (pe_bltn (v := .ty Tn) hg2 hT hb rfl hn hd) pa_nil he2) he) (by decide) (by decide) he hpl) ?_
  refine h F H stk S σ hl E _ fun v r F1 H1 k1 E1 => ?_
  obtain ⟨t, b, rfl, h1, h2, k⟩ := k1
  obtain ⟨F1, E1⟩ := E1.frzTop
  exact ⟨v, .ty Tn, _, _, b, rfl, .ty Tn, E1.tyX (i := 0) rfl rfl h1, kit_ty h2, qq _ (.im (.bl b)) F1 H1 k (E1.pop.push rfl)⟩
end
end DL

set_option Elab.async false
set_option linter.all false
set_option maxRecDepth 100000
set_option maxHeartbeats 2000000
/-! DL10: cuts, stores into dicts, dict comprehensions, update -/
namespace DL
open PySem PySem.Spec PyProof.Rows L2
section
variable {X : Cx} {c : C0} {Γ : List Sl} {D : DEnds} {st : Stmt} {rest : List Stmt}
/-- a statement, then the rest by what is known between -/
theorem wps_seq (J : List Sl → Prop) (h1 : WPst X c st Γ { D with nx := J }) (h2 : ∀ Γ, J Γ → WPs X c rest Γ D) : WPs X c (st :: rest) Γ D := wps_cons (fun F H σ E Ee ok => h1 F H σ E Ee ⟨fun Γ F H σ q E => ok.nx Γ F H σ (h2 Γ q) E, ok.rt, ok.bk, ok.ct⟩)
end
/-! ### tests whose answer is known -/
section
variable {X : Cx} {c : C0} {Γ : List Sl} {KB : Bool → Prop} {a b d : Expr} {pos : Pos} {x y z : Bool}
theorem wpt_or2 (h1 : WPt X c a Γ fun t => t = x) (h2 : x = false → WPt X c b Γ fun t => t = y) (k : KB (x || y)) : WPt X c (.BoolOp .Or [a, b] pos) Γ KB := by
  refine wpt_w <| wpw_or <| h1.mono fun t ht => ?_
  subst ht
  refine ⟨fun e => ?_, fun e => ?_⟩
  · rw [e] at k
    simpa using k
  · refine wpw_or1 <| (h2 e).mono fun t ht => ?_
    rw [e] at k
    rw [ht]
    simpa using k
theorem wpt_and2 (h1 : WPt X c a Γ fun t => t = x) (h2 : x = true → WPt X c b Γ fun t => t = y) (k : KB (x && y)) : WPt X c (.BoolOp .And [a, b] pos) Γ KB := by
  refine wpt_w <| wpw_and <| h1.mono fun t ht => ?_
  subst ht
  refine ⟨fun e => ?_, fun e => ?_⟩
  · refine wpw_and1 <| (h2 e).mono fun t ht => ?_
    rw [e] at k
    rw [ht]
    simpa using k
  · rw [e] at k
    simpa using k
theorem wpt_and3 (h1 : WPt X c a Γ fun t => t = x) (h2 : x = true → WPt X c b Γ fun t => t = y) (h3 : x = true → y = true → WPt X c d Γ fun t => t = z) (k : KB (x && (y && z))) : WPt X c (.BoolOp .And [a, b, d] pos) Γ KB := by
  refine wpt_w <| wpw_and <| h1.mono fun t ht => ?_
  subst ht
  refine ⟨fun e => ?_, fun e => ?_⟩
  · refine wpw_and <| (h2 e).mono fun t ht => ?_
    subst ht
    rw [e] at k
    refine ⟨fun e2 => ?_, fun e2 => ?_⟩
    · refine wpw_and1 <| (h3 e e2).mono fun t ht => ?_
      rw [e2] at k
      rw [ht]
      simpa using k
    · rw [e2] at k
      simpa using k
  · rw [e] at k
    simpa using k
end
/-! ### d[k] = v, a new key -/
section
variable {X : Cx} {c : C0} {Γ : List Sl} {D : DEnds} {e ie : Expr} {pos p p2 : Pos} {x : Str} {ks : List Key} {ds : List DL.D}
theorem zip_snoc {α β : Type} : ∀ {l : List α} {m : List β} {a : α} {b : β}, l.length = m.length → (l ++ [a]).zip (m ++ [b]) = l.zip m ++ [(a, b)]
  | [], [], _, _, _ => rfl
  | [], _ :: _, _, _, e => by simp at e
  | _ :: _, [], _, _, e => by simp at e
  | x :: l, y :: m, a, b, e => by
    have ih := zip_snoc (l := l) (m := m) (a := a) (b := b) (by simpa using e)
    rw [List.cons_append, List.cons_append, List.zip_cons_cons, ih]
    rfl
theorem put_new {F : Hp} {k : Key} {v : V} {vs : List V} (e3 : ks.length = ds.length) (e4 : Dats F ds vs) (hk : k ∉ ks) : putK (ks.zip vs) k v = (ks ++ [k]).zip (vs ++ [v]) := by
  rw [putK_new, zip_snoc (by rw [e3, e4.length])]
  have h := (valV_zip (j := k) e3 e4).1
  rw [(getD?_none (j := k) e3).mpr hk] at h
  cases q : valV (ks.zip vs) k with
  | none => rfl
  | some u =>
    rw [q] at h
    cases h
theorem EnvR.dctOwn {F H : Hp} {σ : L2.St} {Γ : List Sl} (E : EnvR c F H σ Γ) {i : Nat} (h : Γ[i]? = some (.own (.dct ks ds))) : ∃ p vs, σ[i]? = some (some (.ref p)) ∧ H p = some (.dK (ks.zip vs)) ∧ ks.length = ds.length ∧ Dats F ds vs ∧ F p = none := by
  obtain ⟨p, h1, ⟨vs, h2, h3, h4⟩, h5, _⟩ := E.own h
  exact ⟨p, vs, h1, h2, h3, h4, h5⟩
theorem wst_dput (i : Nat) (hu : X.A.units + 1 < cLine) (hΓ : Γ[i]? = some (.own (.dct ks ds))) (hz : ks.length < sizeLine) (h : WPe X c e Γ fun r => ∃ d, r = .im d ∧ WPe X c ie Γ fun r2 => ∃ k, r2 = .im (kD k) ∧ k ∉ ks ∧ D.nx (Γ.set i (.own (.dct (ks ++ [k]) (ds ++ [d]))))) (hN : X.N[i]? = some x := by rfl)
    (hv : Vis X.env.scope x := by first | exact Or.inl rfl | exact Or.inr (Or.inl rfl) | exact Or.inr (Or.inr rfl)) (hd : (x == ("__debug__" : Str)) = false := by decide) (hcd : (x == ("__classdict__" : Str)) = false := by decide)
    (hs : swapsWith e (some (.Subscript (.Name x p) ie p2)) pos.line X.env = pure false := by rfl) : WPst X c (.Assign [.Subscript (.Name x p) ie p2] e pos) Γ D := fun F H σ E Ee ok => by
  refine ws_of (ps_dput hu (pe_var hN hv hd hcd) pe_we pe_we hs) ?_
  refine h F H [] [] σ rfl E.env _ fun v r F1 H1 k1 E1 => ?_
  obtain ⟨d, hfr, k1⟩ := k1
  subst hfr
  have E1' : EnvR c F1 H1 σ Γ := E1.pop
  obtain ⟨q, vs, h1, h2, h3, h4, h5⟩ := E1'.dctOwn hΓ
  refine ⟨.ref q, h1, ?_⟩
  refine k1 F1 H1 [some v] [.im d] σ rfl E1 _ fun v2 r2 F2 H2 k2 E2 => ?_
  obtain ⟨k, hfr, hn, k2⟩ := k2
  subst hfr
  have hy2 := kD_dat (E2.imAt (i := 0) rfl rfl)
  have E3 : EnvR c F2 H2 (some v :: σ) (.im d :: Γ) := E2.pop
  have hy := E3.imAt (i := 0) rfl rfl
  have E5 := E3.pop
  obtain ⟨q2, ws, g1, g2, g3, g4, g5⟩ := E5.dctOwn hΓ
  rw [h1] at g1
  cases g1
  have hzip : ((ks.zip ws).length : Nat) < sizeLine := by
    rw [List.length_zip]
    omega
  refine ⟨q, _, rfl, .inl ⟨_, k, g2, hy2, hzip, rfl⟩, ok.nx _ F2 _ σ k2 ⟨?_, E.nv.set rfl⟩⟩
  exact E5.write E.nv hΓ h1 ⟨ws ++ [v], by rw [upd_same, put_new g3 g4 hn], by simp [g3], g4.append (.one hy)⟩
end
/-! ### dict comprehensions, each key new -/
section
variable {X : Cx} {c : C0} {Γ : List Sl} {K : Sl → Prop} {tg iter kx vx : Expr} {ifs : List Expr} {scope : Scope} {own : List (Str × Nat)} {pos : Pos}
theorem dc_D (J : Nat → List Key → List DL.D → Prop) (hv : own.all (fun p => decide (p.2 < Γ.length)) = true)
    (h : WPi X c tg iter Γ fun n item => J 0 [] [] ∧ (∀ (F1 H1 : Hp) (i : Nat) (ks : List Key) (acc : List DL.D), i < n → J i ks acc → ∀ Y, IsBlk X scope Y → GtC Y (c.at F1 H1) tg (.im (item i)) (wipeS (Γ.map lookS) (own.map (·.2))) (own.map (·.2)) fun Γ2 =>
      ∀ Y, IsBlk X scope Y → WPts Y (c.at F1 H1) ifs Γ2 fun b => (b = true → ∀ Y, IsBlk X scope Y → WPe Y (c.at F1 H1) kx Γ2 fun rk => ∃ k, rk = .im (kD k) ∧ k ∉ ks ∧ ∀ Y, IsBlk X scope Y → WPe Y (c.at F1 H1) vx Γ2 fun r => ∃ d, frz r = .im d ∧ ks.length < sizeLine ∧ J (i + 1) (ks ++ [k]) (acc ++ [d])) ∧ (b = false → J (i + 1) ks acc)) ∧
      ∀ ks acc, J n ks acc → K (.own (.dct ks acc)))
    (F H : Hp) (stk : L2.St) (S : List Sl) (σ : L2.St) (hl : stk.length = S.length) (E : EnvR c F H (stk ++ σ) (S ++ Γ)) (Q : VK) (q : ∀ v r F' H', K r → EnvR c F' H' (some v :: (stk ++ σ)) (r :: (S ++ Γ)) → Q v H') :
    tDc (IWt X tg iter) (gB X scope tg) (tB X scope ifs) (eB X scope kx) (eB X scope vx) (own.map (·.2)) σ H Q := by
  refine h F H stk S σ hl E _ fun It n item src F1 H1 k1 io sF E1 D hD => ?_
  obtain ⟨j0, turn, fin⟩ := k1
  have hDW : D ∉ c.W := fun w => E1.wne w hD
  have hD1 : F1 D = none := E1.ex.back hD
  have hvs : ∀ v ∈ own.map (·.2), v < Γ.length := fun v hm => by
    obtain ⟨p, hp, rfl⟩ := List.mem_map.mp hm
    exact of_decide_eq_true (List.all_eq_true.mp hv p hp)
  refine ⟨fun i m H => m = n - i ∧ i ≤ n ∧ ∃ F ks acc vs', J i ks acc ∧ Acc c F1 H1 F H D ∧ H D = some (.dK (ks.zip vs')) ∧ ks.length = acc.length ∧ Dats F acc vs', ⟨n, by simp, Nat.zero_le _, F1, [], [], [], j0, ⟨E1.ex.mut hD1, Gr.refl _ _, fun a u ha _ => by rw [upd_ne (ne_of_none ha hD)]; exact ha, c.stab H1 _ (fun a w => upd_ne (fun z => hDW (by rw [← z]; exact w))) (extx_new hD) E1.hk, hD1⟩, upd_same, rfl, .nil⟩, ?_⟩
  rintro i m H2 ⟨rfl, hi, F2, ks, acc, vs', ji, A, hD2, hkl, hd⟩
  have sF2 : src F2 := io.mono F1 F2 A.gr.1 sF
  have E2 := A.env (vs := own.map (·.2)) E1 hl hvs hD (d := .dct ks acc) ⟨vs', hD2, hkl, hd⟩
  by_cases hlt : i < n
  · refine .inr ⟨io.go F2 H2 i A.ex sF2 hlt, fun H' => ∃ F ks acc vs', J (i + 1) ks acc ∧ Acc c F1 H1 F H' D ∧ H' D = some (.dK (ks.zip vs')) ∧ ks.length = acc.length ∧ Dats F acc vs', fun H' hN => ⟨n - (i + 1), by omega, rfl, hlt, hN⟩, fun x H' hy => ?_⟩
    obtain ⟨F3, e3, E3⟩ := io.yld _ F2 H2 _ _ i x H' E2 sF2 hlt hy
    intro Y hY
    refine turn F1 H1 i ks acc hlt ji Y hY F3 H' (some (.ref D) :: stk) (.own (.dct ks acc) :: S.map lookS) _ x (by simp [hl]) E3 _ fun F4 H4 σ4 Γ4 k4 w4 E4 => ⟨w4.trans wipe_wipe, ?_⟩
    have own5 : ∀ {F H : Hp} {L : L2.St} {G : List Sl}, EnvR (c.at F1 H1) F H (some (.ref D) :: L) (.own (.dct ks acc) :: G) → ∃ ws, H D = some (.dK (ks.zip ws)) ∧ Dats F acc ws ∧ F D = none := fun {F H L G} E => by
      obtain ⟨p, ws, hp, w1, w2, w3, w4⟩ := E.dctOwn (i := 0) rfl
      have e : D = p := by simpa using hp
      subst e
      exact ⟨ws, w1, w3, w4⟩
    have step : ∀ (F5 H5 : Hp), EnvR (c.at F1 H1) F5 H5 (some (.ref D) :: (stk ++ σ4)) (.own (.dct ks acc) :: (S.map lookS ++ Γ4)) → ∀ b : Bool, ((b = true → ∀ Y, IsBlk X scope Y → WPe Y (c.at F1 H1) kx Γ4 fun rk => ∃ k, rk = .im (kD k) ∧ k ∉ ks ∧ ∀ Y, IsBlk X scope Y → WPe Y (c.at F1 H1) vx Γ4 fun r => ∃ d, frz r = .im d ∧ ks.length < sizeLine ∧ J (i + 1) (ks ++ [k]) (acc ++ [d])) ∧ (b = false → J (i + 1) ks acc)) →
        if b = true then eB X scope kx σ4 H5 fun y H4 => eB X scope vx σ4 H4 fun z H5 => ∃ kvs k, y = kV k ∧ H5 D = some (.dK kvs) ∧ kvs.length < sizeLine ∧ (fun H' => ∃ F ks acc vs', J (i + 1) ks acc ∧ Acc c F1 H1 F H' D ∧ H' D = some (.dK (ks.zip vs')) ∧ ks.length = acc.length ∧ Dats F acc vs') (upd H5 D (.dK (putK kvs k z)))
        else (fun H' => ∃ F ks acc vs', J (i + 1) ks acc ∧ Acc c F1 H1 F H' D ∧ H' D = some (.dK (ks.zip vs')) ∧ ks.length = acc.length ∧ Dats F acc vs') H5 := by
      intro F5 H5 E5 b kb
      cases b with
      | false =>
        refine iteF ?_
        obtain ⟨ws, w1, w2, w3⟩ := own5 E5
        exact ⟨F5, ks, acc, ws, kb.2 rfl, ⟨E5.ex, ⟨E5.ex0, E5.gr⟩, E5.fr, E5.hk, w3⟩, w1, hkl, w2⟩
      | true =>
        refine iteT ?_
        intro Y hY
        refine kb.1 rfl Y hY F5 H5 (some (.ref D) :: stk) (.own (.dct ks acc) :: S.map lookS) σ4 (by simp [hl]) E5 _ fun y rk F6 H6 k6 E6 => ?_
        obtain ⟨k, rfl, hnk, k6⟩ := k6
        intro Y hY
        refine k6 Y hY F6 H6 (some y :: some (.ref D) :: stk) (.im (kD k) :: .own (.dct ks acc) :: S.map lookS) σ4 (by simp [hl]) E6 _ fun z r F7 H7 k7 E7 => ?_
        obtain ⟨d, hfr, hlen, j7⟩ := k7
        obtain ⟨F8, E8⟩ := E7.frzTop
        rw [hfr] at E8
        have hz := E8.imAt (i := 0) rfl rfl
        have hy2 := kD_dat (E8.imAt (i := 1) rfl rfl)
        have E9 := E8.pop.pop
        obtain ⟨ws, w1, w2, w3⟩ := own5 E9
        have hzip : (ks.zip ws).length < sizeLine := by
          rw [List.length_zip]
          omega
        refine ⟨_, k, hy2, w1, hzip, F8, ks ++ [k], acc ++ [d], ws ++ [z], j7, ⟨E9.ex.mut w3, ⟨E9.ex0, E9.gr⟩, fun a o ha w => ?_, c.stab H7 _ (fun a w => upd_ne (fun z => hDW (by rw [← z]; exact w))) (extx_mut fun φ z => by rw [w1] at z; cases z) E9.hk, w3⟩, by rw [upd_same, put_new hkl w2 hnk], by simp [hkl], w2.append (.one hz)⟩
        rw [upd_ne (ne_of_none ha hD)]
        exact E9.fr a o ha w
    have E4' : EnvR (c.at F1 H1) F4 H4 (some (.ref D) :: (stk ++ σ4)) (.own (.dct ks acc) :: (S.map lookS ++ Γ4)) := E4
    match ifs, k4 with
    | [], k4 => exact step F4 H4 E4' true (k4 Y hY)
    | [t], k4 =>
      intro Y hY
      exact k4 Y hY F4 H4 (some (.ref D) :: stk) (.own (.dct ks acc) :: S.map lookS) σ4 (by simp [hl]) E4 _ fun b F5 H5 kb E5 => step F5 H5 E5 b kb
    | _ :: _ :: _, k4 => exact (k4 Y hY).elim
  · have e : i = n := by omega
    subst e
    refine .inl ⟨io.stop F2 H2 A.ex sF2, q (.ref D) (.own (.dct ks acc)) F2 H2 (fin ks acc ji) ?_⟩
    exact E1.ret E2.only rfl rfl (fun a z => z) A.hk (fun z => by cases z) rfl
theorem wp_dc (J : Nat → List Key → List DL.D → Prop) (hc : X.calm = true) (hN : X.N.Nodup) (ok : BlkOk X.N X.env.scope scope own) (hv : own.all (fun p => decide (p.2 < Γ.length)) = true)
    (h : WPi X c tg iter Γ fun n item => J 0 [] [] ∧ (∀ (F1 H1 : Hp) (i : Nat) (ks : List Key) (acc : List DL.D), i < n → J i ks acc → ∀ Y, IsBlk X scope Y → GtC Y (c.at F1 H1) tg (.im (item i)) (wipeS (Γ.map lookS) (own.map (·.2))) (own.map (·.2)) fun Γ2 =>
      ∀ Y, IsBlk X scope Y → WPts Y (c.at F1 H1) ifs Γ2 fun b => (b = true → ∀ Y, IsBlk X scope Y → WPe Y (c.at F1 H1) kx Γ2 fun rk => ∃ k, rk = .im (kD k) ∧ k ∉ ks ∧ ∀ Y, IsBlk X scope Y → WPe Y (c.at F1 H1) vx Γ2 fun r => ∃ d, frz r = .im d ∧ ks.length < sizeLine ∧ J (i + 1) (ks ++ [k]) (acc ++ [d])) ∧ (b = false → J (i + 1) ks acc)) ∧
      ∀ ks acc, J n ks acc → K (.own (.dct ks acc)))
    (hs : ∀ x, foldedSetIterable iter X.env x = pure x := by intro _; rfl) : WPe X c (.DictComp kx vx [⟨tg, iter, ifs, 0⟩] scope pos) Γ K := fun F H stk S σ hl E Q q =>
  we_of (pe_dc hc hN pi_iw ok pg_gB pt_tB pe_eB pe_eB hs) (dc_D J hv h F H stk S σ hl E Q q)
end
/-! ### d.update(e), all keys of e new -/
theorem merge_new : ∀ (more : List (Key × V)) (kvs : List (Key × V)), (more.map (·.1)).Nodup → (∀ p ∈ more, valV kvs p.1 = none) → mergeK kvs more = kvs ++ more
  | [], kvs, _, _ => by simp [mergeK]
  | p :: r, kvs, hn, h => by
    have hn' := List.nodup_cons.mp hn
    have ih := merge_new r (putK kvs p.1 p.2) hn'.2 (fun q hq => by
      rw [valV_put, if_neg]
      · exact h q (List.mem_cons_of_mem _ hq)
      · intro e
        exact hn'.1 (List.mem_map.mpr ⟨q, hq, e⟩))
    show mergeK (putK kvs p.1 p.2) r = _
    rw [ih, putK_new _ (h p (by simp)), List.append_assoc]
    rfl
section
variable {X : Cx} {c : C0} {Γ : List Sl} {D : DEnds} {e : Expr} {pos p apos cpos : Pos} {x : Str} {ks : List Key} {ds : List DL.D}
theorem mt_update : MtM X "dict.update" (fun x vs H Q => ∃ d o ks ms, x = .ref d ∧ vs = [.ref o] ∧ d ≠ o ∧ H d = some (.dK ks) ∧ Rd H o (.dK ms) ∧ ks.length + ms.length ≤ sizeLine ∧ Q .non (upd H d (.dK (mergeK ks ms)))) := by
  intro pins s σ H x vs v us Q I rx rv h
  obtain ⟨d, o, ks, ms, rfl, rfl, hne, hd, ho, hz, q⟩ := h
  cases rx
  obtain ⟨u, rfl, ru⟩ := rv.one
  cases ru
  obtain ⟨z, hs, vs1, rel, dd⟩ := dk_rd I.hok (.inl hd)
  obtain ⟨z2, hs2, vs2, rel2, dd2⟩ := dk_rd I.hok ho
  have l1 := Paired.length rel
  have l2 := Paired.length rel2
  refine call_meetsIn PySem.F.slot_dict_update dd.typeIs PySem.F.entry_dict_update (PySem.F.args_dict_update_2 _ _) (meets_dict_update (mixKind X.prog X.w) d o hne hs2) ⟨vs1, vs2, dd, dd2, by rw [← l1, ← l2]; exact hz, fun h' dd' _ sb => ?_⟩
  have he : ∃ q, h'.get? d = some q := let ⟨q, _, _, hq, _⟩ := dd'; ⟨q, hq⟩
  have hlen := length_mergeK ms ks
  exact ⟨.non, _, d_write (t' := s.toks) I (by rw [hd]; exact True.intro) sb he (dk_new (by omega) hs (rel2.merge rel) dd'), rfl, q⟩
theorem wst_update (i : Nat) (hΓ : Γ[i]? = some (.own (.dct ks ds))) (h : WPe X c e Γ fun r => ∃ ms es, frz r = .im (.dct ms es) ∧ ms.Nodup ∧ (∀ k ∈ ms, k ∉ ks) ∧ ks.length + ms.length ≤ sizeLine ∧ D.nx (Γ.set i (.own (.dct (ks ++ ms) (ds ++ es))))) (hN : X.N[i]? = some x := by rfl)
    (hv : Vis X.env.scope x := by first | exact Or.inl rfl | exact Or.inr (Or.inl rfl) | exact Or.inr (Or.inr rfl)) (hd : (x == ("__debug__" : Str)) = false := by decide) (hcd : (x == ("__classdict__" : Str)) = false := by decide)
    (hbase : attributeBase (.Name x p) "update" X.env (eval (.Name x p) X.env) = eval (.Name x p) X.env := by rfl)
    (hfew : ((backTo cpos (starEach [e] X.env)).all (fun x => !x.1) && (backToKw cpos (keywordEach [] X.env)).all (fun x => x.1.isSome) && decide ([e].length + ([] : List Keyword).length + (if ([] : List Keyword).isEmpty then 0 else 1) < 30)) = true := by rfl)
    (hline : (apos.endLine == cpos.line) = true := by rfl) (hs : starEach [e] X.env = (false, eval e X.env) :: starEach [] X.env := by rfl) (hplain : (backTo cpos (starEach [] X.env)).any (·.1) = false := by rfl) (hsw : swapsWith (.Call (.Attribute (.Name x p) "update" apos) [e] [] cpos) none pos.line X.env = pure false := by rfl) :
    WPst X c (.Expr (.Call (.Attribute (.Name x p) "update" apos) [e] [] cpos) pos) Γ D := fun F H σ E Ee ok => by
  refine ws_of (ps_expr (pe_bm PySem.F.plainAttrs_dict PySem.F.slot_dict_update PySem.F.type_dict_update mt_update (pe_var hN hv hd hcd) (pa_cons pe_we pa_nil hs) hbase hfew hline hs hplain) hsw) ?_
  obtain ⟨q, vs, h1, h2, h3, h4, h5⟩ := E.env.dctOwn hΓ
  refine ⟨.ref q, h1, .inr (.inr (.inl ⟨rfl, .inl ⟨_, h2⟩⟩)), ?_⟩
  refine h F H [] [] σ rfl E.env _ fun v r F1 H1 k1 E1 => ?_
  obtain ⟨ms, es, hfr, hnd, hnew, hz, k⟩ := k1
  obtain ⟨F2, E2⟩ := E1.frzTop
  rw [hfr] at E2
  obtain ⟨b, us, b1, c2, b3, b4⟩ := E2.imAt (i := 0) rfl rfl
  have b2 := E2.ex _ _ c2
  have E3 : EnvR c F2 H1 σ Γ := E2.pop
  obtain ⟨q2, ws, g1, g2, g3, g4, g5⟩ := E3.dctOwn hΓ
  rw [h1] at g1
  cases g1
  have hne : q ≠ b := fun z => by
    subst z
    rw [g5] at c2
    cases c2
  have hl1 : (ks.zip ws).length = ks.length := by rw [List.length_zip, ← g4.length, ← g3]; exact Nat.min_self _
  have hl2 : (ms.zip us).length = ms.length := by rw [List.length_zip, ← b4.length, ← b3]; exact Nat.min_self _
  refine ⟨q, b, ks.zip ws, ms.zip us, rfl, by rw [b1], hne, g2, .inl b2, by omega, ok.nx _ F2 _ σ k ⟨?_, E.nv.set rfl⟩⟩
  refine E3.write E.nv hΓ h1 ⟨ws ++ us, ?_, by simp [g3, b3], g4.append b4⟩
  have hfst : (ms.zip us).map (·.1) = ms := List.map_fst_zip (by rw [b3, b4.length]; exact Nat.le_refl _)
  rw [upd_same, merge_new _ _ (by rw [hfst]; exact hnd) (fun p hp => ?_), List.zip_append (by rw [g3, g4.length])]
  have hm : p.1 ∈ ms := by
    rw [← hfst]
    exact List.mem_map.mpr ⟨p, hp, rfl⟩
  have hv := (valV_zip (j := p.1) g3 g4).1
  rw [(getD?_none (j := p.1) g3).mpr (hnew _ hm)] at hv
  cases z : valV (ks.zip ws) p.1 with
  | none => rfl
  | some u =>
    rw [z] at hv
    cases hv
end
section
variable {X : Cx} {c : C0} {Γ : List Sl} {K : Sl → Prop} {pos : Pos}
theorem wp_dict0 (k : K (.own (.dct [] []))) : WPe X c (.Dict [] [] pos) Γ K := fun F H stk S σ hl E Q q => we_of pe_dnewK fun p hp => q _ _ F _ k (EnvR.pushOwn E hp ⟨[], upd_same, rfl, .nil⟩)
theorem ud_neg {i : Int} (k : K (.im (.int (-i)))) : UnD X c (unaryOp .USub) (.im (.int i)) K := fun F H L G x E Q q pins s σ u I rx =>
  un_neg pins s σ H x u Q I rx ⟨i, E.imAt (i := 0) rfl rfl, q _ _ F H k (E.pop.push rfl)⟩
end
/-! ### x, y = a, b by a tuple (names that a block reads) -/
section
variable {X : Cx} {c : C0} {Γ : List Sl} {D : DEnds} {a b d e : Expr} {pos : Pos}
/-- a new thing that nobody knows -/
theorem EnvR.junk {F H : Hp} {σ : L2.St} {Γ : List Sl} {p : Addr} {o : HO} (E : EnvR c F H σ Γ) (hp : H p = none) : EnvR c F (upd H p o) σ Γ :=
  E.step (Gr.refl F H) (E.ex.mut (E.ex.back hp)) (fun a u ha _ => by rw [upd_ne (ne_of_none ha hp)]; exact ha) (c.stab H _ (fun a w => upd_ne (fun z => E.wne w (by rw [z]; exact hp))) (extx_new hp) E.hk)
theorem wst_tup2 (i j : Nat) {x y : Str} {px py : Pos} {kt k2 pt pt2} (hc : X.calm = true) (hN : X.N.Nodup) (hij : i ≠ j) (h : WPe X c a Γ fun ra => WPe X c b Γ fun rb => isv ra = false ∧ isv rb = false ∧ D.nx ((Γ.set i ra).set j rb))
    (hl : i < Γ.length := by exact Nat.le_of_ble_eq_true rfl) (hl2 : j < Γ.length := by exact Nat.le_of_ble_eq_true rfl) (hi : X.N[i]? = some x := by rfl) (hj : X.N[j]? = some y := by rfl) (hx : Loc X.env.scope x := by first | exact Or.inl rfl | exact Or.inr rfl) (hy : Loc X.env.scope y := by first | exact Or.inl rfl | exact Or.inr rfl)
    (hf : X.fn x = true ∨ X.env.scope.names.lookup x = some .local := by first | exact .inl rfl | exact .inr rfl) (hf2 : X.fn y = true ∨ X.env.scope.names.lookup y = some .local := by first | exact .inl rfl | exact .inr rfl)
    (hn : (assignEach [.Name x px, .Name y py] X.env).length = 2 := by rfl) (hst : (assignEach [.Name x px, .Name y py] X.env).findIdx? (·.1) = none := by rfl)
    (hs1 : (assignEach [.Name x px, .Name y py] X.env).map (·.2) = assign (.Name x px) X.env :: (assignEach [.Name y py] X.env).map (·.2) := by rfl) (hs2 : (assignEach [.Name y py] X.env).map (·.2) = assign (.Name y py) X.env :: (assignEach [] X.env).map (·.2) := by rfl)
    (hw : swappedStores [.Tuple [.Name x px, .Name y py] kt pt] (.Tuple [a, b] k2 pt2) X.env = pure none := by rfl) (hs : swapsWithSole [.Tuple [.Name x px, .Name y py] kt pt] (.Tuple [a, b] k2 pt2) pos.line X.env = pure false := by rfl)
    (h1 : (assignEach [.Tuple [.Name x px, .Name y py] kt pt] X.env).map (·.2) = [assign (.Tuple [.Name x px, .Name y py] kt pt) X.env] := by rfl) (hsa : starEach [a, b] X.env = (false, eval a X.env) :: starEach [b] X.env := by rfl) (hsb : starEach [b] X.env = (false, eval b X.env) :: starEach [] X.env := by rfl) :
    WPst X c (.Assign [.Tuple [.Name x px, .Name y py] kt pt] (.Tuple [a, b] k2 pt2) pos) Γ D := fun F H σ E Dd ok => by
  refine ws_of (ps_asg (pe_tup (pa_cons pe_we (pa_cons pe_we pa_nil hsb) hsa)) (pg_tup hc (pgs_cons (pg_name hN hi hx hf) (pgs_cons (pg_name hN hj hy hf2) pgs_nil hs2) hs1) hn hst) hs hw h1) ?_
  refine h F H [] [] σ rfl E.env _ fun v ra F1 H1 k1 E1 => ?_
  refine k1 F1 H1 [some v] [ra] σ rfl E1 _ fun w rb F2 H2 k2 E2 => ?_
  obtain ⟨n1, n2, k⟩ := k2
  refine ⟨by show 2 ≤ sizeLine; decide, fun p hp => ⟨p, [v, w], rfl, .inl (.inl upd_same), rfl, v, [w], rfl, w, [], rfl, rfl, ok.nx _ F2 _ _ k ⟨?_, (E.nv.set (nv_of n1)).set (nv_of n2)⟩⟩⟩
  have E3 : EnvR c F2 (upd H2 p (.tup [v, w])) (some w :: some v :: σ) (rb :: ra :: Γ) := EnvR.junk E2 hp
  have E4 : EnvR c F2 (upd H2 p (.tup [v, w])) ((some v :: σ).set (j + 1) (some w)) ((ra :: Γ).set (j + 1) rb) := E3.store (by simpa using hl2)
  have E5 : EnvR c F2 (upd H2 p (.tup [v, w])) (some v :: σ.set j (some w)) (ra :: Γ.set j rb) := E4
  have E6 := E5.store (i := i) (by simpa using hl)
  rw [List.set_comm _ _ hij, List.set_comm _ _ hij]
  exact E6
theorem wst_tup3 (i j l : Nat) {x y z : Str} {px py pz : Pos} {kt k2 pt pt2} (hc : X.calm = true) (hN : X.N.Nodup) (hij : i ≠ j) (hil : i ≠ l) (hjl : j ≠ l) (h : WPe X c a Γ fun ra => WPe X c b Γ fun rb => WPe X c d Γ fun rc => isv ra = false ∧ isv rb = false ∧ isv rc = false ∧ D.nx (((Γ.set i ra).set j rb).set l rc))
    (hl : i < Γ.length := by exact Nat.le_of_ble_eq_true rfl) (hl2 : j < Γ.length := by exact Nat.le_of_ble_eq_true rfl) (hl3 : l < Γ.length := by exact Nat.le_of_ble_eq_true rfl) (hi : X.N[i]? = some x := by rfl) (hj : X.N[j]? = some y := by rfl) (hll : X.N[l]? = some z := by rfl)
    (hx : Loc X.env.scope x := by first | exact Or.inl rfl | exact Or.inr rfl) (hy : Loc X.env.scope y := by first | exact Or.inl rfl | exact Or.inr rfl) (hz : Loc X.env.scope z := by first | exact Or.inl rfl | exact Or.inr rfl)
    (hf : X.fn x = true ∨ X.env.scope.names.lookup x = some .local := by first | exact .inl rfl | exact .inr rfl) (hf2 : X.fn y = true ∨ X.env.scope.names.lookup y = some .local := by first | exact .inl rfl | exact .inr rfl) (hf3 : X.fn z = true ∨ X.env.scope.names.lookup z = some .local := by first | exact .inl rfl | exact .inr rfl)
    (hn : (assignEach [.Name x px, .Name y py, .Name z pz] X.env).length = 3 := by rfl) (hst : (assignEach [.Name x px, .Name y py, .Name z pz] X.env).findIdx? (·.1) = none := by rfl)
    (hs1 : (assignEach [.Name x px, .Name y py, .Name z pz] X.env).map (·.2) = assign (.Name x px) X.env :: (assignEach [.Name y py, .Name z pz] X.env).map (·.2) := by rfl) (hs2 : (assignEach [.Name y py, .Name z pz] X.env).map (·.2) = assign (.Name y py) X.env :: (assignEach [.Name z pz] X.env).map (·.2) := by rfl) (hs3 : (assignEach [.Name z pz] X.env).map (·.2) = assign (.Name z pz) X.env :: (assignEach [] X.env).map (·.2) := by rfl)
    (hw : swappedStores [.Tuple [.Name x px, .Name y py, .Name z pz] kt pt] (.Tuple [a, b, d] k2 pt2) X.env = pure none := by rfl) (hs : swapsWithSole [.Tuple [.Name x px, .Name y py, .Name z pz] kt pt] (.Tuple [a, b, d] k2 pt2) pos.line X.env = pure false := by rfl)
    (h1 : (assignEach [.Tuple [.Name x px, .Name y py, .Name z pz] kt pt] X.env).map (·.2) = [assign (.Tuple [.Name x px, .Name y py, .Name z pz] kt pt) X.env] := by rfl) (hsa : starEach [a, b, d] X.env = (false, eval a X.env) :: starEach [b, d] X.env := by rfl) (hsb : starEach [b, d] X.env = (false, eval b X.env) :: starEach [d] X.env := by rfl) (hsc : starEach [d] X.env = (false, eval d X.env) :: starEach [] X.env := by rfl) :
    WPst X c (.Assign [.Tuple [.Name x px, .Name y py, .Name z pz] kt pt] (.Tuple [a, b, d] k2 pt2) pos) Γ D := fun F H σ E Dd ok => by
  refine ws_of (ps_asg (pe_tup (pa_cons pe_we (pa_cons pe_we (pa_cons pe_we pa_nil hsc) hsb) hsa)) (pg_tup hc (pgs_cons (pg_name hN hi hx hf) (pgs_cons (pg_name hN hj hy hf2) (pgs_cons (pg_name hN hll hz hf3) pgs_nil hs3) hs2) hs1) hn hst) hs hw h1) ?_
  refine h F H [] [] σ rfl E.env _ fun v ra F1 H1 k1 E1 => ?_
  refine k1 F1 H1 [some v] [ra] σ rfl E1 _ fun w rb F2 H2 k2 E2 => ?_
  refine k2 F2 H2 [some w, some v] [rb, ra] σ rfl E2 _ fun u rc F3 H3 k3 E3 => ?_
  obtain ⟨n1, n2, n3, k⟩ := k3
  refine ⟨by show 3 ≤ sizeLine; decide, fun p hp => ⟨p, [v, w, u], rfl, .inl (.inl upd_same), rfl, v, [w, u], rfl, w, [u], rfl, u, [], rfl, rfl, ok.nx _ F3 _ _ k ⟨?_, ((E.nv.set (nv_of n1)).set (nv_of n2)).set (nv_of n3)⟩⟩⟩
  have E3' : EnvR c F3 (upd H3 p (.tup [v, w, u])) (some u :: some w :: some v :: σ) (rc :: rb :: ra :: Γ) := EnvR.junk E3 hp
  have E4 : EnvR c F3 (upd H3 p (.tup [v, w, u])) (some w :: some v :: σ.set l (some u)) (rb :: ra :: Γ.set l rc) := EnvR.store (i := l + 2) (Γ := rb :: ra :: Γ) (σ := some w :: some v :: σ) E3' (by simpa using hl3)
  have E5 : EnvR c F3 (upd H3 p (.tup [v, w, u])) (some v :: (σ.set l (some u)).set j (some w)) (ra :: (Γ.set l rc).set j rb) := EnvR.store (i := j + 1) (Γ := ra :: Γ.set l rc) (σ := some v :: σ.set l (some u)) E4 (by simpa using hl2)
  have E6 := EnvR.store (i := i) E5 (by simpa using hl)
  rw [set3 hij hil hjl, set3 hij hil hjl]
  exact E6
end
/-! ### a, b, c, d = [], [], [], [] -/
section
variable {X : Cx} {c : C0} {Γ : List Sl} {D : DEnds} {pos : Pos}
theorem wst_lists4 (i j l n : Nat) {x y z u : Str} {px py pz pu q1 q2 q3 q4 : Pos} {kt k2 pt pt2} (hc : X.calm = true) (hN : X.N.Nodup) (hij : i ≠ j) (hil : i ≠ l) (hin : i ≠ n) (hjl : j ≠ l) (hjn : j ≠ n) (hln : l ≠ n) (h : D.nx ((((Γ.set n (.own (.lst []))).set l (.own (.lst []))).set j (.own (.lst []))).set i (.own (.lst []))))
    (hl : i < Γ.length := by exact Nat.le_of_ble_eq_true rfl) (hl2 : j < Γ.length := by exact Nat.le_of_ble_eq_true rfl) (hl3 : l < Γ.length := by exact Nat.le_of_ble_eq_true rfl) (hl4 : n < Γ.length := by exact Nat.le_of_ble_eq_true rfl) (hi : X.N[i]? = some x := by rfl) (hj : X.N[j]? = some y := by rfl) (hll : X.N[l]? = some z := by rfl) (hnn : X.N[n]? = some u := by rfl)
    (hx : Loc X.env.scope x := by first | exact Or.inl rfl | exact Or.inr rfl) (hy : Loc X.env.scope y := by first | exact Or.inl rfl | exact Or.inr rfl) (hz : Loc X.env.scope z := by first | exact Or.inl rfl | exact Or.inr rfl) (hu : Loc X.env.scope u := by first | exact Or.inl rfl | exact Or.inr rfl)
    (hf : X.fn x = true ∨ X.env.scope.names.lookup x = some .local := by first | exact .inl rfl | exact .inr rfl) (hf2 : X.fn y = true ∨ X.env.scope.names.lookup y = some .local := by first | exact .inl rfl | exact .inr rfl) (hf3 : X.fn z = true ∨ X.env.scope.names.lookup z = some .local := by first | exact .inl rfl | exact .inr rfl) (hf4 : X.fn u = true ∨ X.env.scope.names.lookup u = some .local := by first | exact .inl rfl | exact .inr rfl)
    (hn : (assignEach [.Name x px, .Name y py, .Name z pz, .Name u pu] X.env).length = 4 := by rfl) (hst : (assignEach [.Name x px, .Name y py, .Name z pz, .Name u pu] X.env).findIdx? (·.1) = none := by rfl)
    (hs1 : (assignEach [.Name x px, .Name y py, .Name z pz, .Name u pu] X.env).map (·.2) = assign (.Name x px) X.env :: (assignEach [.Name y py, .Name z pz, .Name u pu] X.env).map (·.2) := by rfl) (hs2 : (assignEach [.Name y py, .Name z pz, .Name u pu] X.env).map (·.2) = assign (.Name y py) X.env :: (assignEach [.Name z pz, .Name u pu] X.env).map (·.2) := by rfl)
    (hs3 : (assignEach [.Name z pz, .Name u pu] X.env).map (·.2) = assign (.Name z pz) X.env :: (assignEach [.Name u pu] X.env).map (·.2) := by rfl) (hs4 : (assignEach [.Name u pu] X.env).map (·.2) = assign (.Name u pu) X.env :: (assignEach [] X.env).map (·.2) := by rfl)
    (hw : swappedStores [.Tuple [.Name x px, .Name y py, .Name z pz, .Name u pu] kt pt] (.Tuple [.List [] q1, .List [] q2, .List [] q3, .List [] q4] k2 pt2) X.env = pure none := by rfl) (hs : swapsWithSole [.Tuple [.Name x px, .Name y py, .Name z pz, .Name u pu] kt pt] (.Tuple [.List [] q1, .List [] q2, .List [] q3, .List [] q4] k2 pt2) pos.line X.env = pure false := by rfl)
    (h1 : (assignEach [.Tuple [.Name x px, .Name y py, .Name z pz, .Name u pu] kt pt] X.env).map (·.2) = [assign (.Tuple [.Name x px, .Name y py, .Name z pz, .Name u pu] kt pt) X.env] := by rfl)
    (ha : starEach [.List [] q1, .List [] q2, .List [] q3, .List [] q4] X.env = (false, eval (.List [] q1) X.env) :: starEach [.List [] q2, .List [] q3, .List [] q4] X.env := by rfl) (hb : starEach [.List [] q2, .List [] q3, .List [] q4] X.env = (false, eval (.List [] q2) X.env) :: starEach [.List [] q3, .List [] q4] X.env := by rfl)
    (hcc : starEach [.List [] q3, .List [] q4] X.env = (false, eval (.List [] q3) X.env) :: starEach [.List [] q4] X.env := by rfl) (hd : starEach [.List [] q4] X.env = (false, eval (.List [] q4) X.env) :: starEach [] X.env := by rfl) :
    WPst X c (.Assign [.Tuple [.Name x px, .Name y py, .Name z pz, .Name u pu] kt pt] (.Tuple [.List [] q1, .List [] q2, .List [] q3, .List [] q4] k2 pt2) pos) Γ D := fun F H σ E Dd ok => by
  refine ws_of (ps_asg (pe_tup (pa_cons (pe_lst pa_nil) (pa_cons (pe_lst pa_nil) (pa_cons (pe_lst pa_nil) (pa_cons (pe_lst pa_nil) pa_nil hd) hcc) hb) ha)) (pg_tup hc (pgs_cons (pg_name hN hi hx hf) (pgs_cons (pg_name hN hj hy hf2) (pgs_cons (pg_name hN hll hz hf3) (pgs_cons (pg_name hN hnn hu hf4) pgs_nil hs4) hs3) hs2) hs1) hn hst) hs hw h1) ?_
  refine ⟨Nat.zero_le _, fun p1 n1 => ⟨Nat.zero_le _, fun p2 n2 => ⟨Nat.zero_le _, fun p3 n3 => ⟨Nat.zero_le _, fun p4 n4 => ⟨by show 4 ≤ sizeLine; decide, fun p hp => ⟨p, [.ref p1, .ref p2, .ref p3, .ref p4], rfl, .inl (.inl upd_same), rfl, .ref p1, _, rfl, .ref p2, _, rfl, .ref p3, _, rfl, .ref p4, _, rfl, rfl, ?_⟩⟩⟩⟩⟩⟩
  have E1 := E.env.pushOwn n1 (d := .lst []) ⟨[], upd_same, .nil⟩
  have E2 := E1.pushOwn n2 (d := .lst []) ⟨[], upd_same, .nil⟩
  have E3 := E2.pushOwn n3 (d := .lst []) ⟨[], upd_same, .nil⟩
  have E4 := E3.pushOwn n4 (d := .lst []) ⟨[], upd_same, .nil⟩
  have E5 := E4.junk (o := .tup [.ref p1, .ref p2, .ref p3, .ref p4]) hp
  have S1 := EnvR.store (i := n + 3) E5 (by simpa using hl4)
  have S2 := EnvR.store (i := l + 2) S1 (by simpa using hl3)
  have S3 := EnvR.store (i := j + 1) S2 (by simpa using hl2)
  have S4 := EnvR.store (i := i) S3 (by simpa using hl)
  refine ok.nx _ F _ _ h ⟨?_, (((E.nv.set (nv_of rfl)).set (nv_of rfl)).set (nv_of rfl)).set (nv_of rfl)⟩
  have e : (((σ.set i (some (.ref p1))).set j (some (.ref p2))).set l (some (.ref p3))).set n (some (.ref p4)) = (((σ.set n (some (.ref p4))).set l (some (.ref p3))).set j (some (.ref p2))).set i (some (.ref p1)) := by
    rw [List.set_comm _ _ hln, List.set_comm _ _ hjn, List.set_comm _ _ hin, List.set_comm _ _ hjl, List.set_comm _ _ hil, List.set_comm _ _ hij]
  rw [e]
  exact S4
theorem cd_strInt {i : Int} (hs : i.natAbs.log2 < 1920) {K : Sl → Prop} (k : K (.im (.str (toString i)))) : CallD X c (.type "str") [.im (.int i)] K := cd_val (ds := [.int i]) (dr := .str (toString i)) call_str_int (fun F H xs _ hx => ⟨.str (toString i), rfl, fun Q q => by
    obtain ⟨v, w, e, hv, e2⟩ := hx
    have e2' : w = [] := e2
    subst e2' e
    exact ⟨i, by rw [show v = .int i from hv], hs, q⟩⟩) k
end
/-! ### items of slices -/
def cutG {α : Type} (xs : List α) (lo hi : Option Int) : List α := (xs.drop (HT.sIx xs.length 0 lo)).take (HT.sIx xs.length xs.length hi - HT.sIx xs.length 0 lo)
theorem cutD_map {α : Type} (f : α → D) (l : List α) (lo hi : Option Int) : cutD (l.map f) lo hi = (cutG l lo hi).map f := by
  unfold cutD cutG
  rw [List.length_map, ← List.map_drop, ← List.map_take]
theorem cutG_mem {α : Type} {l : List α} {lo hi : Option Int} {x : α} (h : x ∈ cutG l lo hi) : x ∈ l := List.mem_of_mem_drop (List.mem_of_mem_take h)
theorem cutG_len {α : Type} (l : List α) (lo hi : Option Int) : (cutG l lo hi).length ≤ l.length := by
  unfold cutG
  rw [List.length_take, List.length_drop]
  omega
/-! ### texts in lists, compared -/
def strsOk (l : List Str) : Prop := ∀ s ∈ l, PyData.canLay0 (.str s) = true
theorem canLay_strs : ∀ {l : List Str}, strsOk l → PyData.canLayAll0 (pys (l.map D.str)) = true
  | [], _ => by rw [List.map_nil, pys, PyData.canLayAll0]
  | s :: r, h => by
    rw [List.map_cons, pys, PyData.canLayAll0, py, h s (by simp), canLay_strs (l := r) fun t ht => h t (List.mem_cons_of_mem _ ht)]
    rfl
theorem depth_strs : ∀ l : List Str, PyData.depthAll (pys (l.map D.str)) = 0
  | [] => by rw [List.map_nil, pys, PyData.depthAll]
  | s :: r => by
    rw [List.map_cons, pys, PyData.depthAll, py, PyData.depth, depth_strs r]
    rfl
theorem shaped_strs {l : List Str} (h : strsOk l) : SeqAt.shaped (py (.tup (l.map D.str))) = true := by
  unfold SeqAt.shaped
  rw [py, PyData.canLay0, canLay_strs h, PyData.depth, depth_strs]
  rfl
theorem eqv_strsA : ∀ l m : List Str, PyData.eqvAll (pys (l.map D.str)) (pys (m.map D.str)) = decide (l = m)
  | [], [] => by simp [pys, PyData.eqvAll]
  | [], b :: m => by simp [pys, PyData.eqvAll]
  | a :: l, [] => by simp [pys, PyData.eqvAll]
  | a :: l, b :: m => by
    rw [List.map_cons, List.map_cons, pys, pys, PyData.eqvAll, eqv_strsA l m, py, py, PyData.eqv]
    by_cases h : a = b
    · subst h
      by_cases q : l = m
      · subst q
        simp
      · simp [q]
    · simp [h]
theorem eqv_strs (l m : List Str) : PyData.eqv (py (.tup (l.map D.str))) (py (.tup (m.map D.str))) = decide (l = m) := by
  rw [py, py, PyData.eqv, eqv_strsA]
end DL

set_option Elab.async false
set_option linter.all false
set_option pp.maxSteps 300
set_option maxRecDepth 100000
set_option maxHeartbeats 2000000
/-! DL11: the hand of draws: what stands at its address -/
namespace DL
open PySem PySem.Spec PyProof.Rows L2
/-- the hand at p: its great numbers at q1, its small ones at q2 -/
def HandAt (p q1 q2 : Addr) (H : Hp) : Prop := ∃ (gs ss : List Int) (su tu : Int),
  H p = some (.dK [(.inr "great", .ref q1), (.inr "small", .ref q2), (.inr "sum", .int su), (.inr "turn", .int tu)]) ∧ H q1 = some (.lst (gs.map V.int)) ∧ H q2 = some (.lst (ss.map V.int)) ∧ ss ≠ [] ∧ gs.length ≤ 100 ∧ ss.length ≤ 100
def HandyW (W : List Addr) (hp : Addr) (hok : Hp → Prop) : Prop := ∃ q1 q2, W = [hp, q1, q2] ∧ hp ≠ q1 ∧ hp ≠ q2 ∧ q1 ≠ q2 ∧ ∀ H, hok H ↔ HandAt hp q1 q2 H
/-- the hand that c speaks of is one of draws -/
def Handy (c : C0) : Prop := HandyW c.W c.hp c.hok
/-- a hand's C0 -/
def cHand (F H : Hp) (p q1 q2 : Addr) : C0 where
  F0 := F
  H0 := H
  W := [p, q1, q2]
  hp := p
  hok := HandAt p q1 q2
  stab := fun H H' h _ ⟨gs, ss, su, tu, h1, h2, h3, h4⟩ => ⟨gs, ss, su, tu, by rw [h p (by simp)]; exact h1, by rw [h q1 (by simp)]; exact h2, by rw [h q2 (by simp)]; exact h3, h4⟩
  wl := fun H ⟨gs, ss, su, tu, h1, h2, h3, h4⟩ a ha => by
    simp only [List.mem_cons, List.not_mem_nil, or_false] at ha
    rcases ha with rfl | rfl | rfl
    · rw [h1]; exact Option.some_ne_none _
    · rw [h2]; exact Option.some_ne_none _
    · rw [h3]; exact Option.some_ne_none _
theorem cHand_handy {F H : Hp} {p q1 q2 : Addr} (h1 : p ≠ q1) (h2 : p ≠ q2) (h3 : q1 ≠ q2) : Handy (cHand F H p q1 q2) := ⟨q1, q2, rfl, h1, h2, h3, fun _ => Iff.rfl⟩
/-- SpD, with a hand of draws -/
def SpH (n : Nat) (pre : List Sl → Prop) (post : List Sl → Sl → Prop) : Sp := fun vs H Q _ => vs.length = n ∧ ∃ (c : C0) (F : Hp) (rs : List Sl), Handy c ∧ rs.length = n ∧ pre rs ∧ NV rs ∧ c.F0 = F ∧ c.H0 = H ∧ EnvR c F H (vs.map some) rs ∧
  ∀ v r F' H', post rs r → EnvR c F' H' [some v] [r] → Q v H'
theorem fn_DH {P : Program} {w : World} {K : PySem.W.Frag} {mg : Str → Option Value} {base : Heap} {x qual : Str} {st : Stmt} {f : Addr} {fd : FuncData} {N ps : List Str} {k : Nat} (F : Fun K x qual st f fd) (S : FnScope N ps (defScope st)) {pre : List Sl → Prop} {post : List Sl → Sl → Prop}
    (hb : ∀ (cdv : Value) (A : Around) (outer : List Env) (s : Shared) (H : Hp) (E : XK) (c : C0) (rs : List Sl), Room k (A.deeper (PyProof.Rows.envOfC qual (defScope st) s.heap.objs.size f cdv)) → Handy c → rs.length = ps.length → pre rs →
      WPs (cxOf L2.CX0 P w K mg base N qual (defScope st) f cdv A outer s H E).nox c (defBody st) (rs ++ List.replicate (N.length - ps.length) .any) { nx := fun _ => post rs (.im .non), rt := post rs }) : FnOk P w K mg base L2.CX0 (k + 1) f fd ps (SpH ps.length pre post) := by
  refine F.ok S (fun vs H Q E h => h.1) (fun cdv A outer s H vs Q E hr h => ⟨_, pss_wss, ?_⟩)
  obtain ⟨hl, c, F1, rs, hcd, hrl, hpre, nv, e1, e2, E1, q⟩ := h
  have hst : L2.start N vs = vs.map some ++ List.replicate (N.length - ps.length) none := by
    unfold L2.start
    rw [hl]
  rw [hst]
  refine hb cdv A outer s H E c rs hr hcd hrl hpre F1 H _ ⟨E1.rest, nv.rest⟩ _ ⟨fun Γ F H σ hn E' => ?_, fun r v F H hn E' => q v r F H hn E', fun Γ F H σ hn E' => hn.elim, fun Γ F H σ hn E' => hn.elim⟩
  exact q .non (.im .non) F H hn (E'.env.push (d := .non) rfl).only
section
variable {P : Program} {w : World} {K : PySem.W.Frag} {mg : Str → Option Value} {base : Heap} {k : Nat} {f : Addr} {fd : FuncData} {ps : List Str} {sp : Sp}
/-- a def whose walk is told in the open -/
theorem fn_rawG {x qual : Str} {st : Stmt} {N : List Str} (F : Fun K x qual st f fd) (S : FnScope N ps (defScope st)) (hlen : ∀ vs H Q E, sp vs H Q E → vs.length = ps.length)
    (hb : ∀ (cdv : Value) (A : Around) (outer : List Env) (s : Shared) (H : Hp) (vs : List V) (Q : VK) (E : XK), A.guards = some [] → Room k (A.deeper (PyProof.Rows.envOfC qual (defScope st) s.heap.objs.size f cdv)) → sp vs H Q E →
      WSs (cxOf L2.CX0 P w K mg base N qual (defScope st) f cdv A outer s H E).nox (defBody st) { nx := fun _ H' => Q .non H', rt := Q } (vs.map some ++ List.replicate (N.length - ps.length) none) H) : FnG P w K mg base (k + 1) f fd ps sp := by
  obtain ⟨oc, od, kV, doc, pm, an, cdv, ct, osl, rfl, lk, hcd⟩ := F.ex
  refine ⟨hlen, fun A outer s H args us vs Q E hgd hr e0 hbd r h => ?_⟩
  have hl := hlen vs H Q E h
  have inK : K.In s.heap := e0.mod.kin.keeps fun b o e => (e0.bs b o e).1
  have noLim : s.heap.NoLimit := e0.mod.nolimit.keeps fun b o e => (e0.bs b o e).1
  have kinds : ∀ y ∈ ps.zip us, (defScope st).names.lookup y.1 = some .local ∨ ((defScope st).names.lookup y.1 = some .cell ∧ ((cellsFrom (s.heap.objs.size + 1) (defScope st).names []).lookup y.1).isSome = true) := by
    rintro ⟨n, v⟩ hy
    rcases S.par n (List.of_mem_zip hy).1 with z | z
    · exact .inl z
    · exact .inr ⟨z, PySem.W.cellsFrom_some _ _ _ (.inl z)⟩
  apply codeAny_call_function hr.depth (inK _ _ lk) rfl S.co S.gen rfl (PySem.W.codeRec_of inK hcd)
  apply hbd
  apply wpAny_newFunctionEnv_cells S.kind kinds
  intro env he s1 x
  subst he
  refine ⟨noLim.keeps x.toInCall.keep, codeAny_func ?_⟩
  have I := inv_start (CX := L2.CX0) (P := P) (w := w) (K := K) (mg := mg) (base := base) (E := E) S hr.hd e0 hl r x
  have hst : L2.start N vs = vs.map some ++ List.replicate (N.length - ps.length) none := by
    unfold L2.start
    rw [hl]
  have W := hb cdv A outer s H vs Q E hgd (hr.deeper _) h
  have T := (pss_wss (X := (cxOf L2.CX0 P w K mg base N qual (defScope st) f cdv A outer s H E).nox) (sts := defBody st)).nox
  have run := T.run [] s1 (L2.start N vs) H { nx := fun _ H' => Q .non H', rt := Q } I (by rw [hst]; exact W)
  refine wpAny_mono run (fun fl s' hs => ?_) (fun e s' hs => hs)
  cases fl with
  | ret u =>
    obtain ⟨v, σ', H', J, rv, hq⟩ := hs
    exact ⟨v, H', J.os, J.bare, J.base, J.hok, rv, hq⟩
  | next =>
    obtain ⟨σ', H', J, hq⟩ := hs
    exact ⟨V.non, H', J.os, J.bare, J.base, J.hok, rfl, hq⟩
  | brk => exact hs.choose_spec.choose_spec.2.elim
  | cont => exact hs.choose_spec.choose_spec.2.elim
theorem fn_GH {x qual : Str} {st : Stmt} {N : List Str} (F : Fun K x qual st f fd) (S : FnScope N ps (defScope st)) {pre : List Sl → Prop} {post : List Sl → Sl → Prop}
    (hb : ∀ (cdv : Value) (A : Around) (outer : List Env) (s : Shared) (H : Hp) (E : XK) (c : C0) (rs : List Sl), A.guards = some [] → Room k (A.deeper (PyProof.Rows.envOfC qual (defScope st) s.heap.objs.size f cdv)) → Handy c → rs.length = ps.length → pre rs →
      WPs (cxOf L2.CX0 P w K mg base N qual (defScope st) f cdv A outer s H E).nox c (defBody st) (rs ++ List.replicate (N.length - ps.length) .any) { nx := fun _ => post rs (.im .non), rt := post rs }) : FnG P w K mg base (k + 1) f fd ps (SpH ps.length pre post) :=
  fn_rawG F S (fun vs H Q E h => h.1) fun cdv A outer s H vs Q E hgd hr h => by
    obtain ⟨hl, c, F1, rs, hcd, hrl, hpre, nv, e1, e2, E1, q⟩ := h
    exact hb cdv A outer s H E c rs hgd hr hcd hrl hpre F1 H _ ⟨E1.rest, nv.rest⟩ _ ⟨fun Γ F H σ hn E' => q .non (.im .non) F H hn (E'.env.push (d := .non) rfl).only, fun r v F H hn E' => q v r F H hn E', fun Γ F H σ hn E' => hn.elim, fun Γ F H σ hn E' => hn.elim⟩
theorem fn_raw {x qual : Str} {st : Stmt} {N : List Str} (F : Fun K x qual st f fd) (S : FnScope N ps (defScope st)) (hlen : ∀ vs H Q E, sp vs H Q E → vs.length = ps.length)
    (hb : ∀ (cdv : Value) (A : Around) (outer : List Env) (s : Shared) (H : Hp) (vs : List V) (Q : VK) (E : XK), Room k (A.deeper (PyProof.Rows.envOfC qual (defScope st) s.heap.objs.size f cdv)) → sp vs H Q E →
      WSs (cxOf L2.CX0 P w K mg base N qual (defScope st) f cdv A outer s H E).nox (defBody st) { nx := fun _ H' => Q .non H', rt := Q } (vs.map some ++ List.replicate (N.length - ps.length) none) H) : FnOk P w K mg base L2.CX0 (k + 1) f fd ps sp := by
  refine F.ok S hlen (fun cdv A outer s H vs Q E hr h => ⟨_, pss_wss, ?_⟩)
  have hst : L2.start N vs = vs.map some ++ List.replicate (N.length - ps.length) none := by
    unfold L2.start
    rw [hlen vs H Q E h]
  rw [hst]
  exact hb cdv A outer s H vs Q E hr h
end
section
variable {X : Cx} {c : C0} {Γ : List Sl} {K : Sl → Prop} {pos p : Pos} {k : Nat} {f : Addr} {fd : FuncData} {ps : List Str} {pre : List Sl → Prop} {post : List Sl → Sl → Prop} {x : Str} {e : Expr} {es : List Expr}
theorem spH_call {F H F1 H1 : Hp} {L : L2.St} {G : List Sl} {vs : List V} {ds : List DL.D} {Q : VK} {E0 : XK} (hcd : Handy c) (hl1 : vs.length = (Sl.hand :: ds.map Sl.im).length) (E1 : EnvR c F1 H1 (vs.reverse.map some ++ L) ((Sl.hand :: ds.map Sl.im).reverse ++ G)) (hlen : ds.length + 1 = ps.length) (hpre : pre (Sl.hand :: ds.map Sl.im))
    (k1 : ∀ r, post (Sl.hand :: ds.map Sl.im) r → isv r = false ∧ K r) (q : ∀ v r F' H', K r → EnvR c F' H' (some v :: L) (r :: G) → Q v H') : SpH ps.length pre post vs H1 Q E0 := by
  cases vs with
  | nil => simp at hl1
  | cons v0 vs =>
    have hvl : vs.length = ds.length := by simpa using hl1
    have E1' : EnvR c F1 H1 (vs.reverse.map some ++ (some v0 :: L)) ((ds.map Sl.im).reverse ++ (.hand :: G)) := by simpa [List.append_assoc] using E1
    obtain ⟨E2, hd⟩ := EnvR.dats hvl E1'
    have e0 : v0 = .ref c.hp := by
      have := E2.hand (i := 0) rfl
      simpa using this
    subst e0
    let c1 : C0 := { c with F0 := F1, H0 := H1 }
    have EA : EnvR c1 F1 H1 (vs.map some) (ds.map Sl.im) := env_args E2.ex hd E2.hk E2.nw rfl rfl
    have EB : EnvR c1 F1 H1 (some (.ref c.hp) :: vs.map some) (.hand :: ds.map Sl.im) := EA.pushS ⟨rfl, rfl⟩
    refine ⟨by simp [hvl, hlen], c1, F1, .hand :: ds.map Sl.im, hcd, by simpa using hlen, hpre, (nv_ims ds).cons rfl, rfl, rfl, EB, fun v r F' H' hpost E' => ?_⟩
    obtain ⟨h1, h3⟩ := k1 r hpost
    exact q v r F' H' h3 (E2.pop.ret E' rfl rfl (fun a z => z) E'.hk (fun _ => rfl) h1)
/-- f(hand, e, ..) -/
theorem wp_callY (hcd : Handy c) (G : FnOk X.prog X.w X.K X.mg X.base L2.CX0 k f fd ps (SpH ps.length pre post)) (hr : Room k X.A) (hm : X.mg x = some (.ref f)) (hk : PySem.W.keepIn X.K (.ref f) = true) (hb : Binds X.K fd ps [])
    (h : WPa X c (e :: es) Γ fun rs => ∃ ds : List DL.D, rs = Sl.hand :: ds.map Sl.im ∧ ds.length + 1 = ps.length ∧ pre rs ∧ ∀ r, post rs r → isv r = false ∧ K r) (hg : Gl X x := by rfl) (hn : starEach (e :: es) X.env = (false, eval e X.env) :: starEach es X.env := by rfl) (hdb : (x == ("__debug__" : Str)) = false := by decide)
    (hpl : (backTo pos (starEach es X.env)).any (·.1) = false := by rfl) : WPe X c (.Call (.Name x p) (e :: es) [] pos) Γ K := fun F H stk S σ hl E Q q => by
  refine we_of (pe_call (E := L2.E0) G hr hg hm hk hb .nil L2.pass0 pa_wa hdb hn hpl) ?_
  refine h F H stk S σ hl E _ fun vs rs F1 H1 k1 hl1 E1 => ?_
  obtain ⟨ds, e1, hlen, hpre, k1⟩ := k1
  subst e1
  rw [List.append_nil]
  exact spH_call (F := F) (H := H) hcd hl1 E1 hlen hpre k1 q
theorem wp_callYG (hcd : Handy c) (G : FnG X.prog X.w X.K X.mg X.base k f fd ps (SpH ps.length pre post)) (hgd : X.A.guards = some []) (hr : Room k X.A) (hm : X.mg x = some (.ref f)) (hk : PySem.W.keepIn X.K (.ref f) = true) (hb : Binds X.K fd ps [])
    (h : WPa X c (e :: es) Γ fun rs => ∃ ds : List DL.D, rs = Sl.hand :: ds.map Sl.im ∧ ds.length + 1 = ps.length ∧ pre rs ∧ ∀ r, post rs r → isv r = false ∧ K r) (hg : Gl X x := by rfl) (hn : starEach (e :: es) X.env = (false, eval e X.env) :: starEach es X.env := by rfl) (hdb : (x == ("__debug__" : Str)) = false := by decide)
    (hpl : (backTo pos (starEach es X.env)).any (·.1) = false := by rfl) : WPe X c (.Call (.Name x p) (e :: es) [] pos) Γ K := fun F H stk S σ hl E Q q => by
  refine we_of (pe_callG G hgd hr hg hm hk hb pa_wa hdb hn hpl) ?_
  refine h F H stk S σ hl E _ fun vs rs F1 H1 k1 hl1 E1 => ?_
  obtain ⟨ds, e1, hlen, hpre, k1⟩ := k1
  subst e1
  exact spH_call (F := F) (H := H) hcd hl1 E1 hlen hpre k1 q
end
end DL

set_option Elab.async false
set_option linter.all false
set_option pp.maxSteps 300
set_option maxRecDepth 100000
set_option maxHeartbeats 2000000
/-! DL12: more of numbers; the script; what is told in the open -/
namespace DL
open PySem PySem.Spec PyProof.Rows L2
section
variable {X : Cx} {c : C0} {Γ : List Sl} {K : Sl → Prop} {a e : Expr} {lo hi : Option Expr} {pos p2 : Pos} {i j : Int}
theorem od_mul (hc : CMul i j) (k : K (.im (.int (i * j)))) : OpD X c (binaryOp .Mult) (.im (.int i)) (.im (.int j)) K := fun F H L G x y E Q q pins s σ u w I rx ry =>
  op_mul pins s σ H x y u w Q I rx ry ⟨i, j, E.imAt (i := 1) rfl rfl, E.imAt (i := 0) rfl rfl, hc, q _ (.im (.int (i * j))) F H k (E.pop.pop.push rfl)⟩
theorem od_mod (hc : 0 < j) (k : K (.im (.int (i % j)))) : OpD X c (binaryOp .Mod) (.im (.int i)) (.im (.int j)) K := fun F H L G x y E Q q pins s σ u w I rx ry =>
  op_mod pins s σ H x y u w Q I rx ry ⟨i, j, E.imAt (i := 1) rfl rfl, E.imAt (i := 0) rfl rfl, hc, q _ (.im (.int (i % j))) F H k (E.pop.pop.push rfl)⟩
theorem od_fdiv (hc : CDiv i j) (k : K (.im (.int (i / j)))) : OpD X c (binaryOp .FloorDiv) (.im (.int i)) (.im (.int j)) K := fun F H L G x y E Q q pins s σ u w I rx ry =>
  op_fdiv pins s σ H x y u w Q I rx ry ⟨i, j, E.imAt (i := 1) rfl rfl, E.imAt (i := 0) rfl rfl, hc, q _ (.im (.int (i / j))) F H k (E.pop.pop.push rfl)⟩
theorem od_pow (hc : CPow i j) (k : K (.im (.int (i ^ j.toNat)))) : OpD X c (binaryOp .Pow) (.im (.int i)) (.im (.int j)) K := fun F H L G x y E Q q pins s σ u w I rx ry =>
  op_pow pins s σ H x y u w Q I rx ry ⟨i, j, E.imAt (i := 1) rfl rfl, E.imAt (i := 0) rfl rfl, hc, q _ (.im (.int (i ^ j.toNat))) F H k (E.pop.pop.push rfl)⟩
theorem cd_abs (k : K (.im (.int (if i < 0 then -i else i)))) : CallD X c (.builtin "abs") [.im (.int i)] K := cd_one call_abs fun F H L G v E Q q =>
  ⟨i, by rw [show v = .int i from E.imAt (i := 0) rfl rfl], q _ (.im (.int _)) F H k (E.pop.push rfl)⟩
theorem cd_int (k : K (.im (.int i))) : CallD X c (.type "int") [.im (.int i)] K := cd_one call_int1 fun F H L G v E Q q =>
  .inl ⟨i, by rw [show v = .int i from E.imAt (i := 0) rfl rfl], q _ (.im (.int i)) F H k (E.pop.push rfl)⟩
/-- the script's own C0 -/
def cScr (F H : Hp) (a : Addr) : C0 := ⟨F, H, [], a, fun _ => True, fun _ _ _ _ _ => trivial, fun _ _ a h => by cases h⟩
theorem sql_mono {K : PySem.W.Frag} {H H' : Hp} {a : Addr} {xs : List V} (h : SqL K H a xs) (e : ∀ b o, H b = some o → H' b = some o) : SqL K H' a xs := by
  rcases h with (h | ⟨o, h⟩) | h
  · exact .inl (.inl (e _ _ h))
  · exact .inl (.inr ⟨o, e _ _ h⟩)
  · exact .inr h
/-- script[lo:hi] -/
theorem wp_sliceScr {ns : List Int} (hS : SqL X.K c.H0 c.hp (ns.map V.int)) (hW : c.W = []) (h : WPe X c a Γ fun ra => ra = .hand ∧ WPo X c lo Γ fun o1 => WPo X c hi Γ fun o2 => K (.own (.lst (cutD (ns.map D.int) o1 o2)))) : WPe X c (.Subscript a (.Slice lo hi none p2) pos) Γ K := fun F H stk S σ hl E Q q => by
  refine we_of (pe_slice sl_list pe_we po_wo po_wo) ?_
  refine h F H stk S σ hl E _ fun x ra F1 H1 k1 E1 => ?_
  obtain ⟨rfl, k1⟩ := k1
  refine k1 F1 H1 (some x :: stk) (.hand :: S) σ (by simp [hl]) E1 _ fun o1 F2 H2 k2 E2 => ?_
  refine k2 F2 H2 (some x :: stk) (.hand :: S) σ (by simp [hl]) E2 _ fun o2 F3 H3 k3 E3 => ?_
  have ex : x = .ref c.hp := by
    have := E3.hand (i := 0) rfl
    simpa using this
  subst ex
  have hS3 : SqL X.K H3 c.hp (ns.map V.int) := sql_mono hS fun b o z => E3.fr b o z (by rw [hW]; exact List.not_mem_nil)
  exact ⟨c.hp, ns.map V.int, rfl, hS3, fun p3 hp3 => q _ (.own (.lst (cutD (ns.map D.int) o1 o2))) _ _ k3 (EnvR.pushOwn (σ := stk ++ σ) (Γ := S ++ Γ) E3.pop hp3 ⟨_, upd_same, (Dats.of_ints ns).cut o1 o2⟩)⟩
end
section
variable {c : C0} {F H : Hp} {σ : L2.St} {Γ : List Sl}
/-- two own ones lie apart -/
theorem EnvR.apart (E : EnvR c F H σ Γ) {i j : Nat} {d1 d2 : D} {p q : Addr} (h1 : Γ[i]? = some (.own d1)) (h2 : Γ[j]? = some (.own d2)) (e1 : σ[i]? = some (some (.ref p))) (e2 : σ[j]? = some (some (.ref q))) (hn : i ≠ j) : p ≠ q := by
  obtain ⟨fp, g1, g2⟩ := E.sl
  obtain ⟨x, hx, p', f1, z1, _⟩ := g1 i _ h1
  obtain ⟨y, hy, q', f2, z2, _⟩ := g1 j _ h2
  rw [e1] at hx
  rw [e2] at hy
  cases hx
  cases hy
  cases z1
  cases z2
  intro e
  subst e
  exact hn (g2 i j p (by rw [f1]; exact List.mem_cons_self ..) (by rw [f2]; exact List.mem_cons_self ..)).1
/-- a new start, where nothing is own -/
theorem EnvR.reb (E : EnvR c F H σ Γ) (hno : ∀ s ∈ Γ, ownS s = false ∧ isv s = false) {H1 : Hp} (e : Ex F H1) (hk : c.hok H1) : EnvR { c with F0 := F, H0 := H1 } F H1 σ Γ where
  len := E.len
  ex0 := Ex.refl F
  ex := e
  gr := fun a o z => .inl z
  fr := fun a o z _ => z
  nw := E.nw
  hk := hk
  sl := by
    obtain ⟨fp, g1, g2⟩ := E.sl
    refine ⟨fp, fun i s hs => ?_, g2⟩
    obtain ⟨x, hx, r⟩ := g1 i s hs
    refine ⟨x, hx, ?_⟩
    have hm := hno s (List.mem_of_getElem? hs)
    cases s with
    | any => exact r
    | im d => exact r
    | hand => exact r
    | own d => cases hm.1
    | vw d => cases hm.2
    | deep v o => cases hm.1
    | vo v π o => cases hm.2
end
/-- the rest, told for one end -/
def WPsE (X : Cx) (c : C0) (sts : List Stmt) (Γ : List Sl) (E : Ends) : Prop := ∀ (F H : Hp) (σ : L2.St), EnvS c F H σ Γ → WSs X sts E σ H
theorem wpsE_cons {X : Cx} {c : C0} {Γ : List Sl} {E : Ends} {st : Stmt} {rest : List Stmt} (h : WPst X c st Γ { nx := fun Γ' => WPsE X c rest Γ' E, rt := fun _ => False }) : WPsE X c (st :: rest) Γ E := fun F H σ Ev => by
  refine wss_of (pss_cons ps_ws pss_wss) ?_
  exact h F H σ Ev _ ⟨fun Γ' F' H' σ' q E' => q F' H' σ' E', fun _ _ _ _ z => z.elim, fun _ _ _ _ z => z.elim, fun _ _ _ _ z => z.elim⟩
theorem wpsE_freeze {X : Cx} {c : C0} {Γ : List Sl} {E : Ends} {sts : List Stmt} (i : Nat) {d : DL.D} (hd : Γ[i]? = some (.own d)) (h : WPsE X c sts (Γ.set i (.im d)) E) : WPsE X c sts Γ E := fun F H σ Ev => by
  obtain ⟨F', E'⟩ := Ev.env.freeze hd
  exact h F' H σ ⟨E', Ev.nv.set rfl⟩
end DL

set_option Elab.async false
set_option linter.all false
set_option pp.maxSteps 300
set_option maxRecDepth 100000
set_option maxHeartbeats 2000000
/-! DL13: own trees -/
namespace DL
open PySem PySem.Spec PyProof.Rows L2
mutual
/-- what a tree tells -/
def O.toD : O → D
  | .im d => d
  | .nd .lst l => .lst (O.toDs l)
  | .nd (.dct ks) l => .dct ks (O.toDs l)
  | .nd (.ins _ _) _ => .non
def O.toDs : List O → List D
  | [] => []
  | o :: r => o.toD :: O.toDs r
end
mutual
/-- no instance in it -/
def O.plain : O → Bool
  | .im _ => true
  | .nd .lst l => O.plains l
  | .nd (.dct _) l => O.plains l
  | .nd (.ins _ _) _ => false
def O.plains : List O → Bool
  | [] => true
  | o :: r => o.plain && O.plains r
end
theorem toDs_eq : ∀ l : List O, O.toDs l = l.map O.toD
  | [] => rfl
  | o :: r => by rw [O.toDs, toDs_eq r]; rfl
theorem plains_of : ∀ {l : List O}, (∀ o ∈ l, o.plain = true) → O.plains l = true
  | [], _ => rfl
  | o :: r, h => by
    rw [O.plains, h o (List.mem_cons_self ..), plains_of fun x hx => h x (List.mem_cons_of_mem _ hx)]
    rfl
theorem toDs_im : ∀ l : List D, O.toDs (l.map O.im) = l
  | [] => rfl
  | d :: r => by rw [List.map_cons, O.toDs, toDs_im r]; rfl
theorem plains_im : ∀ l : List D, O.plains (l.map O.im) = true
  | [] => rfl
  | d :: r => by rw [List.map_cons, O.plains, plains_im r]; rfl
section
variable {F G H H' : Hp}
theorem OwnTs.length : ∀ {l : List O} {vs : List V} {fp : List Addr}, OwnTs F H l vs fp → vs.length = l.length
  | [], vs, fp, h => by rw [h.1]; rfl
  | o :: r, vs, fp, h => by
    obtain ⟨v, w, f1, f2, rfl, _, _, h2⟩ := h
    rw [List.length_cons, List.length_cons, OwnTs.length h2]
theorem OwnTs.ims : ∀ {l : List D} {vs : List V}, Dats F l vs → OwnTs F H (l.map O.im) vs []
  | [], vs, h => ⟨h, rfl⟩
  | d :: r, vs, h => by
    obtain ⟨v, w, rfl, h1, h2⟩ := h
    exact ⟨v, w, [], [], rfl, rfl, ⟨rfl, h1⟩, OwnTs.ims h2⟩
mutual
/-- a tree whose nodes are known is known data -/
theorem OwnT.dat (e : Ex F G) : ∀ {o : O} {v : V} {fp : List Addr}, OwnT F H o v fp → o.plain = true → (∀ a ∈ fp, G a = H a) → Dat G o.toD v
  | .im d, v, fp, h, _, _ => h.2.mono e
  | .nd k l, v, fp, h, hp, g => by
    obtain ⟨p, dx, vs, fq, rfl, rfl, h1, h2, h3⟩ := h
    have gp : G p = some (k.ho dx vs) := by rw [g p (List.mem_cons_self ..), h1]
    cases k with
    | lst => exact ⟨p, vs, rfl, gp, OwnTs.dats e h3 hp fun a z => g a (List.mem_cons_of_mem _ z)⟩
    | dct ks => exact ⟨p, vs, rfl, gp, by rw [toDs_eq, List.length_map]; exact h2, OwnTs.dats e h3 hp fun a z => g a (List.mem_cons_of_mem _ z)⟩
    | ins C ns => cases hp
theorem OwnTs.dats (e : Ex F G) : ∀ {l : List O} {vs : List V} {fp : List Addr}, OwnTs F H l vs fp → O.plains l = true → (∀ a ∈ fp, G a = H a) → Dats G (O.toDs l) vs
  | [], vs, fp, h, _, _ => h.1
  | o :: r, vs, fp, h, hp, g => by
    obtain ⟨v, w, f1, f2, rfl, rfl, h1, h2⟩ := h
    rw [O.plains, Bool.and_eq_true] at hp
    exact ⟨v, w, rfl, OwnT.dat e h1 hp.1 fun a z => g a (List.mem_append_left _ z), OwnTs.dats e h2 hp.2 fun a z => g a (List.mem_append_right _ z)⟩
end
/-- one of some trees, and the others around it -/
theorem OwnTs.split : ∀ {l : List O} {vs : List V} {fp : List Addr} {n : Nat} {o : O}, OwnTs F H l vs fp → l[n]? = some o →
    ∃ u fa fb fc, vs[n]? = some u ∧ fp = fa ++ (fb ++ fc) ∧ OwnT F H o u fb ∧ ∀ (F' H' : Hp) (o' : O) (u' : V) (fb' : List Addr), Ex F F' → (∀ a, a ∈ fa ∨ a ∈ fc → H' a = H a) → OwnT F' H' o' u' fb' → OwnTs F' H' (l.set n o') (vs.set n u') (fa ++ (fb' ++ fc))
  | [], vs, fp, n, o, h, e => by simp at e
  | o1 :: r, vs, fp, 0, o, h, e => by
    obtain ⟨v, w, f1, f2, rfl, rfl, h1, h2⟩ := h
    have eo : o1 = o := by simpa using e
    subst eo
    exact ⟨v, [], f1, f2, rfl, rfl, h1, fun F' H' o' u' fb' ex k h' => ⟨u', w, fb', f2, rfl, rfl, h', h2.mono ex fun a z => k a (.inr z)⟩⟩
  | o1 :: r, vs, fp, n + 1, o, h, e => by
    obtain ⟨v, w, f1, f2, rfl, rfl, h1, h2⟩ := h
    obtain ⟨u, fa, fb, fc, e1, rfl, e3, e4⟩ := OwnTs.split (n := n) h2 (by simpa using e)
    refine ⟨u, f1 ++ fa, fb, fc, by simpa using e1, by rw [List.append_assoc], e3, fun F' H' o' u' fb' ex k h' => ?_⟩
    exact ⟨v, w.set n u', f1, fa ++ (fb' ++ fc), rfl, by rw [List.append_assoc], h1.mono ex fun a z => k a (.inl (List.mem_append_left _ z)), e4 F' H' o' u' fb' ex (fun a z => k a (z.imp (fun y => List.mem_append_right _ y) id)) h'⟩
theorem OwnTs.append : ∀ {l m : List O} {vs ws : List V} {fp fq : List Addr}, OwnTs F H l vs fp → OwnTs F H m ws fq → OwnTs F H (l ++ m) (vs ++ ws) (fp ++ fq)
  | [], m, vs, ws, fp, fq, h, t => by
    obtain ⟨rfl, rfl⟩ := h
    exact t
  | o :: r, m, vs, ws, fp, fq, h, t => by
    obtain ⟨v, w, f1, f2, rfl, rfl, h1, h2⟩ := h
    exact ⟨v, w ++ ws, f1, f2 ++ fq, rfl, by rw [List.append_assoc], h1, OwnTs.append h2 t⟩
theorem OwnTs.one {o : O} {v : V} {fp : List Addr} (h : OwnT F H o v fp) : OwnTs F H [o] [v] fp := ⟨v, [], fp, [], rfl, by rw [List.append_nil], h, rfl, rfl⟩
theorem kids_ho {k : Nd} {dx : Addr} {vs : List V} {n : Nat} (h : k.fits n) (hv : vs.length = n) : kids (k.ho dx vs) = vs := by
  cases k with
  | lst => rfl
  | dct ks =>
    have h' : ks.length = n := h
    exact List.map_snd_zip (by omega)
  | ins C ns =>
    have h' : ns.length = n := h
    exact List.map_snd_zip (by omega)
end
/-- what stands at a place of a tree -/
def O.sub : O → List Nat → Option O
  | o, [] => some o
  | .im _, _ :: _ => none
  | .nd _ l, n :: π => match l[n]? with
    | some o => o.sub π
    | none => none
termination_by _ π => π.length
/-- something else at a place of a tree -/
def O.put : O → List Nat → O → O
  | _, [], t => t
  | .im d, _ :: _, _ => .im d
  | .nd k l, n :: π, t => match l[n]? with
    | some o => .nd k (l.set n (o.put π t))
    | none => .nd k l
termination_by _ π _ => π.length
theorem sub_nil (o : O) : o.sub [] = some o := by unfold O.sub; rfl
theorem put_nil (o t : O) : o.put [] t = t := by unfold O.put; rfl
theorem sub_cons {k : Nd} {l : List O} {n : Nat} {π : List Nat} {o : O} (h : l[n]? = some o) : (O.nd k l).sub (n :: π) = o.sub π := by
  rw [O.sub, h]
theorem put_cons {k : Nd} {l : List O} {n : Nat} {π : List Nat} {o t : O} (h : l[n]? = some o) : (O.nd k l).put (n :: π) t = .nd k (l.set n (o.put π t)) := by
  rw [O.put, h]
theorem Adr.snoc {W : List Addr} {H : Hp} {w : V} {p : Addr} {h : HO} {n : Nat} {u : V} (hp : p ∉ W) (hH : H p = some h) (hu : (kids h)[n]? = some u) : ∀ {π : List Nat} {v : V}, Adr W H v π (.ref p) → Adr W H v (π ++ [n]) u
  | [], v, e => ⟨p, h, u, e.symm, hp, hH, hu, rfl⟩
  | m :: π, v, e => by
    obtain ⟨q, g, x, e1, e2, e3, e4, e5⟩ := e
    exact ⟨q, g, x, e1, e2, e3, e4, Adr.snoc (w := w) hp hH hu e5⟩
theorem sub_snoc {n : Nat} {t : O} : ∀ {π : List Nat} {o : O} {k : Nd} {l : List O}, o.sub π = some (.nd k l) → l[n]? = some t → o.sub (π ++ [n]) = some t
  | [], o, k, l, h, e => by
    rw [sub_nil] at h
    cases h
    rw [List.nil_append, sub_cons e, sub_nil]
  | m :: π, .im d, k, l, h, e => by
    rw [O.sub] at h
    cases h
  | m :: π, .nd k' l', k, l, h, e => by
    cases q : l'[m]? with
    | none =>
      rw [O.sub, q] at h
      cases h
    | some o' =>
      rw [sub_cons q] at h
      rw [List.cons_append, sub_cons q]
      exact sub_snoc h e
section
variable {F H : Hp}
/-- the place of a tree at which a way ends: what stands there, and what a change there makes of the tree -/
theorem OwnT.at {W : List Addr} {t : O} {w : V} : ∀ {π : List Nat} {o : O} {v : V} {fp : List Addr}, OwnT F H o v fp → o.sub π = some t → Adr W H v π w →
    ∃ f1, OwnT F H t w f1 ∧ (∀ a ∈ f1, a ∈ fp) ∧ (fp.Nodup → f1.Nodup) ∧ ∀ (F' H' : Hp) (t' : O) (f1' fx : List Addr), Ex F F' → (∀ a ∈ fp, a ∉ f1 → H' a = H a) → OwnT F' H' t' w f1' → (∀ a ∈ f1', a ∈ f1 ∨ a ∈ fx) → (∀ a ∈ fx, a ∉ fp) → f1'.Nodup → fp.Nodup →
      ∃ fp', OwnT F' H' (o.put π t') v fp' ∧ fp'.Nodup ∧ ∀ a ∈ fp', a ∈ fp ∨ a ∈ fx
  | [], o, v, fp, h, hs, ha => by
    rw [sub_nil] at hs
    cases hs
    have ha : w = v := ha
    subst ha
    exact ⟨fp, h, fun a z => z, id, fun F' H' t' f1' fx _ _ h' hx _ hn _ => ⟨f1', by rw [put_nil]; exact h', hn, hx⟩⟩
  | n :: π, .im d, v, fp, h, hs, ha => by
    rw [O.sub] at hs
    cases hs
  | n :: π, .nd k l, v, fp, h, hs, ha => by
    obtain ⟨p, dx, vs, fq, rfl, rfl, h1, h2, h3⟩ := h
    obtain ⟨q, g, u, e1, e2, e3, e4, e5⟩ := ha
    cases e1
    rw [h1] at e3
    cases e3
    rw [kids_ho h2 h3.length] at e4
    cases q : l[n]? with
    | none =>
      rw [O.sub, q] at hs
      cases hs
    | some o =>
      rw [sub_cons q] at hs
      obtain ⟨u', fa, fb, fc, g1, rfl, g3, g4⟩ := h3.split q
      rw [e4] at g1
      cases g1
      obtain ⟨f1, r1, r2, r3, r4⟩ := OwnT.at g3 hs e5
      have fbIn : ∀ a ∈ fb, a ∈ p :: (fa ++ (fb ++ fc)) := fun a z => by simp [z]
      refine ⟨f1, r1, fun a z => fbIn a (r2 a z), fun z => r3 ?_, fun F' H' t' f1' fx ex hk h' hx hd hn hnd => ?_⟩
      · have z1 := (List.nodup_cons.mp z).2
        exact (List.nodup_append.mp (List.nodup_append.mp z1).2.1).1
      · have z0 := List.nodup_cons.mp hnd
        have z1 := List.nodup_append.mp z0.2
        have z2 := List.nodup_append.mp z1.2.1
        obtain ⟨fb', s1, s2, s3⟩ := r4 F' H' t' f1' fx ex (fun a z => hk a (fbIn a z)) h' hx (fun a z y => hd a z (fbIn a y)) hn z2.1
        have hout : ∀ a, a ∈ p :: (fa ++ (fb ++ fc)) → a ∉ fb → H' a = H a := fun a z y => hk a z fun x => y (r2 a x)
        have pfb : p ∉ fb := fun z => z0.1 (by simp [z])
        have hfa : ∀ a ∈ fa, a ∉ fb := fun a z y => z1.2.2 a z a (List.mem_append_left _ y) rfl
        have hfc : ∀ a ∈ fc, a ∉ fb := fun a z y => z2.2.2 a y a z rfl
        have key := g4 F' H' (o.put π t') u fb' ex (fun a z => z.elim (fun y => hout a (by simp [y]) (hfa a y)) fun y => hout a (by simp [y]) (hfc a y)) s1
        rw [show vs.set n u = vs from by
          obtain ⟨hlt, hg⟩ := List.getElem?_eq_some_iff.mp e4
          rw [← hg, List.set_getElem_self]] at key
        refine ⟨p :: (fa ++ (fb' ++ fc)), ?_, ?_, fun a z => ?_⟩
        · rw [put_cons q]
          exact ⟨p, dx, vs, _, rfl, rfl, by rw [hout p (List.mem_cons_self ..) pfb]; exact h1, by rw [List.length_set]; exact h2, key⟩
        · have sub : ∀ a ∈ fb', a ∉ fa ∧ a ∉ fc ∧ a ≠ p := fun a z => by
            rcases s3 a z with y | y
            · exact ⟨fun x => hfa a x y, fun x => hfc a x y, fun x => pfb (by rw [← x]; exact y)⟩
            · have := hd a y
              simp at this
              exact ⟨this.2.1, this.2.2.2, this.1⟩
          refine List.nodup_cons.mpr ⟨fun z => ?_, List.nodup_append.mpr ⟨z1.1, List.nodup_append.mpr ⟨s2, z2.2.1, fun a y b x e => (sub a y).2.1 (by rw [e]; exact x)⟩, fun a y b x e => ?_⟩⟩
          · rcases List.mem_append.mp z with y | y
            · exact z0.1 (by simp [y])
            · rcases List.mem_append.mp y with y | y
              · exact (sub p y).2.2 rfl
              · exact z0.1 (by simp [y])
          · rcases List.mem_append.mp x with x | x
            · exact (sub b x).1 (by rw [← e]; exact y)
            · exact z1.2.2 a y b (List.mem_append_right _ x) e
        · rcases List.mem_cons.mp z with y | y
          · exact .inl (by simp [y])
          · rcases List.mem_append.mp y with y | y
            · exact .inl (by simp [y])
            · rcases List.mem_append.mp y with y | y
              · exact (s3 a y).imp (fbIn a) id
              · exact .inl (by simp [y])
end
/-- what a slot's value is as a tree -/
def ownO : D → Option O
  | .lst l => some (.nd .lst (l.map O.im))
  | .dct ks l => some (.nd (.dct ks) (l.map O.im))
  | _ => none
def toO : Sl → Option O
  | .im d => some (.im d)
  | .own d => ownO d
  | .deep _ o => some o
  | _ => none
section
variable {c : C0} {F H : Hp} {x : Option V} {fp : List Addr}
theorem Own.tree {p : Addr} {d : D} {o : O} (h : Own F H p d) (ho : ownO d = Option.some o) : OwnT F H o (.ref p) [p] := by
  cases d with
  | lst l =>
    cases ho
    obtain ⟨vs, h1, h2⟩ := h
    exact ⟨p, 0, vs, [], rfl, rfl, h1, trivial, OwnTs.ims h2⟩
  | dct ks l =>
    cases ho
    obtain ⟨vs, h1, h3, h2⟩ := h
    exact ⟨p, 0, vs, [], rfl, rfl, h1, by rw [List.length_map]; exact h3, OwnTs.ims h2⟩
  | _ => cases ho
theorem SlR.tree {r : Sl} {o : O} (h : SlR c F H x fp r) (ho : toO r = some o) : ∃ v, x = some v ∧ OwnT F H o v fp ∧ fp.Nodup ∧ ∀ a ∈ fp, F a = none ∧ a ∉ c.W ∧ c.H0 a = none := by
  cases r with
  | im d =>
    cases ho
    obtain ⟨h1, v, h2, h3⟩ := h
    exact ⟨v, h2, ⟨h1, h3⟩, by rw [h1]; exact List.nodup_nil, fun a z => by rw [h1] at z; cases z⟩
  | own d =>
    obtain ⟨p, h1, h2, h3, h4⟩ := h
    subst h1
    exact ⟨.ref p, h2, h3.tree ho, by simp, fun a z => by rw [List.mem_singleton.mp z]; exact h4⟩
  | deep v o' =>
    cases ho
    exact ⟨v, h⟩
  | _ => cases ho
end
/-- an environment with its footprints -/
structure EnvF (c : C0) (F H : Hp) (σ : L2.St) (Γ : List Sl) (fp : Nat → List Addr) : Prop where
  len : σ.length = Γ.length
  ex0 : Ex c.F0 F
  ex : Ex F H
  gr : ∀ a o, F a = some o → c.F0 a = some o ∨ c.H0 a = none
  fr : ∀ a o, c.H0 a = some o → a ∉ c.W → H a = some o
  nw : ∀ a ∈ c.W, F a = none
  hk : c.hok H
  sl : ∀ (i : Nat) (s : Sl), Γ[i]? = some s → ∃ x, σ[i]? = some x ∧ SlR c F H x (fp i) s
  dj : ∀ i j p, p ∈ fp i → p ∈ fp j → i = j ∧ i < Γ.length
section
variable {c : C0} {F H : Hp} {σ : L2.St} {Γ : List Sl} {fp : Nat → List Addr}
theorem EnvR.foot (E : EnvR c F H σ Γ) : ∃ fp, EnvF c F H σ Γ fp := by
  obtain ⟨fp, h1, h2⟩ := E.sl
  exact ⟨fp, E.len, E.ex0, E.ex, E.gr, E.fr, E.nw, E.hk, h1, h2⟩
theorem EnvF.env (E : EnvF c F H σ Γ fp) : EnvR c F H σ Γ := ⟨E.len, E.ex0, E.ex, E.gr, E.fr, E.nw, E.hk, fp, E.sl, E.dj⟩
theorem EnvF.pop {x : Option V} {s : Sl} (E : EnvF c F H (x :: σ) (s :: Γ) fp) : EnvF c F H σ Γ (fun n => fp (n + 1)) ∧ SlR c F H x (fp 0) s ∧ ∀ a ∈ fp 0, ∀ i, a ∉ fp (i + 1) := by
  refine ⟨⟨by simpa using E.len, E.ex0, E.ex, E.gr, E.fr, E.nw, E.hk, fun i t ht => ?_, fun i j p e1 e2 => ?_⟩, ?_, fun a ha i hb => ?_⟩
  · obtain ⟨y, hy, r⟩ := E.sl (i + 1) t (by simpa using ht)
    exact ⟨y, by simpa using hy, r⟩
  · obtain ⟨z1, z2⟩ := E.dj (i + 1) (j + 1) p e1 e2
    exact ⟨by omega, by simpa using z2⟩
  · obtain ⟨y, hy, r⟩ := E.sl 0 s rfl
    have ey : x = y := by simpa using hy
    rw [ey]
    exact r
  · have := (E.dj 0 (i + 1) a ha hb).1
    omega
/-- a slot tells the same otherwise -/
theorem EnvR.rel {i : Nat} {s t : Sl} (E : EnvR c F H σ Γ) (h : Γ[i]? = some s) (hst : ∀ x fp, σ[i]? = some x → SlR c F H x fp s → SlR c F H x fp t) : EnvR c F H σ (Γ.set i t) := by
  obtain ⟨fp, E⟩ := E.foot
  have hi : i < Γ.length := (List.getElem?_eq_some_iff.mp h).1
  refine ⟨by rw [List.length_set]; exact E.len, E.ex0, E.ex, E.gr, E.fr, E.nw, E.hk, fp, fun j u hu => ?_, fun j k p e1 e2 => by rw [List.length_set]; exact E.dj j k p e1 e2⟩
  by_cases q : j = i
  · subst q
    rw [List.getElem?_set_self hi] at hu
    cases hu
    obtain ⟨y, hy, r⟩ := E.sl j s h
    exact ⟨y, hy, hst y _ hy r⟩
  · rw [List.getElem?_set_ne (Ne.symm q)] at hu
    exact E.sl j u hu
/-- what a slot owns is written, with something own more -/
theorem EnvF.writeX {i : Nat} {s t : Sl} {p : Addr} {o : HO} {x : Option V} {fx fp' : List Addr} (E : EnvF c F H σ Γ fp) (nv : NV Γ) (h : Γ[i]? = some s) (hx : σ[i]? = some x) (hp : p ∈ fp i) (hfx : ∀ a ∈ fx, ∀ j, a ∉ fp j) (hs : ∀ a ∈ fp', a ∈ fp i ∨ a ∈ fx)
    (ht : SlR c F (upd H p o) x fp' t) : EnvR c F (upd H p o) σ (Γ.set i t) := by
  have hi : i < Γ.length := (List.getElem?_eq_some_iff.mp h).1
  obtain ⟨x0, hx0, r0⟩ := E.sl i s h
  obtain ⟨o1, hF, hW, h0⟩ := r0.own hp
  exact {
    len := by rw [List.length_set]; exact E.len
    ex0 := E.ex0
    ex := E.ex.mut hF
    gr := E.gr
    fr := fun a u ha w => by
      rw [upd_ne (fun z => ?_)]
      · exact E.fr a u ha w
      · rw [z, h0] at ha
        cases ha
    nw := E.nw
    hk := c.stab H _ (fun a w => upd_ne (fun z => hW (by rw [← z]; exact w))) (extx_mut (r0.noExt hp)) E.hk
    sl := by
      refine ⟨fun n => if n = i then fp' else fp n, fun j u hu => ?_, fun j k q e1 e2 => ?_⟩
      · by_cases q : j = i
        · subst q
          rw [List.getElem?_set_self hi] at hu
          cases hu
          refine ⟨x, hx, ?_⟩
          dsimp only
          rw [if_pos rfl]
          exact ht
        · rw [List.getElem?_set_ne (Ne.symm q)] at hu
          obtain ⟨y, hy, r⟩ := E.sl j u hu
          refine ⟨y, hy, ?_⟩
          dsimp only
          rw [if_neg q]
          refine r.mono (Ex.refl F) (fun a _ _ z => upd_ne fun e => ?_) fun a ha => (r.own ha).2.1
          subst e
          rcases z with z | z
          · exact q (E.dj j i a z hp).1
          · rw [nv u (List.mem_of_getElem? hu)] at z
            cases z
      · have e1 : q ∈ (if j = i then fp' else fp j) := e1
        have e2 : q ∈ (if k = i then fp' else fp k) := e2
        rw [List.length_set]
        by_cases z : j = i
        · rw [if_pos z] at e1
          by_cases z' : k = i
          · exact ⟨by rw [z, z'], by rw [z]; exact hi⟩
          · rw [if_neg z'] at e2
            rcases hs q e1 with y | y
            · exact absurd (E.dj i k q y e2).1 (Ne.symm z')
            · exact absurd e2 (hfx q y k)
        · rw [if_neg z] at e1
          by_cases z' : k = i
          · rw [if_pos z'] at e2
            rcases hs q e2 with y | y
            · exact absurd (E.dj j i q e1 y).1 z
            · exact absurd e1 (hfx q y j)
          · rw [if_neg z'] at e2
            exact E.dj j k q e1 e2 }
/-- a new node comes on top, with own things below it -/
theorem EnvF.newX {p : Addr} {o : HO} {t : Sl} {x : Option V} {fx fp' : List Addr} (E : EnvF c F H σ Γ fp) (hp : H p = none) (hfx : ∀ a ∈ fx, ∀ j, a ∉ fp j) (hs : ∀ a ∈ fp', a = p ∨ a ∈ fx)
    (ht : F p = none → p ∉ c.W → c.H0 p = none → SlR c F (upd H p o) x fp' t) : EnvR c F (upd H p o) (x :: σ) (t :: Γ) := by
  have hpW : p ∉ c.W := fun w => E.env.wne w hp
  have hF : F p = none := E.ex.back hp
  have h0 : c.H0 p = none := by
    cases q : c.H0 p with
    | none => rfl
    | some u =>
      rw [E.fr p u q hpW] at hp
      cases hp
  have E1 : EnvR c F (upd H p o) σ Γ := E.env.step (Gr.refl F H) (E.ex.mut hF) (fun a u ha _ => by rw [upd_ne (ne_of_none ha hp)]; exact ha)
    (c.stab H _ (fun a w => upd_ne (fun z => hpW (by rw [← z]; exact w))) (extx_new hp) E.hk)
  have fresh : ∀ i, p ∉ fp i := fun i ha => by
    obtain ⟨_, hi⟩ := E.dj i i p ha ha
    obtain ⟨x, _, r⟩ := E.sl i Γ[i] (by simp [hi])
    exact (r.own ha).1 hp
  have dis : ∀ a ∈ fp', ∀ j, a ∉ fp j := fun a ha j => by
    rcases hs a ha with z | z
    · rw [z]
      exact fresh j
    · exact hfx a z j
  refine { len := by simp [E1.len], ex0 := E1.ex0, ex := E1.ex, gr := E1.gr, fr := E1.fr, nw := E1.nw, hk := E1.hk, sl := ?_ }
  refine ⟨fun n => match n with | 0 => fp' | n + 1 => fp n, fun i u hu => ?_, fun i j q e1 e2 => ?_⟩
  · cases i with
    | zero =>
      have e : u = t := by simpa using hu.symm
      subst e
      exact ⟨x, rfl, ht hF hpW h0⟩
    | succ i =>
      obtain ⟨y, hy, r⟩ := E.sl i u (by simpa using hu)
      exact ⟨y, by simpa using hy, r.mono (Ex.refl F) (fun a hn _ _ => upd_ne fun z => hn (by rw [z]; exact hp)) fun a ha => (r.own ha).2.1⟩
  · cases i with
    | zero =>
      cases j with
      | zero => exact ⟨rfl, by simp⟩
      | succ j =>
        have e2' : q ∈ fp j := e2
        exact absurd e2' (dis q e1 j)
    | succ i =>
      have e1' : q ∈ fp i := e1
      cases j with
      | zero => exact absurd e1' (dis q e2 i)
      | succ j =>
        obtain ⟨z1, z2⟩ := E.dj i j q e1 e2
        exact ⟨by rw [z1], by simpa using z2⟩
/-- an own tree is from now on known -/
theorem EnvR.known {i : Nat} {v : V} {o : O} (E : EnvR c F H σ Γ) (h : Γ[i]? = some (.deep v o)) (hp : o.plain = true) : ∃ F', EnvR c F' H σ (Γ.set i (.im o.toD)) := by
  classical
  obtain ⟨fp, Ef⟩ := E.foot
  obtain ⟨x, hx, r1, r2, r3, r4⟩ := Ef.sl i _ h
  let G : Hp := fun a => if a ∈ fp i then H a else F a
  have hG : ∀ a ∈ fp i, G a = H a := fun a ha => if_pos ha
  have eF : Ex F G := fun a u ha => by
    show (if a ∈ fp i then H a else F a) = some u
    rw [if_neg (fun z => by rw [(r4 a z).1] at ha; cases ha)]
    exact ha
  have eG : Ex G H := fun a u ha => by
    have ha' : (if a ∈ fp i then H a else F a) = some u := ha
    by_cases z : a ∈ fp i
    · rw [if_pos z] at ha'
      exact ha'
    · rw [if_neg z] at ha'
      exact E.ex a u ha'
  have hi : i < Γ.length := (List.getElem?_eq_some_iff.mp h).1
  refine ⟨G, { len := by rw [List.length_set]; exact E.len, ex0 := E.ex0.trans eF, ex := eG, gr := fun a u ha => ?_, fr := E.fr, nw := fun a w => ?_, hk := E.hk, sl := ?_ }⟩
  · have ha' : (if a ∈ fp i then H a else F a) = some u := ha
    by_cases z : a ∈ fp i
    · exact .inr (r4 a z).2.2
    · rw [if_neg z] at ha'
      exact E.gr a u ha'
  · show (if a ∈ fp i then H a else F a) = none
    rw [if_neg (fun z => (r4 a z).2.1 w)]
    exact E.nw a w
  · refine ⟨fun n => if n = i then [] else fp n, fun j u hu => ?_, fun j k q e1 e2 => ?_⟩
    · by_cases q : j = i
      · subst q
        rw [List.getElem?_set_self hi] at hu
        cases hu
        refine ⟨x, hx, ?_⟩
        dsimp only
        rw [if_pos rfl]
        exact ⟨rfl, v, r1, r2.dat eF hp hG⟩
      · rw [List.getElem?_set_ne (Ne.symm q)] at hu
        obtain ⟨y, hy, r⟩ := Ef.sl j u hu
        refine ⟨y, hy, ?_⟩
        dsimp only
        rw [if_neg q]
        refine r.mono eF (fun a _ _ _ => rfl) fun a ha => ?_
        show (if a ∈ fp i then H a else F a) = none
        rw [if_neg (fun z => q (Ef.dj j i a ha z).1)]
        exact (r.own ha).2.1
    · have e1 : q ∈ (if j = i then [] else fp j) := e1
      have e2 : q ∈ (if k = i then [] else fp k) := e2
      rw [List.length_set]
      by_cases z : j = i
      · rw [if_pos z] at e1
        cases e1
      · rw [if_neg z] at e1
        by_cases z' : k = i
        · rw [if_pos z'] at e2
          cases e2
        · rw [if_neg z'] at e2
          exact Ef.dj j k q e1 e2
end
end DL

set_option Elab.async false
set_option linter.all false
set_option pp.maxSteps 300
set_option maxRecDepth 100000
set_option maxHeartbeats 2000000
/-! DL14: own trees: reads, displays, stores -/
namespace DL
open PySem PySem.Spec PyProof.Rows L2
/-- what is seen of a tree at a place -/
def seeO (v : V) (π : List Nat) : O → Sl
  | .im d => .im d
  | .nd k l => .vo v π (.nd k l)
section
variable {c : C0} {F H : Hp} {σ : L2.St} {Γ : List Sl}
/-- what a look at a node tells -/
theorem EnvR.voAt (E : EnvR c F H σ Γ) {i : Nat} {v w : V} {π : List Nat} {k : Nd} {l : List O} (h : Γ[i]? = some (.vo v π (.nd k l))) (hw : σ[i]? = some (some w)) : ∃ p dx vs fq, w = .ref p ∧ H p = some (k.ho dx vs) ∧ k.fits l.length ∧ OwnTs F H l vs fq ∧
    ∀ (n : Nat) (o : O), l[n]? = some o → ∃ u, vs[n]? = some u ∧ SlR c F H (some u) [] (seeO v (π ++ [n]) o) := by
  obtain ⟨x, f, hx, _, w', fq', hw', hA, hT, hW⟩ := E.get h
  rw [hw] at hx
  have e := (Option.some.inj hx).trans hw'
  cases e
  obtain ⟨p, dx, vs, fq, rfl, rfl, h1, h2, h3⟩ := hT
  refine ⟨p, dx, vs, fq, rfl, h1, h2, h3, fun n o ho => ?_⟩
  obtain ⟨u, fa, fb, fc, g1, rfl, g3, _⟩ := h3.split ho
  refine ⟨u, g1, ?_⟩
  have hp : p ∉ c.W := hW p (List.mem_cons_self ..)
  have hA' : Adr c.W H v (π ++ [n]) u := hA.snoc (w := .non) hp h1 (by rw [kids_ho h2 h3.length]; exact g1)
  cases o with
  | im d => exact ⟨rfl, u, rfl, g3.2⟩
  | nd k' l' => exact ⟨rfl, u, fb, rfl, hA', g3, fun a z => hW a (by simp [z])⟩
end
section
variable {X : Cx} {c : C0} {K : Sl → Prop} {Γ : List Sl} {D : DEnds} {v : V} {π : List Nat} {a b e e2 recv : Expr} {es : List Expr} {pos p apos cpos : Pos}
theorem xd_vo {l : List O} {i : Int} {n : Nat} {o : O} (hi : ixN l.length i = some n) (ho : l[n]? = some o) (k : K (seeO v (π ++ [n]) o)) : IxD X c (.vo v π (.nd .lst l)) (.im (.int i)) K := fun F H L G x y E Q q value slice pins s σ v' u I rx ry hs => by
  have hy : y = .int i := E.imAt (i := 0) rfl rfl
  subst hy
  obtain ⟨p, dx, vs, fq, e1, h1, h2, h3, h4⟩ := E.voAt (i := 1) (w := x) rfl rfl
  subst e1
  obtain ⟨z, hz, hS⟩ := h4 n o ho
  exact ix_list value slice pins s σ H _ _ v' u Q I rx ry ⟨p, vs, i, z, rfl, rfl, .inl (.inl h1), by unfold atI; rw [h3.length, hi]; exact hz, q z _ F H k (E.pop.pop.pushS hS)⟩ hs
theorem cd_lenVo {l : List O} (k : K (.im (.int l.length))) : CallD X c (.builtin "len") [.vo v π (.nd .lst l)] K := cd_one call_len_seq fun F H L G w E Q q => by
  obtain ⟨p, dx, vs, fq, e1, h1, h2, h3, h4⟩ := E.voAt (i := 0) (w := w) rfl rfl
  exact ⟨p, vs, by rw [e1], .inl (.inl (.inl h1)), by rw [h3.length]; exact q _ (.im (.int l.length)) F H k (E.pop.push rfl)⟩
/-- an own object is from now on a tree -/
theorem wps_deep {sts : List Stmt} (i : Nat) {d : DL.D} {o : O} (hd : Γ[i]? = some (.own d)) (ho : ownO d = some o) (h : ∀ v, WPs X c sts (Γ.set i (.deep v o)) D) : WPs X c sts Γ D := fun F H σ E Dd ok => by
  obtain ⟨p, hp, _⟩ := E.env.own hd
  refine h (.ref p) F H σ ⟨E.env.rel hd fun x fp hx r => ?_, E.nv.set rfl⟩ Dd ok
  obtain ⟨q, h1, h2, h3, h4⟩ := r
  rw [hp] at hx
  rw [← Option.some.inj hx] at h2 ⊢
  cases h2
  subst h1
  exact ⟨rfl, h3.tree ho, by simp, fun a z => by rw [List.mem_singleton.mp z]; exact h4⟩
/-- an own tree will not change from here on -/
theorem wps_known {sts : List Stmt} (i : Nat) {o : O} (hd : Γ[i]? = some (.deep v o)) (hp : o.plain = true) (h : WPs X c sts (Γ.set i (.im o.toD)) D) : WPs X c sts Γ D := fun F H σ E Dd ok => by
  obtain ⟨F', E'⟩ := E.env.known hd hp
  exact h F' H σ ⟨E', E.nv.set rfl⟩ Dd ok
/-- [a, b], with an own b -/
theorem wp_lstO2 (h : WPe X c a Γ fun ra => ∃ d, frz ra = .im d ∧ WPe X c b Γ fun rb => ∃ o, toO rb = some o ∧ ∀ v, K (.deep v (.nd .lst [.im d, o]))) (hs : starEach [a, b] X.env = (false, eval a X.env) :: starEach [b] X.env := by rfl) (hs2 : starEach [b] X.env = (false, eval b X.env) :: starEach [] X.env := by rfl) : WPe X c (.List [a, b] pos) Γ K := fun F H stk S σ hl E Q q => by
  refine we_of (pe_lst (pa_cons pe_we (pa_cons pe_we pa_nil hs2) hs)) ?_
  refine h F H stk S σ hl E _ fun x ra F1 H1 k1 E1 => ?_
  obtain ⟨d, hd, k1⟩ := k1
  obtain ⟨F2, E2⟩ := E1.frzTop
  rw [hd] at E2
  refine k1 F2 H1 (some x :: stk) (.im d :: S) σ (by simp [hl]) E2 _ fun y rb F3 H3 k3 E3 => ?_
  obtain ⟨o, ho, k3⟩ := k3
  refine ⟨by show 2 ≤ sizeLine; decide, fun p hp => q _ _ F3 _ (k3 (.ref p)) ?_⟩
  have hdat : Dat F3 d x := E3.imAt (i := 1) rfl rfl
  obtain ⟨fp, Ef⟩ := E3.foot
  obtain ⟨E4, r0, dis⟩ := Ef.pop
  obtain ⟨E5, r1, _⟩ := E4.pop
  obtain ⟨u, hu, hT, hN, hO⟩ := r0.tree ho
  cases hu
  refine E5.newX (fx := fp 0) (fp' := p :: fp 0) hp (fun a ha j => dis a ha (j + 1)) (fun a ha => by simpa using ha) fun z1 z2 z3 => ⟨rfl, ?_, ?_, fun a ha => ?_⟩
  · refine ⟨p, 0, [x, y], fp 0, rfl, rfl, upd_same, trivial, x, [y], [], fp 0, rfl, rfl, ⟨rfl, hdat⟩, OwnTs.one (hT.mono (Ex.refl _) fun a ha => upd_ne fun z => hT.ne a ha (by rw [z]; exact hp))⟩
  · exact List.nodup_cons.mpr ⟨fun z => hT.ne p z hp, hN⟩
  · rcases List.mem_cons.mp ha with z | z
    · rw [z]
      exact ⟨z1, z2, z3⟩
    · exact hO a z
/-- t.append(e), t a list within an own tree -/
theorem wst_appendT (i : Nat) {o : O} (hΓ : Γ[i]? = some (.deep v o)) (h : WPe X c recv Γ fun r => ∃ π l, r = .vo v π (.nd .lst l) ∧ o.sub π = some (.nd .lst l) ∧ l.length < sizeLine ∧ WPe X c e Γ fun r2 => ∃ t, toO r2 = some t ∧ D.nx (Γ.set i (.deep v (o.put π (.nd .lst (l ++ [t]))))))
    (hbase : attributeBase recv "append" X.env (eval recv X.env) = eval recv X.env := by rfl)
    (hfew : ((backTo cpos (starEach [e] X.env)).all (fun x => !x.1) && (backToKw cpos (keywordEach [] X.env)).all (fun x => x.1.isSome) && decide ([e].length + ([] : List Keyword).length + (if ([] : List Keyword).isEmpty then 0 else 1) < 30)) = true := by rfl)
    (hline : (apos.endLine == cpos.line) = true := by rfl) (hs : starEach [e] X.env = (false, eval e X.env) :: starEach [] X.env := by rfl) (hplain : (backTo cpos (starEach [] X.env)).any (·.1) = false := by rfl) (hsw : swapsWith (.Call (.Attribute recv "append" apos) [e] [] cpos) none pos.line X.env = pure false := by rfl) :
    WPst X c (.Expr (.Call (.Attribute recv "append" apos) [e] [] cpos) pos) Γ D := fun F H σ E Ee ok => by
  refine ws_of (ps_expr (pe_bm PySem.F.plainAttrs_list PySem.F.slot_list_append PySem.F.type_list_append mt_append pe_we (pa_cons pe_we pa_nil hs) hbase hfew hline hs hplain) hsw) ?_
  refine h F H [] [] σ rfl E.env _ fun w r F1 H1 k1 E1 => ?_
  obtain ⟨π, l, rfl, hsub, hz, k1⟩ := k1
  obtain ⟨p1, dx1, vs1, fq1, e1, g1, _⟩ := E1.voAt (i := 0) (w := w) rfl rfl
  subst e1
  refine ⟨.inl ⟨rfl, vs1, .inl (.inl g1)⟩, ?_⟩
  refine k1 F1 H1 [some (.ref p1)] [_] σ rfl E1 _ fun y r2 F2 H2 k2 E2 => ?_
  obtain ⟨t, ht, k2⟩ := k2
  obtain ⟨fp, Ef⟩ := E2.foot
  obtain ⟨E3, r0, dis⟩ := Ef.pop
  obtain ⟨E4, rv, _⟩ := E3.pop
  obtain ⟨u, hu, hT, hN, hO⟩ := r0.tree ht
  cases hu
  obtain ⟨_, w', fq', hw', hA, _, _⟩ := rv
  cases hw'
  obtain ⟨x, hx, hv, hTr, hNr, hOr⟩ := E4.sl i _ hΓ
  subst hv
  obtain ⟨f1, a1, a2, a3, a4⟩ := hTr.at hsub hA
  obtain ⟨p, dx, vs, fq, e5, rfl, g2, g3, g4⟩ := a1
  cases e5
  have hn1 := a3 hNr
  have dis2 : ∀ a ∈ fp 0, ∀ j, a ∉ fp (j + 1 + 1) := fun a ha j => dis a ha (j + 1)
  have hpi : p1 ∈ fp (i + 1 + 1) := a2 p1 (List.mem_cons_self ..)
  have hpq : p1 ∉ fq := (List.nodup_cons.mp hn1).1
  have hp0 : p1 ∉ fp 0 := fun z => dis2 p1 z i hpi
  have hlen := g4.length
  have hnew : OwnT F2 (L2.upd H2 p1 (.lst (vs ++ [y]))) (.nd .lst (l ++ [t])) (.ref p1) (p1 :: (fq ++ fp 0)) := ⟨p1, dx, vs ++ [y], fq ++ fp 0, rfl, rfl, upd_same, trivial, (g4.mono (Ex.refl _) fun a z => upd_ne fun e => hpq (by rw [← e]; exact z)).append (OwnTs.one (hT.mono (Ex.refl _) fun a z => upd_ne fun e => hp0 (by rw [← e]; exact z)))⟩
  have hnn : (p1 :: (fq ++ fp 0)).Nodup := List.nodup_cons.mpr ⟨fun z => (List.mem_append.mp z).elim hpq hp0, List.nodup_append.mpr ⟨(List.nodup_cons.mp hn1).2, hN, fun a x b y e => by
    subst e
    exact dis2 a y i (a2 a (List.mem_cons_of_mem _ x))⟩⟩
  obtain ⟨fp', b1, b2, b3⟩ := a4 F2 (L2.upd H2 p1 (.lst (vs ++ [y]))) (.nd .lst (l ++ [t])) (p1 :: (fq ++ fp 0)) (fp 0) (Ex.refl _) (fun a _ z => upd_ne fun e => z (by rw [e]; exact List.mem_cons_self ..)) hnew (fun a z => by
    rcases List.mem_cons.mp z with z | z
    · exact .inl (by rw [z]; exact List.mem_cons_self ..)
    · rcases List.mem_append.mp z with z | z
      · exact .inl (List.mem_cons_of_mem _ z)
      · exact .inr z) (fun a z => dis2 a z i) hnn hNr
  refine ⟨p1, vs, y, rfl, rfl, g2, by rw [hlen]; exact hz, ok.nx _ F2 _ σ k2 ⟨?_, E.nv.set rfl⟩⟩
  exact E4.writeX E.nv hΓ hx hpi dis2 b3 ⟨rfl, b1, b2, fun a z => (b3 a z).elim (fun y => hOr a y) fun y => hO a y⟩
/-- t[n] = e, t a list within an own tree -/
theorem wst_lputT (i : Nat) {ie : Expr} {p2 : Pos} {o : O} (hΓ : Γ[i]? = some (.deep v o)) (h : WPe X c e Γ fun r => ∃ t, toO r = some t ∧ WPe X c recv Γ fun r1 => ∃ π l, r1 = .vo v π (.nd .lst l) ∧ o.sub π = some (.nd .lst l) ∧ WPe X c ie Γ fun r2 => ∃ (j : Int) (n : Nat), r2 = .im (.int j) ∧ ixN l.length j = some n ∧ D.nx (Γ.set i (.deep v (o.put π (.nd .lst (l.set n t))))))
    (ha : ∀ v, assign (.Subscript recv ie p2) X.env v = (do
      let ov ← holding [v] (eval recv X.env)
      let iv ← holding [v, ov] (eval ie X.env)
      standAt p2
      holding [v, ov, iv] (setItem ov iv v)
      release [v, ov, iv] []) := by intro _; rfl) (hs1 : swapsWithSole [.Subscript recv ie p2] e pos.line X.env = pure false := by rfl) (hs2 : swappedStores [.Subscript recv ie p2] e X.env = pure none := by rfl)
    (hs3 : (assignEach [.Subscript recv ie p2] X.env).map (·.2) = [assign (.Subscript recv ie p2) X.env] := by rfl) : WPst X c (.Assign [.Subscript recv ie p2] e pos) Γ D := fun F H σ E Ee ok => by
  refine ws_of (ps_asg pe_we (pg_sub pe_we pe_we set_list ha) hs1 hs2 hs3) ?_
  refine h F H [] [] σ rfl E.env _ fun y r F1 H1 k1 E1 => ?_
  obtain ⟨t, ht, k1⟩ := k1
  refine k1 F1 H1 [some y] [r] σ rfl E1 _ fun w r1 F2 H2 k2 E2 => ?_
  obtain ⟨π, l, rfl, hsub, k2⟩ := k2
  obtain ⟨p1, dx1, vs1, fq1, e1, g1, _⟩ := E2.voAt (i := 0) (w := w) rfl rfl
  subst e1
  refine k2 F2 H2 [some (.ref p1), some y] [_, r] σ rfl E2 _ fun z r2 F3 H3 k3 E3 => ?_
  obtain ⟨j, n, rfl, hj, k3⟩ := k3
  have hz : z = .int j := E3.imAt (i := 0) rfl rfl
  subst hz
  have E3' : EnvR c F3 H3 (some (.ref p1) :: some y :: σ) (.vo v π (.nd .lst l) :: r :: Γ) := E3.pop
  obtain ⟨fp, Ef⟩ := E3'.foot
  obtain ⟨E4, rv, _⟩ := Ef.pop
  obtain ⟨E5, r0, dis⟩ := E4.pop
  obtain ⟨u, hu, hT, hN, hO⟩ := r0.tree ht
  cases hu
  obtain ⟨_, w', fq', hw', hA, _, _⟩ := rv
  cases hw'
  obtain ⟨x, hx, hv, hTr, hNr, hOr⟩ := E5.sl i _ hΓ
  subst hv
  obtain ⟨f1, a1, a2, a3, a4⟩ := hTr.at hsub hA
  obtain ⟨p, dx, vs, fq, e5, rfl, g2, g3, g4⟩ := a1
  cases e5
  have hn1 := a3 hNr
  have hpi : p1 ∈ fp (i + 1 + 1) := a2 p1 (List.mem_cons_self ..)
  have hpq : p1 ∉ fq := (List.nodup_cons.mp hn1).1
  have hp0 : p1 ∉ fp 1 := fun z => dis p1 z (i) hpi
  have hlen := g4.length
  have hnl : n < l.length := (ixN_seq hj).2.1
  obtain ⟨u0, fa, fb, fc, c1, rfl, c3, c4⟩ := g4.split (n := n) (o := l[n]) (by simp [hnl])
  have hq := List.nodup_append.mp (List.nodup_cons.mp hn1).2
  have hq2 := List.nodup_append.mp hq.2.1
  have hab : ∀ a, a ∈ fa ∨ a ∈ fc → a ∈ fp (i + 1 + 1) := fun a z => a2 a (by
    rcases z with z | z <;> simp [z])
  have hnew : OwnT F3 (L2.upd H3 p1 (.lst (vs.set n y))) (.nd .lst (l.set n t)) (.ref p1) (p1 :: (fa ++ (fp 1 ++ fc))) := ⟨p1, dx, vs.set n y, _, rfl, rfl, upd_same, trivial, c4 F3 _ t y (fp 1) (Ex.refl _) (fun a z => upd_ne fun e => hpq (by rw [← e]; rcases z with z | z <;> simp [z])) (hT.mono (Ex.refl _) fun a z => upd_ne fun e => hp0 (by rw [← e]; exact z))⟩
  have hnn : (p1 :: (fa ++ (fp 1 ++ fc))).Nodup := by
    refine List.nodup_cons.mpr ⟨fun z => ?_, List.nodup_append.mpr ⟨hq.1, List.nodup_append.mpr ⟨hN, hq2.2.1, fun a x b y e => ?_⟩, fun a x b y e => ?_⟩⟩
    · rcases List.mem_append.mp z with z | z
      · exact hpq (by simp [z])
      · rcases List.mem_append.mp z with z | z
        · exact hp0 z
        · exact hpq (by simp [z])
    · subst e
      exact dis a x i (hab a (.inr y))
    · subst e
      rcases List.mem_append.mp y with y | y
      · exact dis a y i (hab a (.inl x))
      · exact hq.2.2 a x a (List.mem_append_right _ y) rfl
  obtain ⟨fp', b1, b2, b3⟩ := a4 F3 (L2.upd H3 p1 (.lst (vs.set n y))) (.nd .lst (l.set n t)) (p1 :: (fa ++ (fp 1 ++ fc))) (fp 1) (Ex.refl _) (fun a _ z => upd_ne fun e => z (by rw [e]; exact List.mem_cons_self ..)) hnew (fun a z => by
    rcases List.mem_cons.mp z with z | z
    · exact .inl (by rw [z]; exact List.mem_cons_self ..)
    · rcases List.mem_append.mp z with z | z
      · exact .inl (by simp [z])
      · rcases List.mem_append.mp z with z | z
        · exact .inr z
        · exact .inl (by simp [z])) (fun a z => dis a z i) hnn hNr
  refine ⟨p1, vs, j, n, rfl, rfl, g2, by rw [hlen]; exact hj, ok.nx _ F3 _ σ k3 ⟨?_, E.nv.set rfl⟩⟩
  exact E5.writeX E.nv hΓ hx hpi (fun a z => dis a z) b3 ⟨rfl, b1, b2, fun a z => (b3 a z).elim (fun y => hOr a y) fun y => hO a y⟩
end
section
variable {X : Cx} {c : C0} {Γ : List Sl} {vs : List Nat} {K : List Sl → Prop} {pos : Pos}
/-- for (x, y) of a list of two, in a comprehension -/
theorem gtc_lst2 (i j : Nat) {x y : Str} {d1 d2 : DL.D} {px py : Pos} {kt} (hc : X.calm = true) (hN : X.N.Nodup) (k : K ((Γ.set i (.im d1)).set j (.im d2))) (hl : i < Γ.length := by exact Nat.le_of_ble_eq_true rfl) (hl2 : j < Γ.length := by exact Nat.le_of_ble_eq_true rfl) (hm : i ∈ vs := by decide) (hm2 : j ∈ vs := by decide) (hi : X.N[i]? = some x := by rfl) (hj : X.N[j]? = some y := by rfl) (hx : Loc X.env.scope x := by first | exact Or.inl rfl | exact Or.inr rfl) (hy : Loc X.env.scope y := by first | exact Or.inl rfl | exact Or.inr rfl)
    (hf : X.fn x = true ∨ X.env.scope.names.lookup x = some .local := by first | exact .inl rfl | exact .inr rfl) (hf2 : X.fn y = true ∨ X.env.scope.names.lookup y = some .local := by first | exact .inl rfl | exact .inr rfl)
    (hn : (assignEach [.Name x px, .Name y py] X.env).length = 2 := by rfl) (hst : (assignEach [.Name x px, .Name y py] X.env).findIdx? (·.1) = none := by rfl)
    (hs1 : (assignEach [.Name x px, .Name y py] X.env).map (·.2) = assign (.Name x px) X.env :: (assignEach [.Name y py] X.env).map (·.2) := by rfl) (hs2 : (assignEach [.Name y py] X.env).map (·.2) = assign (.Name y py) X.env :: (assignEach [] X.env).map (·.2) := by rfl) :
    GtC X c (.Tuple [.Name x px, .Name y py] kt pos) (.im (.lst [d1, d2])) Γ vs K := fun F H stk S σ v hls E Q q => by
  refine gw_of (L2.pg_unl hc (pgs_cons (pg_name hN hi hx hf) (pgs_cons (pg_name hN hj hy hf2) pgs_nil hs2) hs1) hn hst) ?_
  obtain ⟨p, vs', e, hp, v1, w1, e1, hd1, v2, w2, e2, hd2, e3⟩ := E.imAt (i := 0) rfl rfl
  have e3 : w2 = [] := e3
  subst e3 e2 e1
  refine ⟨p, [v1, v2], e, .inl (.inl (E.ex _ _ hp)), rfl, v1, [v2], rfl, v2, [], rfl, rfl, ?_⟩
  have E1 := ((E.pop.push hd1).storeS hls hl)
  have E2 := (E1.push hd2).storeS (Γ := Γ.set i (.im d1)) hls (by simpa using hl2)
  exact q F H _ _ k (by rw [wipe_set hm2, wipe_set hm]) E2
end
end DL

set_option Elab.async false
set_option linter.all false
set_option pp.maxSteps 300
set_option maxRecDepth 100000
set_option maxHeartbeats 2000000
/-! DL15: tuples put together and turned, min, repr of anything, zip, trees of dicts -/
namespace DL
open PySem PySem.Spec PyProof.Rows L2
section
variable {X : Cx} {c : C0} {Γ : List Sl} {KB : Bool → Prop} {a b d e : Expr} {pos : Pos} {x y z u : Bool}
theorem wpt_and4 (h1 : WPt X c a Γ fun t => t = x) (h2 : x = true → WPt X c b Γ fun t => t = y) (h3 : x = true → y = true → WPt X c d Γ fun t => t = z) (h4 : x = true → y = true → z = true → WPt X c e Γ fun t => t = u) (k : KB (x && (y && (z && u)))) : WPt X c (.BoolOp .And [a, b, d, e] pos) Γ KB := by
  refine wpt_w <| wpw_and <| h1.mono fun t ht => ?_
  subst ht
  refine ⟨fun e1 => ?_, fun e1 => ?_⟩
  · refine wpw_and <| (h2 e1).mono fun t ht => ?_
    subst ht
    rw [e1] at k
    refine ⟨fun e2 => ?_, fun e2 => ?_⟩
    · refine wpw_and <| (h3 e1 e2).mono fun t ht => ?_
      subst ht
      rw [e2] at k
      refine ⟨fun e3 => ?_, fun e3 => ?_⟩
      · refine wpw_and1 <| (h4 e1 e2 e3).mono fun t ht => ?_
        rw [e3] at k
        rw [ht]
        simpa using k
      · rw [e3] at k
        simpa using k
    · rw [e2] at k
      simpa using k
  · rw [e1] at k
    simpa using k
theorem wpt_or3 (h1 : WPt X c a Γ fun t => t = x) (h2 : x = false → WPt X c b Γ fun t => t = y) (h3 : x = false → y = false → WPt X c d Γ fun t => t = z) (k : KB (x || (y || z))) : WPt X c (.BoolOp .Or [a, b, d] pos) Γ KB := by
  refine wpt_w <| wpw_or <| h1.mono fun t ht => ?_
  subst ht
  refine ⟨fun e => ?_, fun e => ?_⟩
  · rw [e] at k
    simpa using k
  · refine wpw_or <| (h2 e).mono fun t ht => ?_
    subst ht
    rw [e] at k
    refine ⟨fun e2 => ?_, fun e2 => ?_⟩
    · rw [e2] at k
      simpa using k
    · refine wpw_or1 <| (h3 e e2).mono fun t ht => ?_
      rw [e2] at k
      rw [ht]
      simpa using k
end
/-! ### tuples -/
section
variable {X : Cx} {c : C0} {K : Sl → Prop} {Γ : List Sl} {a : Expr} {pos : Pos}
theorem od_catT {l m : List D} (hz : l.length + m.length ≤ sizeLine) (k : K (.im (.tup (l ++ m)))) : OpD X c (binaryOp .Add) (.im (.tup l)) (.im (.tup m)) K := fun F H L G x y E Q q pins s σ u w I rx ry => by
  obtain ⟨p, vs, e1, h3, h4⟩ := E.imAt (i := 1) rfl rfl
  obtain ⟨p2, ws, e2, h5, h6⟩ := E.imAt (i := 0) rfl rfl
  subst e1 e2
  refine op_catA pins s σ H _ _ u w Q I rx ry ⟨p, p2, vs, ws, rfl, rfl, .inl (.inl (E.ex _ _ h3)), .inl (.inl (E.ex _ _ h5)), by rw [← h4.length, ← h6.length]; exact hz, fun z => ?_, fun _ z => ?_, fun _ _ a ha => q _ (.im (.tup (l ++ m))) _ _ k (E.pop.pop.pushTup ha (h4.append h6))⟩
  · have hl : l = [] := List.length_eq_zero_iff.mp (by rw [h4.length, z]; rfl)
    rw [hl] at k
    exact q _ (.im (.tup ([] ++ m))) F H k (E.pop.pop.push ⟨p2, ws, rfl, h5, h6⟩)
  · have hm : m = [] := List.length_eq_zero_iff.mp (by rw [h6.length, z]; rfl)
    refine q _ (.im (.tup (l ++ m))) F H k (E.pop.pop.push ⟨p, vs, rfl, h3, ?_⟩)
    rw [hm, List.append_nil]
    exact h4
/-- [a, ..] * n -/
theorem Dats.rep {F : Hp} {l : List D} {vs : List V} (h : Dats F l vs) : ∀ n : Nat, Dats F (List.replicate n l).flatten (List.replicate n vs).flatten
  | 0 => rfl
  | n + 1 => by
    rw [List.replicate_succ, List.replicate_succ, List.flatten_cons, List.flatten_cons]
    exact h.append (Dats.rep h n)
theorem od_rep {l : List D} {n : Nat} {i : Int} (hi : i = (n : Int)) (hn : n < 2 ^ 62) (hz : l.length * n ≤ sizeLine) (k : K (.own (.lst (List.replicate n l).flatten))) : OpD X c (binaryOp .Mult) (.im (.lst l)) (.im (.int i)) K := fun F H L G x y E Q q pins s σ u w I rx ry => by
  subst hi
  obtain ⟨p, vs, e1, h3, h4⟩ := E.lstAt (i := 1) (l := l) rfl rfl rfl
  have hy : y = .int (n : Int) := E.imAt (i := 0) rfl rfl
  subst e1 hy
  refine op_rep pins s σ H _ _ u w Q I rx ry ⟨p, (n : Int), vs, rfl, rfl, h3, by omega, by omega, by rw [Int.toNat_natCast, ← h4.length]; exact hz, fun a ha => q _ (.own (.lst (List.replicate n l).flatten)) F _ k (E.pop.pop.pushOwn ha ⟨_, upd_same, ?_⟩)⟩
  rw [Int.toNat_natCast]
  exact h4.rep n
/-- t[::-1] -/
theorem slice_rev {sl : Addr} {vs : Value} {P : Program} {w : World} {A : Around} {E : Value → Shared → Prop} {s : Shared} {n : Nat} {Q : Int × Int × Nat → Shared → Prop} (hs : s.heap.IsSliceOf sl .none .none vs) (ps : IsPart vs (some (-1)))
    (h : Q ((n : Int) - 1, -1, n) s) : wpAny (model P w) A (Builtin.Slice.sliceApplied (.ref sl) (pure (n : Int))) Q E s := by
  obtain ⟨os, hos, hcs, hds⟩ := id hs
  unfold Builtin.Slice.sliceApplied Builtin.Slice.sliceFields
  refine wpAny_bind (wpAny_bind (wpAny_field hos hds (x := .none) rfl (wpAny_bind (wpAny_field hos hds (x := .none) rfl (wpAny_bind (wpAny_field hos hds (x := vs) rfl (wpAny_pure ?_)))))))
  refine wpAny_bind (HT.slicePart_ ps ?_)
  show wpAny _ _ (if ((-1 : Int) == 0) = true then _ else _) _ _ s
  rw [if_neg (by decide)]
  refine wpAny_bind (HT.slicePart_ .none (wpAny_bind (HT.slicePart_ .none (wpAny_bind (wpAny_pure ?_)))))
  show wpAny _ _ (match Builtin.Slice.sliceAdjust none none (-1) (n : Int) with | (lo, hi) => pure (lo, (-1 : Int), Builtin.Slice.slicePlaces lo hi (-1))) _ _ s
  have e1 : Builtin.Slice.sliceAdjust none none (-1) (n : Int) = ((n : Int) - 1, -1) := by
    unfold Builtin.Slice.sliceAdjust
    simp
  rw [e1]
  show wpAny _ _ (pure ((n : Int) - 1, (-1 : Int), Builtin.Slice.slicePlaces ((n : Int) - 1) (-1) (-1))) _ _ s
  have e2 : Builtin.Slice.slicePlaces ((n : Int) - 1) (-1) (-1) = n := by
    unfold Builtin.Slice.slicePlaces
    simp
    omega
  rw [e2]
  exact wpAny_pure h
theorem filterMap_cg {α β : Type} {f g : α → Option β} : ∀ {l : List α}, (∀ x ∈ l, f x = g x) → l.filterMap f = l.filterMap g
  | [], _ => rfl
  | a :: r, h => by
    rw [List.filterMap_cons, List.filterMap_cons, h a (List.mem_cons_self ..), filterMap_cg fun x hx => h x (List.mem_cons_of_mem _ hx)]
theorem pick_rev (xs : Array Value) : ((List.range xs.size).filterMap fun (m : Nat) => xs[(((xs.size : Int) - 1) + (m : Int) * (-1)).toNat]?).toArray = xs.toList.reverse.toArray := by
  have e : ((List.range xs.size).filterMap fun (m : Nat) => xs[(((xs.size : Int) - 1) + (m : Int) * (-1)).toNat]?) = ((List.range xs.size).map fun k => xs.size - 1 - k).filterMap (xs[·]?) := by
    rw [List.filterMap_map]
    refine filterMap_cg fun m hm => ?_
    have := List.mem_range.mp hm
    show xs[(((xs.size : Int) - 1) + (m : Int) * (-1)).toNat]? = xs[xs.size - 1 - m]?
    congr 1
    omega
  rw [e, PySem.W.krv_range, List.filterMap_reverse, PySem.W.krv_all]
theorem getItem_tuple_rev {P : Program} {w : World} {A : Around} {E : Value → Shared → Prop} {s : Shared} {t sl : Addr} {items : Array Value} {vs : Value} {Q : Value → Shared → Prop} (ht : IsTup s.heap t items) (hs : s.heap.IsSliceOf sl .none .none vs) (ps : IsPart vs (some (-1)))
    (h : Q (.ref s.heap.objs.size) { s with heap := s.heap.push { cls := .type "tuple", data := .seq items.toList.reverse.toArray } }) (hsz : items.size ≤ sizeLine) : wpAny (model P w) A (getItem (.ref t) (.ref sl)) Q E s := by
  have htake : sizeOk (.seq items.toList.reverse.toArray) := by
    show items.toList.reverse.toArray.size ≤ sizeLine
    rw [List.size_toArray, List.length_reverse, Array.length_toList]
    exact hsz
  obtain ⟨os, hos, hcs, hds⟩ := id hs
  have hTs : s.TypeIs (.ref sl) "slice" := ⟨os, hos, hcs⟩
  unfold getItem
  try with_reducible refine wpAny_holding ?_
  first | refine wpAny_bind (wpAny_pure ?_) | skip
  refine wpAny_bind (wpAny_sequenceKey ht.typeIs (by decide) ?_)
  refine wpAny_bind (wpAny_callSpecial?_slot (name := Str.ofString "__getitem__") ht.typeIs PyProof.Rows.slot_tuple_getitem
    (wpAny_call_entry PyProof.Rows.slot_tuple_getitem ht.typeIs entry_tuple_getitem ?_ (args_tuple_getitem _ _)))
  show wpAny _ _ (Builtin.Tuple.tupleItemsOf (.ref t) >>= _) _ _ s
  refine wpAny_bind (tupleItemsOf_ ht ?_)
  refine wpAny_bind (wpAny_typeOf hTs ?_)
  rw [if_pos (by decide)]
  refine wpAny_bind (slice_rev hs ps ?_)
  have hno : ¬ ((((items.size : Int) - 1) == 0 && (-1 : Int) == 1 && items.size == items.size) = true) := by
    intro q
    rw [Bool.and_eq_true, Bool.and_eq_true] at q
    exact absurd q.1.2 (by decide)
  show wpAny _ _ (if (((items.size : Int) - 1) == 0 && (-1 : Int) == 1 && items.size == items.size) = true then _ else _) _ _ s
  rw [if_neg hno, pick_rev]
  first
    | exact wpAny_bind (m := Builtin.Tuple.tupleExact _) (wpAny_newObj_type (wpAny_pure ⟨_, rfl, wpAny_pure h⟩) htake)
    | exact wpAny_bind (m := Builtin.Tuple.tupleExact _) (wpAny_newObj_type (wpAny_bind (wpAny_pure (wpAny_pure ⟨_, rfl, wpAny_pure h⟩))) htake)
    | exact wpAny_bind (wpAny_bind (m := Builtin.Tuple.tupleExact _) (wpAny_newObj_type (wpAny_pure (wpAny_pure ⟨_, rfl, wpAny_pure h⟩)) htake))
    | exact wpAny_bind (wpAny_bind (m := Builtin.Tuple.tupleExact _) (wpAny_newObj_type (wpAny_pure ⟨_, rfl, wpAny_pure h⟩) htake))
def tRevT (K : PySem.W.Frag) (te : TE) : TE := fun σ H Q => te σ H fun x H1 => ∃ a xs, x = .ref a ∧ SqT K H1 a xs ∧ ∀ p, H1 p = none → Q (.ref p) (L2.upd H1 p (.tup xs.reverse))
theorem pe_revT {e : Expr} {te : TE} {k : Nat} {p1 p2 p3 pos : Pos} (he : PE X e te) : PE X (.Subscript e (.Slice none none (some (.UnaryOp .USub (.Constant (.int 1) k p1) p2)) p3) pos) (tRevT X.K te) := by
  refine ⟨fun pins s σ H Q I h => ?_⟩
  refine Subscript_ (thn (he.run pins s σ H _ I h) fun v s1 ⟨x, H1, I1, r1, q1⟩ => ?_)
  obtain ⟨a, xs, ex, hx, q⟩ := q1
  subst ex
  cases r1
  have hst : PO X (some (.UnaryOp .USub (.Constant (.int 1) k p1) p2)) (tPart (tUn (rU fun i => .int (-i)) (tC (.int 1)))) := po_some (pe_un un_neg pe_int)
  refine wpAny_Slice (thn (po_none.run pins s1 σ H1 (fun o H2 => o = none ∧ H2 = H1) I1 ⟨rfl, rfl⟩) fun vl s2 ⟨l, H2, I2, pl, el, e2⟩ => ?_)
  subst el e2
  refine thn (po_none.run pins s2 σ H2 (fun o H3 => o = none ∧ H3 = H2) I2 ⟨rfl, rfl⟩) fun vu s3 ⟨u, H3, I3, pu, eu, e3⟩ => ?_
  subst eu e3
  refine thn (hst.run pins s3 σ H3 (fun o H4 => o = some (-1) ∧ H4 = H3) I3 ⟨1, rfl, -1, rfl, rfl, rfl⟩) fun vs s4 ⟨o, H4, I4, ps, eo, e4⟩ => ?_
  subst eo e4
  cases pl
  cases pu
  have I5 : Inv X pins σ H4 { s4 with heap := s4.heap.push { cls := .type "slice", data := .fields #[.none, .none, vs] } } := I4.kept (t' := s4.toks) fun b ob q => Heap.get?_push_of_some _ q
  obtain ⟨its, r, ht, hz⟩ := I5.tuple hx
  have hlen := r.length
  show wpAny (model X.prog X.w) X.A (subscriptTail e (.Slice none none (some (.UnaryOp .USub (.Constant (.int 1) k p1) p2)) p3) (.ref a) (.ref s4.heap.objs.size)) (EP X pins σ Q) X.xe { s4 with heap := s4.heap.push { cls := .type "slice", data := .fields #[.none, .none, vs] } }
  refine tail_any (ops := [.ref a, .ref s4.heap.objs.size]) ht.typeIs (PyProof.Rows.slot_tuple_getitem.lookup) ?_ (by with_unfolding_all rfl)
  refine getItem_tuple_rev ht (Heap.IsSliceOf.new _ .none .none vs) ps ?_ (by rw [List.size_toArray]; omega)
  refine ⟨.ref _, _, I5.laid (t' := s4.toks) (o := .tup xs.reverse) (fun b ob q => Heap.get?_push_of_some _ q) (Nat.le_refl _) ?_, rfl, q _ (I5.hok.fresh (Nat.le_refl _))⟩
  exact ⟨by rw [List.length_reverse]; exact hz, _, r.reverse, IsTup.new _ _⟩
theorem wp_revT {kk : Nat} {q1 q2 q3 : Pos} (h : WPe X c a Γ fun ra => ∃ l, ra = .im (.tup l) ∧ K (.im (.tup l.reverse))) : WPe X c (.Subscript a (.Slice none none (some (.UnaryOp .USub (.Constant (.int 1) kk q1) q2)) q3) pos) Γ K := fun F H stk S σ hl E Q q => by
  refine we_of (pe_revT pe_we) ?_
  refine h F H stk S σ hl E _ fun x ra F1 H1 k1 E1 => ?_
  obtain ⟨l, rfl, k1⟩ := k1
  obtain ⟨p, vs, e1, hp, hd⟩ := E1.imAt (i := 0) rfl rfl
  exact ⟨p, vs, e1, .inl (.inl (E1.ex _ _ hp)), fun p3 hp3 => q _ (.im (.tup l.reverse)) _ _ k1 (EnvR.pushTup (σ := stk ++ σ) (Γ := S ++ Γ) E1.pop hp3 hd.reverse)⟩
/-! ### min, int, repr -/
theorem cd_minL (hc : X.calm = true) {r : Sl} {ns : List Int} (hr : lst? r = some (ns.map D.int)) (h0 : 0 < ns.length) (k : ∀ m, m ∈ ns → (∀ y ∈ ns, m ≤ y) → K (.im (.int m))) : CallD X c (.builtin "min") [r] K := cd_one (cr_min hc) fun F H L G v E Q q => by
  obtain ⟨p, vs, e1, h2, h3⟩ := E.lstAt (i := 0) rfl rfl hr
  rw [h3.ints] at h2
  exact ⟨p, ns, by rw [e1], .inl (.inl h2), h0, fun m hm hy => q _ (.im (.int m)) F H (k m hm hy) (E.pop.push rfl)⟩
theorem cd_intB {b : Bool} (k : K (.im (.int (if b then 1 else 0)))) : CallD X c (.type "int") [.im (.bl b)] K := cd_one call_int1 fun F H L G v E Q q => by
  have hv : v = .bl b := E.imAt (i := 0) rfl rfl
  exact .inr ⟨b, by rw [hv], q _ (.im (.int (if b then 1 else 0))) F H k (E.pop.push rfl)⟩
/-- what repr shows of data -/
def shw : D → Str
  | .dct _ _ => (PyData.dict []).shown
  | d => (py d).shown
/-- what may be shown: texts short, numbers small, dicts empty -/
def Sh : D → Prop
  | .dct ks l => ks = [] ∧ l = []
  | .str s => (reprText s).length ≤ sizeLine
  | .int i => i.natAbs.log2 < 1920
  | .tup l => (py (.tup l)).canLay0 = true ∧ (py (.tup l)).depth ≤ 60 ∧ (py (.tup l)).showable = true ∧ (py (.tup l)).shown.length ≤ sizeLine
  | .lst l => (py (.lst l)).canLay0 = true ∧ (py (.lst l)).depth ≤ 60 ∧ (py (.lst l)).showable = true ∧ (py (.lst l)).shown.length ≤ sizeLine
  | _ => True
theorem cd_reprA (hg : X.A.guards = some []) (hu : X.A.units + 64 < cLine) {d : D} (hs : Sh d) (k : K (.im (.str (shw d)))) : CallD X c (.builtin "repr") [.im d] K := by
  cases d with
  | tup l => exact cd_repr hg hu rfl (.inl rfl) hs.1 hs.2.1 hs.2.2.1 hs.2.2.2 k
  | lst l => exact cd_repr hg hu rfl (.inr rfl) hs.1 hs.2.1 hs.2.2.1 hs.2.2.2 k
  | non =>
    exact fun F H L G vs hl E Q q pins s σ us I rv => by
      cases vs with
      | nil => simp at hl
      | cons v w =>
        cases w with
        | cons => simp at hl
        | nil =>
          have hv : v = .non := E.imAt (i := 0) rfl rfl
          subst hv
          obtain ⟨u, eu, ru⟩ := vals1 rv
          subst eu
          have eu : u = Value.none := ru
          subst eu
          exact PySem.P.repr_of_none ⟨.str "None", H, I.tok _, ⟨_, rfl⟩, q _ (.im (.str (shw .non))) F H k (E.pop.push rfl)⟩
  | bl b =>
    exact fun F H L G vs hl E Q q pins s σ us I rv => by
      cases vs with
      | nil => simp at hl
      | cons v w =>
        cases w with
        | cons => simp at hl
        | nil =>
          have hv : v = .bl b := E.imAt (i := 0) rfl rfl
          subst hv
          obtain ⟨u, eu, ru⟩ := vals1 rv
          subst eu
          have eu : u = Value.bool b := ru
          subst eu
          exact PySem.P.repr_of_bool ⟨.str (shw (.bl b)), H, I.tok _, ⟨_, rfl⟩, q _ (.im (.str (shw (.bl b)))) F H k (E.pop.push rfl)⟩
  | int i =>
    exact fun F H L G vs hl E Q q pins s σ us I rv => by
      cases vs with
      | nil => simp at hl
      | cons v w =>
        cases w with
        | cons => simp at hl
        | nil =>
          have hv : v = .int i := E.imAt (i := 0) rfl rfl
          subst hv
          obtain ⟨u, eu, ru⟩ := vals1 rv
          subst eu
          obtain ⟨t, eu⟩ := ru
          subst eu
          exact PySem.P.repr_of_int hs ⟨.str (shw (.int i)), H, I.tok _, ⟨_, rfl⟩, q _ (.im (.str (shw (.int i)))) F H k (E.pop.push rfl)⟩
  | str x =>
    exact fun F H L G vs hl E Q q pins s σ us I rv => by
      cases vs with
      | nil => simp at hl
      | cons v w =>
        cases w with
        | cons => simp at hl
        | nil =>
          have hv : v = .str x := E.imAt (i := 0) rfl rfl
          subst hv
          obtain ⟨u, eu, ru⟩ := vals1 rv
          subst eu
          obtain ⟨t, eu⟩ := ru
          subst eu
          exact PySem.P.repr_of_str ⟨.str (shw (.str x)), H, I.tok _, ⟨_, rfl⟩, q _ (.im (.str (shw (.str x)))) F H k (E.pop.push rfl)⟩ hs
  | dct ks l =>
    exact fun F H L G vs hl E Q q pins s σ us I rv => by
      cases vs with
      | nil => simp at hl
      | cons v w =>
        cases w with
        | cons => simp at hl
        | nil =>
          obtain ⟨rfl, rfl⟩ := hs
          obtain ⟨p, vs, h1, h2, h3, h4⟩ := E.imAt (i := 0) rfl rfl
          subst h1
          obtain ⟨u, eu, ru⟩ := vals1 rv
          subst eu
          have eu : u = Value.ref p := ru
          subst eu
          have h2' : H p = some (.dK []) := by rw [E.ex _ _ h2]; rfl
          obtain ⟨_, hsys, kvs, hkv, o, es, ep, g1, g2, g3, g4, g5, g6⟩ := I.hok p _ h2'
          have hk0 : kvs = [] := by cases hkv; rfl
          subst hk0
          have hes : es.toList = [] := by
            have := g5
            generalize es.toList = l at this
            cases this
            rfl
          have R : Reads s.heap (.ref p) (.dict []) [p] := by
            have := Reads.dict (h := s.heap) (kvs := []) (as := []) (bs := []) g1 g2.1 g3 (by rw [hes]; exact .nil) (by rw [hes]; exact .nil)
            exact this
          refine repr_of_reads' R rfl (fun _ z => ?_) hg (Nat.lt_of_le_of_lt (Nat.add_le_add_left (show PyData.depth (.dict []) + 1 ≤ 64 by decide) _) hu) (fun _ _ e => e) (fun h' t tk hk => ?_) (by decide)
          · rw [List.mem_singleton] at z
            rw [← z] at hsys
            simp at hsys
          · exact ⟨.str (PyData.dict []).shown, H, I.kept hk, ⟨t, rfl⟩, q _ (.im (.str (shw (.dct [] [])))) F H k (E.pop.push rfl)⟩
end
end DL

set_option Elab.async false
set_option linter.all false
set_option pp.maxSteps 300
set_option maxRecDepth 100000
set_option maxHeartbeats 2000000
/-! DL16: zip of tuples, trees of dicts, stores at places of any sign -/
namespace DL
open PySem PySem.Spec PyProof.Rows L2
section
variable {X : Cx} {c : C0} {Γ : List Sl} {KI : Nat → (Nat → DL.D) → Prop} {e1 e2 : Expr} {elts : List Expr} {kk : Nat} {tpos pos p : Pos}
/-- zip of two known tuples -/
theorem wpi_zipT (hm : X.mg "zip" = none) (h : WPa X c [e1, e2] Γ fun rs => ∃ xs ys, rs = [.im (.tup xs), .im (.tup ys)] ∧ KI (min xs.length ys.length) fun i => .tup [xs.getD i .non, ys.getD i .non])
    (hg : Gl X "zip" := by rfl) (hs : starEach [e1, e2] X.env = (false, eval e1 X.env) :: starEach [e2] X.env := by rfl) (hpl : (backTo pos (starEach [e2] X.env)).any (·.1) = false := by rfl) : WPi X c (.Tuple elts kk tpos) (.Call (.Name "zip" p) [e1, e2] [] pos) Γ KI := fun F H stk S σ hl E R q => by
  refine iw_of (RZ.pi_zipA hg hm pa_wa hs hpl) ?_
  refine h F H stk S σ hl E _ fun vs rs F1 H1 k1 hl1 E1 => ?_
  obtain ⟨ds, ds2, er, k⟩ := k1
  subst er
  obtain ⟨E2, hd⟩ := EnvR.dats (ds := [.tup ds, .tup ds2]) (by simpa using hl1) E1
  obtain ⟨v, w, rfl, hv, v2, w2, rfl, hv2, hw⟩ := hd
  have hw' : w2 = [] := hw
  subst hw'
  obtain ⟨a, xs, rfl, ha, hds⟩ := hv
  obtain ⟨b, ys, rfl, hb, hds2⟩ := hv2
  refine ⟨a, b, xs, ys, rfl, .inr ⟨.inl (.inl (E2.ex _ _ ha)), .inl (.inl (E2.ex _ _ hb)), q _ (min ds.length ds2.length) _ (fun F => (F a = some (.tup xs) ∧ Dats F ds xs) ∧ F b = some (.tup ys) ∧ Dats F ds2 ys) F1 H1 k ⟨fun F F' e h => ⟨⟨e _ _ h.1.1, h.1.2.mono e⟩, e _ _ h.2.1, h.2.2.mono e⟩, fun F H i e h hi => ?_, fun c F H σ Γ i x H' E h hi hy => ?_, fun F H e h => ⟨xs, ys, .inl (.inl (e _ _ h.1.1)), .inl (.inl (e _ _ h.2.1)), ?_⟩⟩ ⟨⟨ha, hds⟩, hb, hds2⟩ E2⟩⟩
  · have l1 : i < ds.length := by omega
    have l2 : i < ds2.length := by omega
    obtain ⟨v, hv, _⟩ := h.1.2.get (i := i) (d := ds[i]) (by simp [l1])
    obtain ⟨v2, hv2, _⟩ := h.2.2.get (i := i) (d := ds2[i]) (by simp [l2])
    exact ⟨xs, ys, v, v2, .inl (.inl (e _ _ h.1.1)), .inl (.inl (e _ _ h.2.1)), hv, hv2⟩
  · have l1 : i < ds.length := by omega
    have l2 : i < ds2.length := by omega
    obtain ⟨T, y, y2, rfl, hT, rfl, hx, hx2⟩ := hy
    obtain ⟨v, hv, hd⟩ := h.1.2.get (i := i) (d := ds[i]) (by simp [l1])
    obtain ⟨v2, hv2, hd2⟩ := h.2.2.get (i := i) (d := ds2[i]) (by simp [l2])
    have e1 := hx xs (.inl (.inl (E.ex _ _ h.1.1)))
    have e2 := hx2 ys (.inl (.inl (E.ex _ _ h.2.1)))
    rw [hv] at e1
    rw [hv2] at e2
    cases e1
    cases e2
    have e3 : ds.getD i .non = ds[i] := by simp [l1]
    have e4 : ds2.getD i .non = ds2[i] := by simp [l2]
    exact ⟨_, Ex.new (E.ex.back hT), by rw [e3, e4]; exact E.pushTup hT (.cons hd (.one hd2))⟩
  · rw [← h.1.2.length, ← h.2.2.length]
    omega
end
/-! ### dicts within trees -/
/-- the place of a key -/
def kIx : List Key → Key → Option Nat
  | [], _ => none
  | k :: ks, j => if k = j then some 0 else (kIx ks j).map (· + 1)
theorem kIx_val {j : Key} : ∀ {ks : List Key} {vs : List V} {n : Nat} {u : V}, kIx ks j = some n → vs[n]? = some u → valV (ks.zip vs) j = some u
  | [], _, _, _, h, _ => by cases h
  | k :: ks, [], n, u, _, h => by simp at h
  | k :: ks, v :: vs, n, u, h, e => by
    rw [List.zip_cons_cons]
    by_cases q : k = j
    · have h : (if k = j then some 0 else (kIx ks j).map (· + 1)) = some n := h
      rw [if_pos q] at h
      cases h
      have e : v = u := by simpa using e
      rw [valV_pos (show (k, v).1 = j from q), ← e]
    · have h : (if k = j then some 0 else (kIx ks j).map (· + 1)) = some n := h
      rw [if_neg q] at h
      obtain ⟨m, hm, rfl⟩ := Option.map_eq_some_iff.mp h
      rw [valV_neg (show ¬ (k, v).1 = j from q)]
      exact kIx_val hm (by simpa using e)
theorem kIx_lt {j : Key} : ∀ {ks : List Key} {n : Nat}, kIx ks j = some n → n < ks.length
  | [], _, h => by cases h
  | k :: ks, n, h => by
    have h : (if k = j then some 0 else (kIx ks j).map (· + 1)) = some n := h
    by_cases q : k = j
    · rw [if_pos q] at h
      cases h
      simp
    · rw [if_neg q] at h
      obtain ⟨m, hm, rfl⟩ := Option.map_eq_some_iff.mp h
      have := kIx_lt hm
      simp
      omega
theorem kIx_put {j : Key} {y : V} : ∀ {ks : List Key} {vs : List V} {n : Nat}, ks.Nodup → vs.length = ks.length → kIx ks j = some n → putK (ks.zip vs) j y = ks.zip (vs.set n y) := by
  intro ks vs n hnd hl h
  have hn := kIx_lt h
  have hany : ((ks.zip vs).any fun kv => decide (kv.1 = j)) = true := by
    rw [valV_any, kIx_val (vs := vs) (u := vs[n]'(by omega)) h (by simp)]
    rfl
  unfold putK
  rw [if_pos hany]
  have key : ∀ {ks : List Key} {vs : List V} {n : Nat}, ks.Nodup → vs.length = ks.length → kIx ks j = some n → (ks.zip vs).map (fun kv => if kv.1 = j then (kv.1, y) else kv) = ks.zip (vs.set n y) := by
    intro ks
    induction ks with
    | nil => intro vs n _ _ h; cases h
    | cons k ks ih =>
      intro vs n hnd hl h
      cases vs with
      | nil => simp at hl
      | cons v vs =>
        obtain ⟨hk, hnd'⟩ := List.nodup_cons.mp hnd
        have h : (if k = j then some 0 else (kIx ks j).map (· + 1)) = some n := h
        by_cases q : k = j
        · rw [if_pos q] at h
          cases h
          rw [List.zip_cons_cons, List.map_cons, if_pos q, List.set_cons_zero, List.zip_cons_cons]
          congr 1
          have : ∀ (l : List Key) (m : List V), j ∉ l → (l.zip m).map (fun kv => if kv.1 = j then (kv.1, y) else kv) = l.zip m := by
            intro l
            induction l with
            | nil => intro m _; rfl
            | cons a l ih =>
              intro m hm
              cases m with
              | nil => rfl
              | cons b m =>
                rw [List.zip_cons_cons, List.map_cons, if_neg (fun e => hm (by rw [← e]; exact List.mem_cons_self ..)), ih m fun z => hm (List.mem_cons_of_mem _ z)]
          exact this ks vs (by rw [← q]; exact hk)
        · rw [if_neg q] at h
          obtain ⟨m, hm, rfl⟩ := Option.map_eq_some_iff.mp h
          rw [List.zip_cons_cons, List.map_cons, if_neg q, List.set_cons_succ, List.zip_cons_cons, ih hnd' (by simpa using hl) hm]
  exact key hnd hl h
section
variable {X : Cx} {c : C0} {K : Sl → Prop} {Γ : List Sl} {D : DEnds} {v : V} {π : List Nat} {a b e e2 recv ie : Expr} {es : List Expr} {pos p p2 apos cpos : Pos}
/-- d[k], d a dict within an own tree -/
theorem wp_dgetO (hu : X.A.units + 1 < cLine) (h : WPe X c a Γ fun ra => WPe X c b Γ fun rb => ∃ v π ks l k n o, ra = .vo v π (.nd (.dct ks) l) ∧ rb = .im (kD k) ∧ kIx ks k = some n ∧ l[n]? = some o ∧ K (seeO v (π ++ [n]) o)) (hs : NoSl b := by exact fun _ _ => rfl) : WPe X c (.Subscript a b pos) Γ K := fun F H stk S σ hl E Q q => by
  refine we_of (pe_dget hu pe_we pe_we hs) ?_
  refine h F H stk S σ hl E _ fun x ra F1 H1 k1 E1 => ?_
  refine k1 F1 H1 (some x :: stk) (ra :: S) σ (by simp [hl]) E1 _ fun y rb F2 H2 k2 E2 => ?_
  obtain ⟨v, π, ks, l, k, n, o, rfl, rfl, hk, ho, k2⟩ := k2
  have hy := kD_dat (E2.imAt (i := 0) rfl rfl)
  obtain ⟨p, dx, vs, fq, e1, h1, h2, h3, h4⟩ := E2.voAt (i := 1) (w := x) rfl rfl
  obtain ⟨u, hu1, hS⟩ := h4 n o ho
  refine ⟨p, u, e1, .inl ⟨_, k, .inl h1, hy, (kIx_val hk hu1).symm⟩, q u _ F2 H2 k2 ?_⟩
  exact EnvR.pushS (σ := stk ++ σ) (Γ := S ++ Γ) E2.pop.pop hS
theorem cd_tupleVo {l : List DL.D} (k : K (.im (.tup l))) : CallD X c (.type "tuple") [.vo v π (.nd .lst (l.map O.im))] K := cd_one call_tuple_of fun F H L G w E Q q => by
  obtain ⟨p, dx, vs, fq, e1, h1, h2, h3, h4⟩ := E.voAt (i := 0) (w := w) rfl rfl
  have hd : Dats F l vs := by
    have key : ∀ {l : List DL.D} {vs : List V} {fp : List Addr}, OwnTs F H (l.map O.im) vs fp → Dats F l vs := by
      intro l
      induction l with
      | nil => intro vs fp h; exact h.1
      | cons d r ih =>
        intro vs fp h
        obtain ⟨v, w, f1, f2, rfl, rfl, h1, h2⟩ := h
        exact ⟨v, w, rfl, h1.2, ih h2⟩
    exact key h3
  exact ⟨p, vs, by rw [e1], .inl ⟨.inl (.inl h1), fun a ha => q _ (.im (.tup l)) _ _ k (E.pop.pushTup ha hd)⟩⟩
/-- d[k] = e, k there, d a dict within an own tree -/
theorem wst_dputT (i : Nat) {o : O} (hu : X.A.units + 1 < cLine) (hΓ : Γ[i]? = some (.deep v o)) (h : WPe X c e Γ fun r => ∃ t, toO r = some t ∧ WPe X c recv Γ fun r1 => ∃ π ks l, r1 = .vo v π (.nd (.dct ks) l) ∧ o.sub π = some (.nd (.dct ks) l) ∧ ks.Nodup ∧ l.length < sizeLine ∧ WPe X c ie Γ fun r2 => ∃ (k : Key) (n : Nat), r2 = .im (kD k) ∧ kIx ks k = some n ∧ D.nx (Γ.set i (.deep v (o.put π (.nd (.dct ks) (l.set n t))))))
    (hs : swapsWith e (some (.Subscript recv ie p2)) pos.line X.env = pure false := by rfl) : WPst X c (.Assign [.Subscript recv ie p2] e pos) Γ D := fun F H σ E Ee ok => by
  refine ws_of (ps_dput hu pe_we pe_we pe_we hs) ?_
  refine h F H [] [] σ rfl E.env _ fun y r F1 H1 k1 E1 => ?_
  obtain ⟨t, ht, k1⟩ := k1
  refine k1 F1 H1 [some y] [r] σ rfl E1 _ fun w r1 F2 H2 k2 E2 => ?_
  obtain ⟨π, ks, l, rfl, hsub, hnd, hlt, k2⟩ := k2
  obtain ⟨p1, dx1, vs1, fq1, e1, g1, _⟩ := E2.voAt (i := 0) (w := w) rfl rfl
  subst e1
  refine k2 F2 H2 [some (.ref p1), some y] [_, r] σ rfl E2 _ fun z r2 F3 H3 k3 E3 => ?_
  obtain ⟨kk, n, rfl, hk, k3⟩ := k3
  have hz := kD_dat (E3.imAt (i := 0) rfl rfl)
  have E3' : EnvR c F3 H3 (some (.ref p1) :: some y :: σ) (.vo v π (.nd (.dct ks) l) :: r :: Γ) := E3.pop
  obtain ⟨fp, Ef⟩ := E3'.foot
  obtain ⟨E4, rv, _⟩ := Ef.pop
  obtain ⟨E5, r0, dis⟩ := E4.pop
  obtain ⟨u, hu', hT, hN, hO⟩ := r0.tree ht
  cases hu'
  obtain ⟨_, w', fq', hw', hA, _, _⟩ := rv
  cases hw'
  obtain ⟨x, hx, hv, hTr, hNr, hOr⟩ := E5.sl i _ hΓ
  subst hv
  obtain ⟨f1, a1, a2, a3, a4⟩ := hTr.at hsub hA
  obtain ⟨p, dx, vs, fq, e5, rfl, g2, g3, g4⟩ := a1
  cases e5
  have hn1 := a3 hNr
  have hpi : p1 ∈ fp (i + 1 + 1) := a2 p1 (List.mem_cons_self ..)
  have hpq : p1 ∉ fq := (List.nodup_cons.mp hn1).1
  have hp0 : p1 ∉ fp 1 := fun z => dis p1 z (i) hpi
  have hlen := g4.length
  have g3' : ks.length = l.length := g3
  have hnl : n < l.length := by rw [← g3']; exact kIx_lt hk
  obtain ⟨u0, fa, fb, fc, c1, rfl, c3, c4⟩ := g4.split (n := n) (o := l[n]) (by simp [hnl])
  have hq := List.nodup_append.mp (List.nodup_cons.mp hn1).2
  have hq2 := List.nodup_append.mp hq.2.1
  have hab : ∀ a, a ∈ fa ∨ a ∈ fc → a ∈ fp (i + 1 + 1) := fun a z => a2 a (by
    rcases z with z | z <;> simp [z])
  have hnew : OwnT F3 (L2.upd H3 p1 (.dK (ks.zip (vs.set n y)))) (.nd (.dct ks) (l.set n t)) (.ref p1) (p1 :: (fa ++ (fp 1 ++ fc))) := ⟨p1, dx, vs.set n y, _, rfl, rfl, upd_same, by rw [List.length_set]; exact g3, c4 F3 _ t y (fp 1) (Ex.refl _) (fun a z => upd_ne fun e => hpq (by rw [← e]; rcases z with z | z <;> simp [z])) (hT.mono (Ex.refl _) fun a z => upd_ne fun e => hp0 (by rw [← e]; exact z))⟩
  have hnn : (p1 :: (fa ++ (fp 1 ++ fc))).Nodup := by
    refine List.nodup_cons.mpr ⟨fun z => ?_, List.nodup_append.mpr ⟨hq.1, List.nodup_append.mpr ⟨hN, hq2.2.1, fun a x b y e => ?_⟩, fun a x b y e => ?_⟩⟩
    · rcases List.mem_append.mp z with z | z
      · exact hpq (by simp [z])
      · rcases List.mem_append.mp z with z | z
        · exact hp0 z
        · exact hpq (by simp [z])
    · subst e
      exact dis a x i (hab a (.inr y))
    · subst e
      rcases List.mem_append.mp y with y | y
      · exact dis a y i (hab a (.inl x))
      · exact hq.2.2 a x a (List.mem_append_right _ y) rfl
  obtain ⟨fp', b1, b2, b3⟩ := a4 F3 (L2.upd H3 p1 (.dK (ks.zip (vs.set n y)))) (.nd (.dct ks) (l.set n t)) (p1 :: (fa ++ (fp 1 ++ fc))) (fp 1) (Ex.refl _) (fun a _ z => upd_ne fun e => z (by rw [e]; exact List.mem_cons_self ..)) hnew (fun a z => by
    rcases List.mem_cons.mp z with z | z
    · exact .inl (by rw [z]; exact List.mem_cons_self ..)
    · rcases List.mem_append.mp z with z | z
      · exact .inl (by simp [z])
      · rcases List.mem_append.mp z with z | z
        · exact .inr z
        · exact .inl (by simp [z])) (fun a z => dis a z i) hnn hNr
  have g2' : H3 p1 = some (.dK (ks.zip vs)) := g2
  have hput := kIx_put (y := y) hnd (by rw [hlen, g3']) hk
  refine ⟨p1, L2.upd H3 p1 (.dK (ks.zip (vs.set n y))), rfl, .inl ⟨ks.zip vs, kk, g2', hz, by rw [List.length_zip]; omega, by rw [hput]⟩, ok.nx _ F3 _ σ k3 ⟨?_, E.nv.set rfl⟩⟩
  exact E5.writeX E.nv hΓ hx hpi (fun a z => dis a z) b3 ⟨rfl, b1, b2, fun a z => (b3 a z).elim (fun y => hOr a y) fun y => hO a y⟩
/-- {"k": [], "l": []} -/
theorem wp_dctO2 {k1 k2 : Str} {j1 j2} {q1 q2 q3 q4 : Pos} (hne : k1 ≠ k2) (k : ∀ v, K (.deep v (.nd (.dct [.inr k1, .inr k2]) [.nd .lst [], .nd .lst []]))) : WPe X c (.Dict [some (.Constant (.str k1) j1 q1), some (.Constant (.str k2) j2 q2)] [.List [] q3, .List [] q4] pos) Γ K := fun F H stk S σ hl E Q q => by
  refine we_of (pe_disp (pps_cons pe_str (pe_lst pa_nil) (pps_cons pe_str (pe_lst pa_nil) pps_nil)) rfl rfl (by simp) (Nat.le_of_ble_eq_true rfl)) ?_
  intro p hp
  refine ⟨by decide, fun x hx => ⟨by decide, fun y hy => ?_⟩⟩
  have hxp : x ≠ p := fun e => by rw [e, upd_same] at hx; cases hx
  have hx0 : H x = none := by rw [upd_ne hxp] at hx; exact hx
  have hyx : y ≠ x := fun e => by rw [e, upd_same] at hy; cases hy
  have hyp : y ≠ p := fun e => by rw [upd_ne hyx, e, upd_same] at hy; cases hy
  have hy0 : H y = none := by rw [upd_ne hyx, upd_ne hyp] at hy; exact hy
  have E1 := E.pushOwn (d := .lst []) (o := .lst []) hx0 ⟨[], upd_same, rfl⟩
  have hy1 : L2.upd H x (.lst []) y = none := by rw [upd_ne hyx]; exact hy0
  have E2 := E1.pushOwn (d := .lst []) (o := .lst []) hy1 ⟨[], upd_same, rfl⟩
  obtain ⟨fp, Ef⟩ := E2.foot
  obtain ⟨E3, r0, dis0⟩ := Ef.pop
  obtain ⟨E4, r1, dis1⟩ := E3.pop
  have f0 : fp 0 = [y] := by
    obtain ⟨z, h1, h2, _⟩ := r0
    cases h2
    exact h1
  have f1 : fp 1 = [x] := by
    obtain ⟨z, h1, h2, _⟩ := r1
    cases h2
    exact h1
  have hpH : L2.upd (L2.upd H x (.lst [])) y (.lst []) p = none := by rw [upd_ne hyp.symm, upd_ne hxp.symm]; exact hp
  refine ⟨?_, [(.inr k1, .ref x), (.inr k2, .ref y)], rfl, Nat.le_of_ble_eq_true rfl, ?_⟩
  · rw [upd_ne hyp.symm, upd_ne hxp.symm, upd_same]
  · have hm : mergeK [] [((.inr k1 : Key), V.ref x), (.inr k2, .ref y)] = [(.inr k1, .ref x), (.inr k2, .ref y)] := by
      unfold mergeK
      simp only [List.foldl_cons, List.foldl_nil]
      rw [putK_new _ valV_nil, putK_new _ (by rw [List.nil_append, valV_neg (fun z => hne (by injection z)), valV_nil])]
      rfl
    have hH : L2.upd (L2.upd (L2.upd (L2.upd H p (.dK [])) x (.lst [])) y (.lst [])) p (.dK (mergeK [] [((.inr k1 : Key), V.ref x), (.inr k2, .ref y)])) = L2.upd (L2.upd (L2.upd H x (.lst [])) y (.lst [])) p (.dK ([(.inr k1 : Key), .inr k2].zip [V.ref x, .ref y])) := by
      rw [hm]
      funext b
      by_cases e1 : b = p
      · rw [e1, upd_same, upd_same]
        rfl
      · rw [upd_ne e1, upd_ne e1]
        by_cases e2 : b = y
        · rw [e2, upd_same, upd_same]
        · rw [upd_ne e2, upd_ne e2]
          by_cases e3 : b = x
          · rw [e3, upd_same, upd_same]
          · rw [upd_ne e3, upd_ne e3, upd_ne e1]
    rw [hH]
    refine q _ _ F _ (k (.ref p)) ?_
    refine E4.newX (fx := [x, y]) (fp' := [p, x, y]) hpH (fun a ha j => ?_) (fun a ha => by simpa using ha) fun z1 z2 z3 => ⟨rfl, ?_, ?_, fun a ha => ?_⟩
    · simp only [List.mem_cons, List.not_mem_nil, or_false] at ha
      rcases ha with rfl | rfl
      · exact dis1 a (by rw [f1]; simp) j
      · exact dis0 a (by rw [f0]; simp) (j + 1)
    · refine ⟨p, 0, [.ref x, .ref y], [x, y], rfl, rfl, upd_same, rfl, .ref x, [.ref y], [x], [y], rfl, rfl, ⟨x, 0, [], [], rfl, rfl, by rw [upd_ne hxp, upd_ne hyx.symm, upd_same]; rfl, trivial, rfl, rfl⟩, OwnTs.one ⟨y, 0, [], [], rfl, rfl, by rw [upd_ne hyp, upd_same]; rfl, trivial, rfl, rfl⟩⟩
    · simp [hxp.symm, hyp.symm, hyx.symm]
    · have o0 := r0.own (a := y) (by rw [f0]; simp)
      have o1 := r1.own (a := x) (by rw [f1]; simp)
      simp only [List.mem_cons, List.not_mem_nil, or_false] at ha
      rcases ha with rfl | rfl | rfl
      · exact ⟨z1, z2, z3⟩
      · exact o1.2
      · exact o0.2
/-- xs[j] = e, j of any sign -/
theorem wst_lputN (i : Nat) {x : Str} {l : List DL.D} (hΓ : Γ[i]? = some (.own (.lst l))) (h : WPe X c e Γ fun r => ∃ d, r = .im d ∧ WPe X c ie Γ fun r2 => ∃ (j : Int) (n : Nat), r2 = .im (.int j) ∧ ixN l.length j = some n ∧ D.nx (Γ.set i (.own (.lst (l.set n d))))) (hN : X.N[i]? = some x := by rfl)
    (hv : Vis X.env.scope x := by first | exact Or.inl rfl | exact Or.inr (Or.inl rfl) | exact Or.inr (Or.inr rfl)) (hd : (x == ("__debug__" : Str)) = false := by decide) (hcd : (x == ("__classdict__" : Str)) = false := by decide)
    (ha : ∀ v, assign (.Subscript (.Name x p) ie p2) X.env v = (do
      let ov ← holding [v] (eval (.Name x p) X.env)
      let iv ← holding [v, ov] (eval ie X.env)
      standAt p2
      holding [v, ov, iv] (setItem ov iv v)
      release [v, ov, iv] []) := by intro _; rfl) (hs1 : swapsWithSole [.Subscript (.Name x p) ie p2] e pos.line X.env = pure false := by rfl) (hs2 : swappedStores [.Subscript (.Name x p) ie p2] e X.env = pure none := by rfl)
    (hs3 : (assignEach [.Subscript (.Name x p) ie p2] X.env).map (·.2) = [assign (.Subscript (.Name x p) ie p2) X.env] := by rfl) : WPst X c (.Assign [.Subscript (.Name x p) ie p2] e pos) Γ D := fun F H σ E Ee ok => by
  refine ws_of (ps_asg pe_we (pg_sub (pe_var hN hv hd hcd) pe_we set_list ha) hs1 hs2 hs3) ?_
  refine h F H [] [] σ rfl E.env _ fun v r F1 H1 k1 E1 => ?_
  obtain ⟨d, hfr, k1⟩ := k1
  subst hfr
  have E1' : EnvR c F1 H1 σ Γ := E1.pop
  obtain ⟨q, vs, h1, h2, h3, h4⟩ := E1'.ownAt hΓ
  refine ⟨.ref q, h1, ?_⟩
  refine k1 F1 H1 [some v] [.im d] σ rfl E1 _ fun v2 r2 F2 H2 k2 E2 => ?_
  obtain ⟨j, n, hfr, hn, k⟩ := k2
  subst hfr
  have hy2 : v2 = .int j := E2.imAt (i := 0) rfl rfl
  subst hy2
  have E3 : EnvR c F2 H2 (some v :: σ) (.im d :: Γ) := E2.pop
  have hy := E3.imAt (i := 0) rfl rfl
  have E5 := E3.pop
  obtain ⟨q2, ws, g1, g2, g3, g4⟩ := E5.ownAt hΓ
  rw [h1] at g1
  cases g1
  refine ⟨q, ws, j, n, rfl, rfl, g2, by rw [← g3.length]; exact hn, ok.nx _ F2 _ σ k ⟨?_, E.nv.set rfl⟩⟩
  exact E5.write E.nv hΓ h1 ⟨_, upd_same, g3.set n hy⟩
end
end DL

set_option Elab.async false
set_option linter.all false
set_option pp.maxSteps 300
set_option maxRecDepth 100000
set_option maxHeartbeats 2000000
/-! DL17: a == b != c -/
namespace DL
open PySem PySem.Spec PyProof.Rows L2
section
variable {X : Cx} {c : C0} {Γ : List Sl} {K : Sl → Prop} {a b d : Expr} {pos : Pos}
theorem wp_cmp2 {op op' : CmpOp} (h : WPe X c a Γ fun ra => WPe X c b Γ fun rb => ∃ da db, frz ra = .im da ∧ frz rb = .im db ∧ OpD X c (compareOp op) (.im da) (.im db) fun r => ∃ k, r = .im (.bl k) ∧ (k = true → WPe X c d Γ fun rd => OpD X c (compareOp op') (.im db) (frz rd) K) ∧ (k = false → K (.im (.bl false))))
    (hm : lastMarks [op, op'] [b, d] = false := by with_unfolding_all rfl) : WPe X c (.Compare a [op, op'] [b, d] pos) Γ K := fun F H stk S σ hl E Q q => by
  refine we_of (pe_chain opr_rw opr_rw pe_we pe_we pe_we hm) ?_
  refine h F H stk S σ hl E _ fun x ra F1 H1 k1 E1 => ?_
  obtain ⟨F1, E1⟩ := E1.frzTop
  refine k1 F1 H1 (some x :: stk) (frz ra :: S) σ (by simp [hl]) E1 _ fun y rb F2 H2 k2 E2 => ?_
  obtain ⟨F2, E2⟩ := E2.frzTop
  obtain ⟨da, db, e1, e2, k2⟩ := k2
  rw [e1, e2] at E2
  have hy := E2.imAt (i := 0) rfl rfl
  have hx := E2.imAt (i := 1) (v := x) rfl rfl
  have E0 : EnvR c F2 H2 (stk ++ σ) (S ++ Γ) := E2.pop.pop
  refine k2 F2 H2 _ _ x y (((E0.push hy).push hx).push hy) _ fun v r F3 H3 k3 E3 => ?_
  obtain ⟨k, rfl, kt, kf⟩ := k3
  have hv : v = .bl k := E3.imAt (i := 0) rfl rfl
  refine ⟨k, hv, ?_⟩
  cases k with
  | true =>
    rw [if_pos rfl]
    refine kt rfl F3 H3 (some y :: stk) (.im db :: S) σ (by simp [hl]) E3.pop _ fun z rd F4 H4 k4 E4 => ?_
    obtain ⟨F4, E4⟩ := E4.frzTop
    exact k4 F4 H4 _ _ y z E4 Q fun v r F' H' kr E' => q v r F' H' kr E'
  | false =>
    rw [if_neg (by decide)]
    exact q (.bl false) (.im (.bl false)) F3 H3 (kf rfl) (EnvR.push (σ := stk ++ σ) (Γ := S ++ Γ) E3.pop.pop rfl)
/-- x is not y, flags -/
theorem od_notB {x y : Bool} (k : K (.im (.bl (!decide (x = y))))) : OpD X c (compareOp .IsNot) (.im (.bl x)) (.im (.bl y)) K :=
  opd_val (dr := .bl (!decide (x = y))) op_notBl (fun F H v w _ hx hy => ⟨.bl (!decide (x = y)), rfl, fun Q q => ⟨x, y, hx, hy, q⟩⟩) k
end
end DL

set_option Elab.async false
set_option linter.all false
set_option pp.maxSteps 300
set_option maxRecDepth 100000
set_option maxHeartbeats 2000000
/-! DL18: errors: raise, a def that raises -/
namespace DL
open PySem PySem.Spec PyProof.Rows L2
/-- an own class of errors without own __init__, as it stands behind the top -/
structure OwnE (K : PySem.W.Frag) (mg : Str → Option Value) (x : Str) (C : Addr) : Prop where
  q : ∃ (bmB : List Value) (B newId initId : String), ExcBaseFacts B newId initId bmB ∧ PySem.W.excIn K C bmB newId = true
  g : mg x = some (.ref C)
  k : PySem.W.keepIn K (.ref C) = true
  r1 : PySem.W.subIn K (.ref C) (.type "BaseException") = some true
  r2 : PySem.W.typeIn K (.ref C) = some (.type "type")
/-- an error of the class may leave -/
def Rz (X : Cx) (c : C0) (cls : Value) : Prop := ∃ E : XK, Takes X (fun k d _ H => E k d H) ∧ ∀ F H, EnvR c F H [] [] → E cls none H
section
variable {X : Cx} {c : C0} {Γ : List Sl} {D : DEnds} {x : Str} {C : Addr} {pos p cpos : Pos}
theorem pmk_own0 (O : OwnE X.K X.mg x C) (hg : Gl X x) (hdb : (x == ("__debug__" : Str)) = false := by decide) : PMk X (.Call (.Name x p) [] [] cpos) (fun _ H Q => Q (.ref C) none H) := by
  intro pins s σ H Q I h
  obtain ⟨bmB, B, newId, initId, F, q⟩ := O.q
  refine wpAny_Call_Name_kw (ld_glob I hg O.g ?_ hdb)
  refine PySem.W.callWith_K0 I.kIn O.k ?_
  obtain ⟨bm, N, nm, qn, bs, hdct, sn, sub, ab, col, dd, k0, k1, k2, k3, k5, mN, hC, hN, hni, T⟩ := exc_obj I.kIn q
  exact wpAny_call_exc_subT F T hC hN hni (fun h' e hm => mk_of I hm (raises_own O.r1 O.r2) h (I.hok.gone hm.new)) (Nat.zero_le _)
/-- nothing of the slots -/
theorem EnvR.none_ {F H : Hp} {σ : L2.St} (E : EnvR c F H σ Γ) : EnvR c F H [] [] where
  len := rfl
  ex0 := E.ex0
  ex := E.ex
  gr := E.gr
  fr := E.fr
  nw := E.nw
  hk := E.hk
  sl := ⟨fun _ => [], fun i s h => by simp at h, fun i j p z => by cases z⟩
/-- raise C() -/
theorem wst_raise (O : OwnE X.K X.mg x C) (hc : X.calm = true) (R : Rz X c (.ref C)) (hg : Gl X x := by rfl) (hdb : (x == ("__debug__" : Str)) = false := by decide) : WPst X c (.Raise (some (.Call (.Name x p) [] [] cpos)) none pos) Γ D := fun F H σ E Ee ok => by
  obtain ⟨W, tk, hw⟩ := R
  refine ws_of (ps_raise hc tk (pmk_own0 O hg hdb)) ?_
  exact hw F H E.env.none_
end
/-- a def that raises at such arguments -/
def SpE (n : Nat) (pre : List Sl → Prop) (cls : Value) : Sp := fun vs H _ E => vs.length = n ∧ ∃ (c : C0) (F : Hp) (rs : List Sl), rs.length = n ∧ pre rs ∧ NV rs ∧ c.F0 = F ∧ c.H0 = H ∧ EnvR c F H (vs.map some) rs ∧ ∀ F' H', EnvR c F' H' [] [] → E cls none H'
theorem fn_E {P : Program} {w : World} {K : PySem.W.Frag} {mg : Str → Option Value} {base : Heap} {x qual : Str} {st : Stmt} {f : Addr} {fd : FuncData} {N ps : List Str} {k : Nat} {cls : Value} (F : Fun K x qual st f fd) (S : FnScope N ps (defScope st)) {pre : List Sl → Prop}
    (hb : ∀ (cdv : Value) (A : Around) (outer : List Env) (s : Shared) (H : Hp) (E : XK) (c : C0) (rs : List Sl), Room k (A.deeper (PyProof.Rows.envOfC qual (defScope st) s.heap.objs.size f cdv)) → rs.length = ps.length → pre rs →
      Rz (cxOf (L2.CX P w) P w K mg base N qual (defScope st) f cdv A outer s H E) c cls →
      WPs (cxOf (L2.CX P w) P w K mg base N qual (defScope st) f cdv A outer s H E) c (defBody st) (rs ++ List.replicate (N.length - ps.length) .any) { nx := fun _ => False, rt := fun _ => False }) : FnOk P w K mg base (L2.CX P w) (k + 1) f fd ps (SpE ps.length pre cls) := by
  obtain ⟨oc, od, kV, doc, pm, an, cdv, ct, osl, rfl, lk, hcd⟩ := F.ex
  refine fn_of (sp := SpE ps.length pre cls) lk hcd S (fun vs H Q E h => h.1) (fun A outer s H vs Q E hr h => ⟨_, pss_wss, ?_⟩)
  obtain ⟨hl, c, F1, rs, hrl, hpre, nv, e1, e2, E1, q⟩ := h
  have hst : L2.start N vs = vs.map some ++ List.replicate (N.length - ps.length) none := by
    unfold L2.start
    rw [hl]
  rw [hst]
  exact hb cdv A outer s H E c rs hr hrl hpre ⟨E, takes_of rfl rfl rfl rfl, q⟩ F1 H _ ⟨E1.rest, nv.rest⟩ _ ⟨fun Γ F H σ hn E' => hn.elim, fun r v F H hn E' => hn.elim, fun Γ F H σ hn E' => hn.elim, fun Γ F H σ hn E' => hn.elim⟩
section
variable {X : Cx} {c : C0} {Γ : List Sl} {K : Sl → Prop} {pos p : Pos} {k : Nat} {f : Addr} {fd : FuncData} {ps : List Str} {pre : List Sl → Prop} {x : Str} {e : Expr} {es : List Expr} {cls : Value}
/-- f(e, ..), which raises -/
theorem wp_callE (G : FnOk X.prog X.w X.K X.mg X.base (L2.CX X.prog X.w) k f fd ps (SpE ps.length pre cls)) (R : Rz X c cls) (hr : Room k X.A) (hm : X.mg x = some (.ref f)) (hk : PySem.W.keepIn X.K (.ref f) = true) (hb : Binds X.K fd ps [])
    (h : WPa X c (e :: es) Γ fun rs => ∃ ds : List DL.D, rs = ds.map Sl.im ∧ ds.length = ps.length ∧ pre rs) (hg : Gl X x := by rfl) (hn : starEach (e :: es) X.env = (false, eval e X.env) :: starEach es X.env := by rfl) (hdb : (x == ("__debug__" : Str)) = false := by decide)
    (hpl : (backTo pos (starEach es X.env)).any (·.1) = false := by rfl) : WPe X c (.Call (.Name x p) (e :: es) [] pos) Γ K := fun F H stk S σ hl E Q q => by
  obtain ⟨W, tk, hw⟩ := R
  refine we_of (pe_call (E := W) G hr hg hm hk hb .nil (passes_call tk fun _ _ _ _ h => h) pa_wa hdb hn hpl) ?_
  refine h F H stk S σ hl E _ fun vs rs F1 H1 k1 hl1 E1 => ?_
  obtain ⟨ds, e1, hlen, hpre⟩ := k1
  subst e1
  have hvl : vs.length = ds.length := by simpa using hl1
  obtain ⟨E2, hd⟩ := EnvR.dats hvl E1
  rw [List.append_nil]
  refine ⟨by rw [hvl, hlen], c0 F1 H1, F1, ds.map Sl.im, by simpa using hlen, hpre, nv_ims ds, rfl, rfl, env_args E2.ex hd trivial (fun a z => by cases z) rfl rfl, fun F' H' E' => ?_⟩
  have E3 : EnvR (c0 F1 H1) F' H' [some .non] [.im .non] := E'.push (d := .non) rfl
  refine hw F' H' (E2.ret E3 rfl rfl (fun a z => by cases z) ?_ (fun z => by cases z) rfl).only.pop
  refine c.stab H1 H' (fun a w => ?_) (fun a φ h => E'.fr a _ h (by intro z; cases z)) E2.hk
  cases z : H1 a with
  | none => exact absurd z (E2.wne w)
  | some o => exact E'.fr a o z (by intro z; cases z)
end
end DL

set_option Elab.async false
set_option linter.all false
set_option pp.maxSteps 300
set_option maxRecDepth 100000
set_option maxHeartbeats 2000000
/-! DL19: a lambda handed to a def: one table changes, all else stays -/
namespace DL
open PySem PySem.Spec PyProof.Rows L2
/-- all but what stands at P stays -/
def ButP (P : Addr) (H H' : Hp) : Prop := ∀ b, b ≠ P → H b ≠ none → H' b = H b
theorem ButP.refl (P : Addr) (H : Hp) : ButP P H H := fun _ _ _ => rfl
section
variable {X : Cx} {pins : List (Addr × Obj)} {σ : L2.St} {H : Hp} {s : Shared}
theorem not_frame (I : Inv X pins σ H s) {f : Addr} (hf : s.heap.objs.size ≤ f) : f ∉ frs X.stack := fun z => by
  rcases List.mem_cons.mp (I.stkSub _ z) with e | e
  · have h1 := I.lt
    rw [← e] at h1
    exact absurd (Nat.lt_of_lt_of_le h1 hf) (Nat.lt_irrefl _)
  · exact I.nofs hf e
/-- the lambda is made -/
theorem lam_mk {P cd : Addr} {params : Arguments} {body : Expr} {scope : Scope} {pos : Pos} {Ex : Value → Shared → Prop} {Q : Value → Shared → Prop} (I : Inv X pins σ H s)
    (TB : LamX.TabB X.base X.mg cd P) (hcode : X.env.code = .ref cd) (t : LamX.TabS H P (X.env.qual ++ "<lambda>")) (hdef : defaultsOf params X.env = ([], []))
    (hfree : ∀ y ∈ scope.names, y.2 = .free → ∃ c, X.env.cells.lookup y.1 = some c)
    (h : ∀ (f c' : Addr) (pm ctv : Value) (H1 : Hp) (s' : Shared), Inv X pins σ H1 s' → ButP P H H1 → LamX.TabS H1 P (X.env.qual ++ "<lambda>") →
      s'.heap.get? f = some (PySem.W.kla_obj "<lambda>" (X.env.qual ++ "<lambda>") params body scope (cloFrom X.env.cells scope.names []) pm c' ctv) →
      H1 f = none → f ∉ frs X.stack → H1 c' = some (LamX.CodeO c' (X.env.qual ++ "<lambda>")) → Q (.ref f) s') :
    wpAny (model X.prog X.w) X.A (eval (.Lambda params body scope pos) X.env) Q Ex s := by
  obtain ⟨tb, hP, okT, know⟩ := t
  have atP : s.heap.get? P = some { cls := .none, data := .fields tb } := I.hok P _ hP
  refine PySem.W.kla_eval hdef ?_
  cases found : codeAmong pos tb.toList with
  | some cv =>
    -- its code object stands in the table
    obtain ⟨c', e, hco⟩ := know pos cv found
    subst e
    refine PySem.W.kla_makeFunctionHit (mg := X.mg) (c := cd) (P := P) (ps := tb) (closure_ok hfree) I.ok.glob (I.mod.glob.keeps I.bk) hcode (TB.code.keeps I.bk) atP okT found (TB.bm.keeps I.bk) fun ctv h' tk kp hsz => ?_
    have I1 : Inv X pins σ H { s with heap := h'.push (PySem.W.kla_obj "<lambda>" (X.env.qual ++ "<lambda>") params body scope (cloFrom X.env.cells scope.names []) ((X.mg "__name__").getD .none) c' ctv), toks := tk } :=
      I.kept fun b o e => Heap.get?_push_of_some _ (kp b o e)
    exact h h'.objs.size c' _ ctv H _ I1 (ButP.refl P H) ⟨tb, hP, okT, know⟩ (Heap.get?_push_size _ rfl) (I.hok.fresh hsz) (not_frame I hsz) hco
  | none =>
    refine PySem.W.kla_makeFunction (mg := X.mg) (c := cd) (P := P) (ps := tb) (closure_ok hfree) I.ok.glob (I.mod.glob.keeps I.bk) hcode (TB.code.keeps I.bk) atP okT found TB.gP (TB.bm.keeps I.bk) fun c' ctv h' tk kp hge hlt hrec htb => ?_
    obtain ⟨c2, oc, vs, tq, e2, hoc, hd, hv⟩ := hrec
    cases e2
    have big : s.heap.objs.size ≤ h'.objs.size := by omega
    have new : H c' = none := I.hok.fresh hge
    have nPc : P ≠ c' := fun z => by
      rw [← z, hP] at new
      cases new
    obtain ⟨tb', etb⟩ : ∃ tb' : Array Value, tb' = tb ++ #[rawInt pos.line, rawInt pos.col, .ref c'] := ⟨_, rfl⟩
    obtain ⟨H1, eH1⟩ : ∃ H1 : Hp, H1 = L2.upd (L2.upd H P (.tbl tb')) c' (LamX.CodeO c' (X.env.qual ++ "<lambda>")) := ⟨_, rfl⟩
    have I1 := LamX.inv_table (t' := tk) (more := #[rawInt pos.line, rawInt pos.col, .ref c']) (h' := h'.push (PySem.W.kla_obj "<lambda>" (X.env.qual ++ "<lambda>") params body scope (cloFrom X.env.cells scope.names []) ((X.mg "__name__").getD .none) c' ctv)) I hP
      (fun b o hb e => Heap.get?_push_of_some _ (kp b o hb e)) (Heap.get?_push_of_some _ htb) hge ⟨oc, vs, tq, Heap.get?_push_of_some _ hoc, hd, hv⟩
    rw [← etb, ← eH1] at I1
    have same : ButP P H H1 := fun b hb hn => by
      have nb : b ≠ c' := fun z => hn (by rw [z]; exact new)
      rw [eH1, upd_ne nb, upd_ne hb]
    have H1P : H1 P = some (.tbl tb') := by rw [eH1, upd_ne nPc, upd_same]
    have H1c : H1 c' = some (LamX.CodeO c' (X.env.qual ++ "<lambda>")) := by rw [eH1, upd_same]
    have eL : tb'.toList = tb.toList ++ [rawInt pos.line, rawInt pos.col, .ref c'] := by
      rw [etb]
      simp
    refine h h'.objs.size c' _ ctv H1 _ I1 same ⟨tb', H1P, ?_, fun p' cv hcv => ?_⟩ (Heap.get?_push_size _ rfl) ?_ (not_frame I big) H1c
    · rw [eL]
      exact PySem.TriplesOk_snoc _ _ _ _ okT
    · rw [eL] at hcv
      rcases LamX.among_app _ okT hcv with z | z
      · obtain ⟨c0, e1, e2⟩ := know p' cv z
        have nP0 : c0 ≠ P := fun z2 => by
          rw [z2, hP] at e2
          exact LamX.codeO_ne (c := P) (q := X.env.qual ++ "<lambda>") tb (Option.some.inj e2).symm
        exact ⟨c0, e1, by rw [same c0 nP0 (by rw [e2]; simp), e2]⟩
      · exact ⟨c', z, H1c⟩
    · have m1 : h'.objs.size ≠ c' := Nat.ne_of_gt hlt
      have m2 : h'.objs.size ≠ P := Nat.ne_of_gt (Nat.lt_of_lt_of_le (Heap.lt_size atP) big)
      rw [eH1, upd_ne m1, upd_ne m2]
      exact I.hok.fresh big
end
/-- f(lambda: body) -/
def tLm (P : Addr) (q : Str) (TT : (XK → Hp → VK → Prop) → Hp → VK → Prop) (t : XK → TE) : TE := fun σ H Q => LamX.TabS H P q ∧ ∀ H1, ButP P H H1 → LamX.TabS H1 P q → TT (fun E H' Q' => t E σ H' Q') H1 Q
section
variable {X : Cx}
theorem pe_lam {TT : (XK → Hp → VK → Prop) → Hp → VK → Prop} {x a : Str} {g cd P : Addr} {k : Nat} {st : Stmt} {fd : FuncData} {Ng : List Str} {params : Arguments} {body : Expr} {scope : Scope} {t : XK → TE} {p lpos pos : Pos}
    (F : Fun X.K x x st g fd) (Sg : FnScope Ng [a] (defScope st)) (hN0 : Ng[0]? = some a) (hg : Gl X x) (hm : X.mg x = some (.ref g)) (hb : L2.Binds X.K fd [a] [])
    (hG : ∀ cdv : Value, LamX.GivesTo X Ng x (defScope st) g cdv (defBody st) a (X.env.qual ++ "<lambda>") TT)
    (TB : LamX.TabB X.base X.mg cd P) (hcode : X.env.code = .ref cd) (hr : Room (k + 2) X.A) (L : LamX.LamS X.env.scope scope) (hdef : defaultsOf params X.env = ([], []))
    (hbind : ∀ (q : Str) (cl : List (Str × Addr)) (pm cv ctv : Value), bindArgs (PySem.W.kla_fn "<lambda>" q params body scope cl pm cv ctv) ⟨[], []⟩ = pure [])
    (hbody : ∀ (A : Around) (outer : List Env) (s : Shared) (H : Hp) (E : XK) (f c' : Addr), Room k (A.deeper (LamX.lamEnv X scope s.heap.objs.size f c')) → PE (LamX.lamCx X A outer s H E scope f c') body (t E))
    (hva : Vis (defScope st) a) (hdb : (x == ("__debug__" : Str)) = false := by decide) (hd : (a == ("__debug__" : Str)) = false := by decide) (hcd : (a == ("__classdict__" : Str)) = false := by decide) :
    PE X (.Call (.Name x p) [.Lambda params body scope lpos] [] pos) (tLm P (X.env.qual ++ "<lambda>") TT t) := by
  refine ⟨fun pins s σ H Q I h => ?_⟩
  obtain ⟨tab, h⟩ := h
  obtain ⟨oc, od, kV, doc, pm, an, cdv, ct, osl, efd, lk, hcg⟩ := F.ex
  subst efd
  refine wpAny_Call_Name_kw (ld_glob I hg hm ?_ hdb)
  refine PySem.W.callWith_K (h₀ := X.base) I.ok.mod.kin F.kp ?_ (by rfl) (by rfl)
  refine Calls.spliced_cons (lam_mk I TB hcode tab hdef (L.has I.ok) fun f c' pm' ctv H1 s' I1 same tab1 hf hfn hfr hco => ?_)
  refine Calls.spliced_nil ⟨I1.kIn, ?_⟩
  have run : codeAny (model X.prog X.w) X.A (.call (.ref g) ⟨[.ref f], []⟩) (CR C8.CX0 X.stack X.prog X.w H1 s' Q C8.E0) s' := by
    refine LamX.run_ofS (N := Ng) (ps := [a]) (us := [.ref f]) (vs := [.ref f]) lk hcg Sg hr I1.env0 (hb s' [.ref f] I1.kIn rfl) (.cons rfl .nil) rfl fun hr' => ?_
    obtain ⟨t', ht', hq'⟩ := hG cdv f c' s' H1 Q (fun E H' Q' => t E σ H' Q')
      (fun W pn xe E p1 p2 tk hW => LamX.pe_act (i := 0) I1 L hf hfn hfr (hbind _ _ _ _ _) tk hW hr' (fun A outer s H hr2 => hbody A outer s H E f c' hr2) hN0 hva hd hcd) hco (h H1 same tab1)
    exact ⟨t', ht'.nox, hq'⟩
  refine wpAny_call (codeAny_mono run fun r s2 hq => ?_)
  cases r with
  | error e => exact (show False from hq).elim
  | ok fl =>
    cases fl with
    | ret u => exact I1.after hq
    | next => exact False.elim hq
    | brk => exact False.elim hq
    | cont => exact False.elim hq
end
end DL

set_option Elab.async false
set_option linter.all false
set_option pp.maxSteps 300
set_option maxRecDepth 100000
set_option maxHeartbeats 2000000
/-! DL20: tables borne by C0; told(lambda: ..); the hand beside tables -/
namespace DL
open PySem PySem.Spec PyProof.Rows L2
/-- c bears the table at P, of lambdas of the name q -/
structure TabC (c : C0) (P : Addr) (q : Str) : Prop where
  w : P ∈ c.W
  t : ∀ H, c.hok H → LamX.TabS H P q
  s : ∀ H H', c.hok H → ButP P H H' → LamX.TabS H' P q → c.hok H'
/-- c bears a hand of draws, beside other things -/
structure HandC (c : C0) : Prop where
  ex : ∃ q1 q2, c.hp ≠ q1 ∧ c.hp ≠ q2 ∧ q1 ≠ q2 ∧ (∀ a ∈ [c.hp, q1, q2], a ∈ c.W) ∧ (∀ H, c.hok H → HandAt c.hp q1 q2 H) ∧
    ∀ H H', c.hok H → HandAt c.hp q1 q2 H' → (∀ a o, H a = some o → a ∉ [c.hp, q1, q2] → H' a = some o) → c.hok H'
theorem TabC.at {c : C0} {P : Addr} {q : Str} (T : TabC c P q) (F H : Hp) : TabC (c.at F H) P q := ⟨T.w, T.t, T.s⟩
theorem HandC.at {c : C0} (T : HandC c) (F H : Hp) : HandC (c.at F H) := ⟨T.ex⟩
theorem tabS_stay {H H' : Hp} {P : Addr} {q : Str} (t : LamX.TabS H P q) (h : H' P = H P) (x : ExtX H H') : LamX.TabS H' P q := by
  obtain ⟨ps, h1, h2, h3⟩ := t
  refine ⟨ps, by rw [h]; exact h1, h2, fun pos cv hc => ?_⟩
  obtain ⟨c, e1, e2⟩ := h3 pos cv hc
  exact ⟨c, e1, x c _ e2⟩
theorem tabS_ne {H : Hp} {P : Addr} {q : Str} (t : LamX.TabS H P q) : H P ≠ none := by
  obtain ⟨ps, h1, _⟩ := t
  rw [h1]
  exact Option.some_ne_none _
/-- a hand and tables -/
def cTab (F H : Hp) (p q1 q2 : Addr) (Ts : List (Addr × Str)) : C0 where
  F0 := F
  H0 := H
  W := [p, q1, q2] ++ Ts.map (·.1)
  hp := p
  hok := fun H => HandAt p q1 q2 H ∧ ∀ t ∈ Ts, LamX.TabS H t.1 t.2
  stab := fun H H' h x ⟨⟨gs, ss, su, tu, h1, h2, h3, h4⟩, ht⟩ => ⟨⟨gs, ss, su, tu, by rw [h p (by simp)]; exact h1, by rw [h q1 (by simp)]; exact h2, by rw [h q2 (by simp)]; exact h3, h4⟩,
    fun t hm => tabS_stay (ht t hm) (h t.1 (List.mem_append_right _ (List.mem_map.mpr ⟨t, hm, rfl⟩))) x⟩
  wl := fun H ⟨⟨gs, ss, su, tu, h1, h2, h3, h4⟩, ht⟩ a ha => by
    rcases List.mem_append.mp ha with ha | ha
    · simp only [List.mem_cons, List.not_mem_nil, or_false] at ha
      rcases ha with rfl | rfl | rfl
      · rw [h1]; exact Option.some_ne_none _
      · rw [h2]; exact Option.some_ne_none _
      · rw [h3]; exact Option.some_ne_none _
    · obtain ⟨t, hm, rfl⟩ := List.mem_map.mp ha
      exact tabS_ne (ht t hm)
theorem tabS_but {H H' : Hp} {P P2 : Addr} {q q2 : Str} (t : LamX.TabS H P q) (t2 : LamX.TabS H P2 q2) (hne : P ≠ P2) (b : ButP P2 H H') : LamX.TabS H' P q := by
  obtain ⟨ps, h1, h2, h3⟩ := t
  obtain ⟨ps2, g1, _⟩ := t2
  refine ⟨ps, by rw [b P hne (by rw [h1]; exact Option.some_ne_none _)]; exact h1, h2, fun pos cv hc => ?_⟩
  obtain ⟨c, e1, e2⟩ := h3 pos cv hc
  have nc : c ≠ P2 := fun z => by
    rw [z, g1] at e2
    exact LamX.codeO_ne (c := P2) (q := q) ps2 (Option.some.inj e2).symm
  exact ⟨c, e1, by rw [b c nc (by rw [e2]; exact Option.some_ne_none _)]; exact e2⟩
theorem cTab_tab {F H : Hp} {p q1 q2 : Addr} {Ts : List (Addr × Str)} {P : Addr} {q : Str} (hm : (P, q) ∈ Ts) (hu : ∀ t ∈ Ts, t.1 = P → t.2 = q) : TabC (cTab F H p q1 q2 Ts) P q where
  w := List.mem_append_right _ (List.mem_map.mpr ⟨_, hm, rfl⟩)
  t := fun H h => h.2 _ hm
  s := fun H H' ⟨⟨gs, ss, su, tu, h1, h2, h3, h4⟩, ht⟩ b t' => by
    obtain ⟨ps, g1, _⟩ := ht _ hm
    have g1 : H P = some (.tbl ps) := g1
    have ne : ∀ {a : Addr} {o : HO}, H a = some o → (∀ ps, o ≠ .tbl ps) → H' a = some o := fun {a o} e n => by
      rw [b a (fun z => ?_) (by rw [e]; exact Option.some_ne_none _)]
      · exact e
      · rw [z, g1] at e
        exact n ps (Option.some.inj e).symm
    refine ⟨⟨gs, ss, su, tu, ne h1 fun _ z => by (cases z), ne h2 fun _ z => by (cases z), ne h3 fun _ z => by (cases z), h4⟩, fun t hm' => ?_⟩
    by_cases e : t.1 = P
    · rw [hu t hm' e, e]
      exact t'
    · exact tabS_but (ht t hm') (ht _ hm) e b
theorem cTab_hand {F H : Hp} {p q1 q2 : Addr} {Ts : List (Addr × Str)} (h1 : p ≠ q1) (h2 : p ≠ q2) (h3 : q1 ≠ q2) (hT : ∀ t ∈ Ts, t.1 ∉ [p, q1, q2]) : HandC (cTab F H p q1 q2 Ts) where
  ex := ⟨q1, q2, h1, h2, h3, fun a ha => List.mem_append_left _ ha, fun H h => h.1, fun H H' h hh k => ⟨hh, fun t hm => by
    have ht := h.2 t hm
    refine tabS_stay ht ?_ fun a φ e => ?_
    · obtain ⟨ps, g1, _⟩ := ht
      rw [k t.1 _ g1 (hT t hm), g1]
    · refine k a _ e fun z => ?_
      obtain ⟨gs, ss, su, tu, e1, e2, e3, _⟩ := h.1
      simp only [List.mem_cons, List.not_mem_nil, or_false] at z
      rcases z with rfl | rfl | rfl
      · rw [show H a = _ from e1] at e; cases e
      · rw [show H a = _ from e2] at e; cases e
      · rw [show H a = _ from e3] at e; cases e⟩⟩
section
variable {c : C0} {F H H1 : Hp} {σ : L2.St} {Γ : List Sl} {P : Addr} {q : Str}
/-- the environment behind the making of a lambda -/
theorem EnvR.lam (E : EnvR c F H σ Γ) (T : TabC c P q) (b : ButP P H H1) (t : LamX.TabS H1 P q) : EnvR c F H1 σ Γ := by
  have keep : ∀ a o, H a = some o → a ∉ c.W → H1 a = some o := fun a o h w => by
    rw [b a (fun z => w (by rw [z]; exact T.w)) (by rw [h]; exact Option.some_ne_none _)]
    exact h
  refine E.step (Gr.refl F H) (fun a o h => keep a o (E.ex a o h) fun w => ?_) keep (T.s H H1 E.hk b t)
  rw [E.nw a w] at h
  cases h
end
/-- told: (w1, what is told), or (w2,) of an error of the class -/
def TTd (cls : Value) (w1 w2 : Str) : (XK → Hp → VK → Prop) → Hp → VK → Prop := fun tl H Q =>
  tl (fun k d H' => k = cls ∧ d = none ∧ ∀ p, H' p = none → Q (.ref p) (L2.upd H' p (.tup [.str w2]))) H fun v H' => ∀ p, H' p = none → Q (.ref p) (L2.upd H' p (.tup [.str w1, v]))
section
variable {X : Cx} {c : C0} {Γ : List Sl} {K : Sl → Prop}
theorem wp_told {w1 w2 x a : Str} {C g cd P : Addr} {k : Nat} {st : Stmt} {fd : FuncData} {Ng : List Str} {params : Arguments} {body : Expr} {scope : Scope} {p lpos pos : Pos} (T : TabC c P (X.env.qual ++ "<lambda>"))
    (Fg : Fun X.K x x st g fd) (Sg : FnScope Ng [a] (defScope st)) (hN0 : Ng[0]? = some a) (hm : X.mg x = some (.ref g)) (hb : L2.Binds X.K fd [a] [])
    (hG : ∀ cdv : Value, LamX.GivesTo X Ng x (defScope st) g cdv (defBody st) a (X.env.qual ++ "<lambda>") (TTd (.ref C) w1 w2)) (TB : LamX.TabB X.base X.mg cd P) (hcode : X.env.code = .ref cd) (hr : Room (k + 2) X.A)
    (hva : Vis (defScope st) a) (L : LamX.LamS X.env.scope scope)
    (h : (∀ (E : XK) (A : Around) (outer : List Env) (s : Shared) (F0 HH H0 : Hp) (f c' : Addr), Room k (A.deeper (LamX.lamEnv X scope s.heap.objs.size f c')) → WPe (LamX.lamCx X A outer s H0 E scope f c') (c.at F0 HH) body (Γ.map lookS) fun r => ∃ d, frz r = .im d ∧ K (.im (.tup [.str w1, d]))) ∨
      (K (.im (.tup [.str w2])) ∧ ∀ (E : XK) (A : Around) (outer : List Env) (s : Shared) (F0 HH H0 : Hp) (f c' : Addr), Room k (A.deeper (LamX.lamEnv X scope s.heap.objs.size f c')) → Rz (LamX.lamCx X A outer s H0 E scope f c') (c.at F0 HH) (.ref C) →
        WPe (LamX.lamCx X A outer s H0 E scope f c') (c.at F0 HH) body (Γ.map lookS) fun _ => False))
    (hg : Gl X x := by rfl) (hdef : defaultsOf params X.env = ([], []) := by rfl)
    (hbind : ∀ (q : Str) (cl : List (Str × Addr)) (pm cv ctv : Value), bindArgs (PySem.W.kla_fn "<lambda>" q params body scope cl pm cv ctv) ⟨[], []⟩ = pure [] := by intro _ _ _ _ _; rfl)
    (hdb : (x == ("__debug__" : Str)) = false := by decide) (hd : (a == ("__debug__" : Str)) = false := by decide) (hcd : (a == ("__classdict__" : Str)) = false := by decide) :
    WPe X c (.Call (.Name x p) [.Lambda params body scope lpos] [] pos) Γ K := fun F H stk S σ hl E Q q => by
  refine we_of (pe_lam (t := fun E σ H Q => ∀ (A : Around) (outer : List Env) (s0 : Shared) (H0 : Hp) (f c' : Addr), Room k (A.deeper (LamX.lamEnv X scope s0.heap.objs.size f c')) → WE (LamX.lamCx X A outer s0 H0 E scope f c') body σ H Q)
    Fg Sg hN0 hg hm hb hG TB hcode hr L hdef hbind (fun A outer s H E f c' hr2 => ⟨fun pins s1 σ H1 Q I h => h A outer s H f c' hr2 pins s1 I⟩) hva hdb hd hcd) ?_
  refine ⟨T.t H E.hk, fun H1 same tab => ?_⟩
  have E1 := E.lam T same tab
  have E2 : EnvR (c.at F H1) F H1 (stk ++ σ) ((S ++ Γ).map lookS) := E1.look (Gr.refl F H1) (Keep.refl _ _)
  rw [List.map_append] at E2
  have hl2 : stk.length = (S.map lookS).length := by simp [hl]
  rcases h with h | ⟨hk, h⟩
  · intro A outer s0 H0 f c' hr2
    refine h _ A outer s0 F H1 H0 f c' hr2 F H1 stk (S.map lookS) σ hl2 E2 _ fun v r F' H' kr E' p hp => ?_
    obtain ⟨d, hd, kd⟩ := kr
    obtain ⟨F2, E3⟩ := E'.frzTop
    rw [hd] at E3
    have hv := E3.imAt (i := 0) rfl rfl
    have E4 := (E3.pop.pushTup (l := [.str w1, d]) hp (.cons rfl (.one hv))).only
    exact q _ _ _ _ kd (E1.ret E4 rfl rfl (fun a z => z) E4.hk (fun z => by cases z) rfl)
  · intro A outer s0 H0 f c' hr2
    refine h _ A outer s0 F H1 H0 f c' hr2 ⟨_, takes_of rfl rfl rfl rfl, fun F' H' E' => ⟨rfl, rfl, fun p hp => ?_⟩⟩ F H1 stk (S.map lookS) σ hl2 E2 _ fun v r F' H' kr E' => kr.elim
    have E4 := (E'.pushTup (l := [.str w2]) hp (.one rfl)).only
    exact q _ _ _ _ hk (E1.ret E4 rfl rfl (fun a z => z) E4.hk (fun z => by cases z) rfl)
end
end DL

set_option Elab.async false
set_option linter.all false
set_option pp.maxSteps 300
set_option maxRecDepth 100000
set_option maxHeartbeats 2000000
/-! DL21: defs that bear tables: promises, calls, the law's own call -/
namespace DL
open PySem PySem.Spec PyProof.Rows L2
/-- a def whose code object is known -/
structure FunC (K : PySem.W.Frag) (x : Str) (st : Stmt) (f : Addr) (fd : FuncData) (cd : Addr) : Prop where
  ex : ∃ (oc : Value) (od : Option Addr) (kV doc pm : Value) (an : Option Addr) (ct : Value) (osl : Array (Option Value)),
    fd = PySem.W.fnOf x x (defArgs st) (defBody st) (defScope st) .none kV doc pm an (.ref cd) ct ∧ K.lookup f = some ⟨oc, od, .func fd, osl⟩ ∧ PySem.W.codeIn K (.ref cd) x = true
  kp : PySem.W.keepIn K (.ref f) = true
theorem FunC.fn {K : PySem.W.Frag} {x : Str} {st : Stmt} {f : Addr} {fd : FuncData} {cd : Addr} (F : FunC K x st f fd cd) : Fun K x x st f fd := by
  obtain ⟨oc, od, kV, doc, pm, an, ct, osl, e, lk, hc⟩ := F.ex
  exact ⟨⟨oc, od, kV, doc, pm, an, .ref cd, ct, osl, e, lk, hc⟩, F.kp⟩
section
variable {P : Program} {w : World} {K : PySem.W.Frag} {mg : Str → Option Value} {base : Heap} {k : Nat} {f cd : Addr} {fd : FuncData} {ps : List Str} {sp : Sp}
theorem fn_rawGC {x : Str} {st : Stmt} {N : List Str} (F : FunC K x st f fd cd) (S : FnScope N ps (defScope st)) (hlen : ∀ vs H Q E, sp vs H Q E → vs.length = ps.length)
    (hb : ∀ (A : Around) (outer : List Env) (s : Shared) (H : Hp) (vs : List V) (Q : VK) (E : XK), A.guards = some [] → Room k (A.deeper (PyProof.Rows.envOfC x (defScope st) s.heap.objs.size f (.ref cd))) → sp vs H Q E →
      WSs (cxOf L2.CX0 P w K mg base N x (defScope st) f (.ref cd) A outer s H E).nox (defBody st) { nx := fun _ H' => Q .non H', rt := Q } (vs.map some ++ List.replicate (N.length - ps.length) none) H) : FnG P w K mg base (k + 1) f fd ps sp := by
  obtain ⟨oc, od, kV, doc, pm, an, ct, osl, rfl, lk, hcd⟩ := F.ex
  refine ⟨hlen, fun A outer s H args us vs Q E hgd hr e0 hbd r h => ?_⟩
  have hl := hlen vs H Q E h
  have inK : K.In s.heap := e0.mod.kin.keeps fun b o e => (e0.bs b o e).1
  have noLim : s.heap.NoLimit := e0.mod.nolimit.keeps fun b o e => (e0.bs b o e).1
  have kinds : ∀ y ∈ ps.zip us, (defScope st).names.lookup y.1 = some .local ∨ ((defScope st).names.lookup y.1 = some .cell ∧ ((cellsFrom (s.heap.objs.size + 1) (defScope st).names []).lookup y.1).isSome = true) := by
    rintro ⟨n, v⟩ hy
    rcases S.par n (List.of_mem_zip hy).1 with z | z
    · exact .inl z
    · exact .inr ⟨z, PySem.W.cellsFrom_some _ _ _ (.inl z)⟩
  apply codeAny_call_function hr.depth (inK _ _ lk) rfl S.co S.gen rfl (PySem.W.codeRec_of inK hcd)
  apply hbd
  apply wpAny_newFunctionEnv_cells S.kind kinds
  intro env he s1 xi
  subst he
  refine ⟨noLim.keeps xi.toInCall.keep, codeAny_func ?_⟩
  have I := inv_start (CX := L2.CX0) (P := P) (w := w) (K := K) (mg := mg) (base := base) (E := E) S hr.hd e0 hl r xi
  have hst : L2.start N vs = vs.map some ++ List.replicate (N.length - ps.length) none := by
    unfold L2.start
    rw [hl]
  have W := hb A outer s H vs Q E hgd (hr.deeper _) h
  have T := (pss_wss (X := (cxOf L2.CX0 P w K mg base N x (defScope st) f (.ref cd) A outer s H E).nox) (sts := defBody st)).nox
  have run := T.run [] s1 (L2.start N vs) H { nx := fun _ H' => Q .non H', rt := Q } I (by rw [hst]; exact W)
  refine wpAny_mono run (fun fl s' hs => ?_) (fun e s' hs => hs)
  cases fl with
  | ret u =>
    obtain ⟨v, σ', H', J, rv, hq⟩ := hs
    exact ⟨v, H', J.os, J.bare, J.base, J.hok, rv, hq⟩
  | next =>
    obtain ⟨σ', H', J, hq⟩ := hs
    exact ⟨V.non, H', J.os, J.bare, J.base, J.hok, rfl, hq⟩
  | brk => exact hs.choose_spec.choose_spec.2.elim
  | cont => exact hs.choose_spec.choose_spec.2.elim
end
/-- SpD, with a C0 of a kind -/
def SpC (B : C0 → Prop) (n : Nat) (pre : List Sl → Prop) (post : List Sl → Sl → Prop) : Sp := fun vs H Q _ => vs.length = n ∧ ∃ (c : C0) (F : Hp) (rs : List Sl), B c ∧ rs.length = n ∧ pre rs ∧ NV rs ∧ c.F0 = F ∧ c.H0 = H ∧ EnvR c F H (vs.map some) rs ∧
  ∀ v r F' H', post rs r → EnvR c F' H' [some v] [r] → Q v H'
section
variable {P : Program} {w : World} {K : PySem.W.Frag} {mg : Str → Option Value} {base : Heap} {k : Nat} {f cd : Addr} {fd : FuncData} {ps : List Str} {B : C0 → Prop} {pre : List Sl → Prop} {post : List Sl → Sl → Prop}
theorem fn_GC {x : Str} {st : Stmt} {N : List Str} (F : FunC K x st f fd cd) (S : FnScope N ps (defScope st))
    (hb : ∀ (A : Around) (outer : List Env) (s : Shared) (H : Hp) (E : XK) (c : C0) (rs : List Sl), A.guards = some [] → Room k (A.deeper (PyProof.Rows.envOfC x (defScope st) s.heap.objs.size f (.ref cd))) → B c → rs.length = ps.length → pre rs →
      WPs (cxOf L2.CX0 P w K mg base N x (defScope st) f (.ref cd) A outer s H E).nox c (defBody st) (rs ++ List.replicate (N.length - ps.length) .any) { nx := fun _ => post rs (.im .non), rt := post rs }) : FnG P w K mg base (k + 1) f fd ps (SpC B ps.length pre post) :=
  fn_rawGC F S (fun vs H Q E h => h.1) fun A outer s H vs Q E hgd hr h => by
    obtain ⟨hl, c, F1, rs, hcd, hrl, hpre, nv, e1, e2, E1, q⟩ := h
    exact hb A outer s H E c rs hgd hr hcd hrl hpre F1 H _ ⟨E1.rest, nv.rest⟩ _ ⟨fun Γ F H σ hn E' => q .non (.im .non) F H hn (E'.env.push (d := .non) rfl).only, fun r v F H hn E' => q v r F H hn E', fun Γ F H σ hn E' => hn.elim, fun Γ F H σ hn E' => hn.elim⟩
end
section
variable {X : Cx} {c : C0} {Γ : List Sl} {K : Sl → Prop} {pos p : Pos} {k : Nat} {f : Addr} {fd : FuncData} {ps : List Str} {pre : List Sl → Prop} {post : List Sl → Sl → Prop} {x : Str} {e : Expr} {es : List Expr} {B : C0 → Prop}
/-- f(e, ..), f of a kind, no hand among the arguments -/
theorem wp_callC (hB : ∀ F H, B (c.at F H)) (G : FnG X.prog X.w X.K X.mg X.base k f fd ps (SpC B ps.length pre post)) (hgd : X.A.guards = some []) (hr : Room k X.A) (hm : X.mg x = some (.ref f)) (hk : PySem.W.keepIn X.K (.ref f) = true) (hb : Binds X.K fd ps [])
    (h : WPa X c (e :: es) Γ fun rs => ∃ ds : List DL.D, rs = ds.map Sl.im ∧ ds.length = ps.length ∧ pre rs ∧ ∀ r, post rs r → isv r = false ∧ K r) (hg : Gl X x := by rfl) (hn : starEach (e :: es) X.env = (false, eval e X.env) :: starEach es X.env := by rfl) (hdb : (x == ("__debug__" : Str)) = false := by decide)
    (hpl : (backTo pos (starEach es X.env)).any (·.1) = false := by rfl) : WPe X c (.Call (.Name x p) (e :: es) [] pos) Γ K := fun F H stk S σ hl E Q q => by
  refine we_of (pe_callG G hgd hr hg hm hk hb pa_wa hdb hn hpl) ?_
  refine h F H stk S σ hl E _ fun vs rs F1 H1 k1 hl1 E1 => ?_
  obtain ⟨ds, e1, hlen, hpre, k1⟩ := k1
  subst e1
  have hvl : vs.length = ds.length := by simpa using hl1
  obtain ⟨E2, hd⟩ := EnvR.dats hvl E1
  refine ⟨by rw [hvl, hlen], c.at F1 H1, F1, ds.map Sl.im, hB F1 H1, by simpa using hlen, hpre, nv_ims ds, rfl, rfl, env_args E2.ex hd E2.hk E2.nw rfl rfl, fun v r F' H' hpost E' => ?_⟩
  obtain ⟨h1, h2⟩ := k1 r hpost
  exact q v r F' H' h2 (E2.ret E' rfl rfl (fun a z => z) E'.hk (fun _ => rfl) h1)
/-- f(hand, e, ..), f of a kind -/
theorem wp_callCH (hB : ∀ F H, B (c.at F H)) (G : FnG X.prog X.w X.K X.mg X.base k f fd ps (SpC B ps.length pre post)) (hgd : X.A.guards = some []) (hr : Room k X.A) (hm : X.mg x = some (.ref f)) (hk : PySem.W.keepIn X.K (.ref f) = true) (hb : Binds X.K fd ps [])
    (h : WPa X c (e :: es) Γ fun rs => ∃ ds : List DL.D, rs = Sl.hand :: ds.map Sl.im ∧ ds.length + 1 = ps.length ∧ pre rs ∧ ∀ r, post rs r → isv r = false ∧ K r) (hg : Gl X x := by rfl) (hn : starEach (e :: es) X.env = (false, eval e X.env) :: starEach es X.env := by rfl) (hdb : (x == ("__debug__" : Str)) = false := by decide)
    (hpl : (backTo pos (starEach es X.env)).any (·.1) = false := by rfl) : WPe X c (.Call (.Name x p) (e :: es) [] pos) Γ K := fun F H stk S σ hl E Q q => by
  refine we_of (pe_callG G hgd hr hg hm hk hb pa_wa hdb hn hpl) ?_
  refine h F H stk S σ hl E _ fun vs rs F1 H1 k1 hl1 E1 => ?_
  obtain ⟨ds, e1, hlen, hpre, k1⟩ := k1
  subst e1
  cases vs with
  | nil => simp at hl1
  | cons v0 vs =>
    have hvl : vs.length = ds.length := by simpa using hl1
    have E1' : EnvR c F1 H1 (vs.reverse.map some ++ (some v0 :: (stk ++ σ))) ((ds.map Sl.im).reverse ++ (.hand :: (S ++ Γ))) := by simpa [List.append_assoc] using E1
    obtain ⟨E2, hd⟩ := EnvR.dats hvl E1'
    have e0 : v0 = .ref c.hp := by
      have := E2.hand (i := 0) rfl
      simpa using this
    subst e0
    have EA : EnvR (c.at F1 H1) F1 H1 (vs.map some) (ds.map Sl.im) := env_args E2.ex hd E2.hk E2.nw rfl rfl
    have EB : EnvR (c.at F1 H1) F1 H1 (some (.ref c.hp) :: vs.map some) (.hand :: ds.map Sl.im) := EA.pushS ⟨rfl, rfl⟩
    refine ⟨by simp [hvl, hlen], c.at F1 H1, F1, .hand :: ds.map Sl.im, hB F1 H1, by simpa using hlen, hpre, (nv_ims ds).cons rfl, rfl, rfl, EB, fun v r F' H' hpost E' => ?_⟩
    obtain ⟨h1, h3⟩ := k1 r hpost
    exact q v r F' H' h3 (E2.pop.ret E' rfl rfl (fun a z => z) E'.hk (fun _ => rfl) h1)
theorem spT_call {F H F1 H1 : Hp} {L : L2.St} {G : List Sl} {vs : List V} {ds : List DL.D} {Q : VK} {E0 : XK} (hcd : HandC c) (hl1 : vs.length = (Sl.hand :: ds.map Sl.im).length) (E1 : EnvR c F1 H1 (vs.reverse.map some ++ L) ((Sl.hand :: ds.map Sl.im).reverse ++ G)) (hlen : ds.length + 1 = ps.length) (hpre : pre (Sl.hand :: ds.map Sl.im))
    (k1 : ∀ r, post (Sl.hand :: ds.map Sl.im) r → isv r = false ∧ K r) (q : ∀ v r F' H', K r → EnvR c F' H' (some v :: L) (r :: G) → Q v H') : SpH ps.length pre post vs H1 Q E0 := by
  cases vs with
  | nil => simp at hl1
  | cons v0 vs =>
    have hvl : vs.length = ds.length := by simpa using hl1
    have E1' : EnvR c F1 H1 (vs.reverse.map some ++ (some v0 :: L)) ((ds.map Sl.im).reverse ++ (.hand :: G)) := by simpa [List.append_assoc] using E1
    obtain ⟨E2, hd⟩ := EnvR.dats hvl E1'
    have e0 : v0 = .ref c.hp := by
      have := E2.hand (i := 0) rfl
      simpa using this
    subst e0
    obtain ⟨q1, q2, n1, n2, n3, hW, hat, back⟩ := hcd.ex
    have EA : EnvR (cHand F1 H1 c.hp q1 q2) F1 H1 (vs.map some) (ds.map Sl.im) := env_args E2.ex hd (hat H1 E2.hk) (fun a z => E2.nw a (hW a z)) rfl rfl
    have EB : EnvR (cHand F1 H1 c.hp q1 q2) F1 H1 (some (.ref c.hp) :: vs.map some) (.hand :: ds.map Sl.im) := EA.pushS ⟨rfl, rfl⟩
    refine ⟨by simp [hvl, hlen], cHand F1 H1 c.hp q1 q2, F1, .hand :: ds.map Sl.im, cHand_handy n1 n2 n3, by simpa using hlen, hpre, (nv_ims ds).cons rfl, rfl, rfl, EB, fun v r F' H' hpost E' => ?_⟩
    obtain ⟨h1, h3⟩ := k1 r hpost
    exact q v r F' H' h3 (E2.pop.ret E' rfl rfl (fun a z => hW a z) (back H1 H' E2.hk E'.hk fun a o z n => E'.fr a o z n) (fun _ => rfl) h1)
/-- f(hand, e, ..), the hand beside tables -/
theorem wp_callYT (hcd : HandC c) (G : FnOk X.prog X.w X.K X.mg X.base L2.CX0 k f fd ps (SpH ps.length pre post)) (hr : Room k X.A) (hm : X.mg x = some (.ref f)) (hk : PySem.W.keepIn X.K (.ref f) = true) (hb : Binds X.K fd ps [])
    (h : WPa X c (e :: es) Γ fun rs => ∃ ds : List DL.D, rs = Sl.hand :: ds.map Sl.im ∧ ds.length + 1 = ps.length ∧ pre rs ∧ ∀ r, post rs r → isv r = false ∧ K r) (hg : Gl X x := by rfl) (hn : starEach (e :: es) X.env = (false, eval e X.env) :: starEach es X.env := by rfl) (hdb : (x == ("__debug__" : Str)) = false := by decide)
    (hpl : (backTo pos (starEach es X.env)).any (·.1) = false := by rfl) : WPe X c (.Call (.Name x p) (e :: es) [] pos) Γ K := fun F H stk S σ hl E Q q => by
  refine we_of (pe_call (E := L2.E0) G hr hg hm hk hb .nil L2.pass0 pa_wa hdb hn hpl) ?_
  refine h F H stk S σ hl E _ fun vs rs F1 H1 k1 hl1 E1 => ?_
  obtain ⟨ds, e1, hlen, hpre, k1⟩ := k1
  subst e1
  rw [List.append_nil]
  exact spT_call (F := F) (H := H) hcd hl1 E1 hlen hpre k1 q
end
end DL

set_option Elab.async false
set_option linter.all false
set_option pp.maxSteps 300
set_option maxRecDepth 100000
set_option maxHeartbeats 2000000
/-! DL22: the law's own call, with tables -/
namespace DL
open PySem PySem.Spec PyProof.Rows L2
/-- an empty table of code objects -/
abbrev noTab : Obj := { cls := .none, data := .fields #[] }
/-- LawG, with tables that are empty at the start -/
def LawT (P : Program) (w : World) (K : PySem.W.Frag) (mg : Str → Option Value) (k : Nat) (fa : Addr) (fd : FuncData) (x : Str) (n : Nat) (cs : List (Addr × Addr)) : Prop :=
  ∀ base : Heap, K.In base → base.Ns mainGlobals mg → (∀ p ∈ cs, LamX.TabB base mg p.1 p.2) →
    FnG P w K mg base k fa fd [x] (fun vs H Q _ => ∃ (a : Addr) (ns : List Int), vs = [.ref a] ∧ ns.length ≤ n ∧ (∀ p ∈ cs, H p.2 = some (.tbl #[])) ∧ SqL K H a (ns.map V.int) ∧ ∀ H', Q (.bl true) H')
def heapT (K : PySem.W.Frag) (a : Addr) (o : Obj) (u : HO) (Ts : List Addr) : Hp := fun b => if b = a ∧ K.lookup a = none then some (.frz o u) else if b ∈ Ts then some (.tbl #[]) else none
theorem heapT_cases {K : PySem.W.Frag} {a b : Addr} {o : Obj} {u : HO} {Ts : List Addr} : heapT K a o u Ts b = none ∨ (b = a ∧ K.lookup a = none ∧ heapT K a o u Ts b = some (.frz o u)) ∨ (b ∈ Ts ∧ heapT K a o u Ts b = some (.tbl #[])) := by
  unfold heapT
  by_cases h : b = a ∧ K.lookup a = none
  · rw [if_pos h]
    exact .inr (.inl ⟨h.1, h.2, rfl⟩)
  · rw [if_neg h]
    by_cases h2 : b ∈ Ts
    · rw [if_pos h2]
      exact .inr (.inr ⟨h2, rfl⟩)
    · rw [if_neg h2]
      exact .inl rfl
theorem law_callTG {P : Program} {w : World} {K : PySem.W.Frag} {mg mb : Str → Option Value} {k n : Nat} {fa a : Addr} {fd : FuncData} {x : Str} {s₁ : Shared} {vs : List Value} {ns : List Int} {cs : List (Addr × Addr)}
    (KX : K.In s₁.heap) (hns : s₁.heap.Ns mainGlobals mg) (hb : s₁.heap.Ns builtinsNs mb) (hbb : ∀ x : Str, x ≠ "__name__" → mb x = bootBuiltins x) (hlim : s₁.heap.NoLimit) (hg : s₁.gens = #[])
    (hT : ∀ p ∈ cs, s₁.heap.get? p.2 = some noTab) (nT : ∀ p ∈ cs, K.lookup p.2 = none) (hC : ∀ p ∈ cs, PySem.W.codeHdIn K p.1 p.2 = true)
    (hbm : ∃ (bm : Addr) (ob : Obj), mg "__builtins__" = some (.ref bm) ∧ bm ≠ builtinsNs ∧ s₁.heap.get? bm = some ob ∧ ob.cls = .type "module" ∧ ob.dict = some builtinsNs ∧ ob.data = .plain)
    (ha : s₁.heap.get? a = some { cls := .type "list", data := .seq vs.toArray }) (hi : IntsAre vs ns) (hn : ns.length ≤ n) (hl : n ≤ sizeLine) (hr : Room k callerA)
    (F : LawT P w K mg k fa fd x n cs) (hbind : ∀ (s : Shared) (u : Value), BindsTo s fd ⟨[u], []⟩ [(x, u)]) :
    codeAny (model P w) callerA (.call (.ref fa) ⟨[.ref a], []⟩) (fun r s' => r = .ok (.ret (.bool true)) ∧ OldK s₁.heap s'.heap ∧ s'.os = s₁.os ∧ AllBare s'.gens) s₁ := by
  have rv := vals_ints hi
  obtain ⟨Ts, eTs⟩ : ∃ Ts : List Addr, Ts = cs.map (·.2) := ⟨_, rfl⟩
  have inTs : ∀ p ∈ cs, p.2 ∈ Ts := fun p hp => by
    rw [eTs]
    exact List.mem_map.mpr ⟨p, hp, rfl⟩
  have ofTs : ∀ b ∈ Ts, ∃ p ∈ cs, p.2 = b := fun b hb => by
    rw [eTs] at hb
    exact List.mem_map.mp hb
  have getT : ∀ b ∈ Ts, s₁.heap.get? b = some noTab := fun b hb => by
    obtain ⟨p, hp, rfl⟩ := ofTs b hb
    exact hT p hp
  have aT : a ∉ Ts := fun z => by
    have q := getT a z
    rw [ha] at q
    exact absurd (congrArg Obj.data (Option.some.inj q)) (by intro z; cases z)
  let H : Hp := heapT K a { cls := .type "list", data := .seq vs.toArray } (.lst (ns.map V.int)) Ts
  have hat : ∀ b u, H b = some u → (b = a ∧ K.lookup a = none ∧ u = .frz { cls := .type "list", data := .seq vs.toArray } (.lst (ns.map V.int))) ∨ (b ∈ Ts ∧ u = .tbl #[]) := fun b u hu => by
    rcases heapT_cases (K := K) (a := a) (b := b) (o := { cls := .type "list", data := .seq vs.toArray }) (u := .lst (ns.map V.int)) (Ts := Ts) with z | ⟨z1, z2, z⟩ | ⟨z1, z⟩
    · rw [show H b = none from z] at hu
      cases hu
    · rw [show H b = _ from z] at hu
      cases hu
      exact .inl ⟨z1, z2, rfl⟩
    · rw [show H b = _ from z] at hu
      cases hu
      exact .inr ⟨z1, rfl⟩
  have HT : ∀ b ∈ Ts, H b = some (.tbl #[]) := fun b hb => by
    have n1 : ¬ (b = a ∧ K.lookup a = none) := fun z => aT (by rw [← z.1]; exact hb)
    show (if b = a ∧ K.lookup a = none then _ else if b ∈ Ts then _ else _) = _
    rw [if_neg n1, if_pos hb]
  have hS : SqL K H a (ns.map V.int) := by
    cases hk : K.lookup a with
    | some o =>
      have e := KX a o hk
      rw [ha] at e
      cases e
      exact .inr ⟨_, vs.toArray, _, hk, rfl, rfl, rfl, by rw [List.size_toArray, ← rv.length, List.length_map]; omega, by simpa using rv⟩
    | none => exact .inl (.inr ⟨{ cls := .type "list", data := .seq vs.toArray }, if_pos ⟨rfl, hk⟩⟩)
  have hok : HOk P w H s₁.heap := fun b u hu => by
    rcases hat b u hu with ⟨rfl, _, rfl⟩ | ⟨hb, rfl⟩
    · exact ⟨ha, by rw [List.length_map]; omega, vs, _, rv, ha⟩
    · exact getT b hb
  have free : ∀ {b : Addr} {o : Obj}, s₁.heap.get? b = some o → (∀ vs n, o.data ≠ .seq vs n) → o.data ≠ .fields #[] → H b = none := fun {b o} e d1 d2 => by
    cases q : H b with
    | none => rfl
    | some u =>
      rcases hat b u q with ⟨rfl, _, _⟩ | ⟨hb, _⟩
      · rw [ha] at e
        cases e
        exact absurd rfl (d1 _ _)
      · rw [getT b hb] at e
        cases e
        exact absurd rfl d2
  have freeD : ∀ {b : Addr} {o : Obj} {es : Array DictEntry} {ep : Nat}, s₁.heap.get? b = some o → o.data = .dict es ep → H b = none := fun {b o es ep} e d =>
    free e (fun _ _ z => by rw [d] at z; cases z) fun z => by rw [d] at z; cases z
  have nsK : ∀ {b : Addr} {m : Str → Option Value}, s₁.heap.Ns b m → (hidT s₁.heap H).Ns b m := fun {b m} z => by
    obtain ⟨o, es, ep, e, d, r⟩ := z
    exact ⟨o, es, ep, hidT_get e (freeD e d), d, r⟩
  have hKb : K.In (hidT s₁.heap H) := fun b o e => hidT_get (KX b o e) (by
    cases q : H b with
    | none => rfl
    | some u =>
      rcases hat b u q with ⟨rfl, h2, _⟩ | ⟨hb, _⟩
      · rw [h2] at e
        cases e
      · obtain ⟨p, hp, rfl⟩ := ofTs b hb
        rw [nT p hp] at e
        cases e)
  have lim' : (hidT s₁.heap H).NoLimit := by
    obtain ⟨mc, h1, h2⟩ := hlim
    exact ⟨mc, nsK h1, h2⟩
  have notNs : ∀ {b : Addr} {m : Str → Option Value} {o : Obj}, s₁.heap.Ns b m → s₁.heap.get? b = some o → ∃ es ep, o.data = .dict es ep := fun {b m o} z e => by
    obtain ⟨o2, es, ep, e2, d, _⟩ := z
    rw [e2] at e
    cases e
    exact ⟨es, ep, d⟩
  have TB : ∀ p ∈ cs, LamX.TabB (hidT s₁.heap H) mg p.1 p.2 := fun p hp => by
    have hTp := hT p hp
    obtain ⟨bm, ob, b1, b2, b3, b4, b5, b6⟩ := hbm
    refine ⟨PySem.W.codeHd_of_K hKb (hC p hp), ⟨bm, ob, b1, b2, fun q => ?_, fun q => ?_, ?_, b4, b5, b6⟩, fun z => ?_⟩
    · rw [q] at b3
      obtain ⟨es, ep, d⟩ := notNs hns b3
      rw [b6] at d
      cases d
    · rw [q, hTp] at b3
      cases b3
      cases b6
    · exact hidT_get b3 (free b3 (fun _ _ z => by rw [b6] at z; cases z) fun z => by rw [b6] at z; cases z)
    · rw [← z] at hTp
      obtain ⟨es, ep, d⟩ := notNs hns hTp
      cases d
  have e0 : Env0 P w K mg (hidT s₁.heap H) callerA [] s₁ H := by
    refine ⟨rfl, ⟨hKb, nsK hns, ⟨mb, nsK hb, hbb⟩, lim'⟩, fun b o e => of_hidT e, Nat.le_of_eq (hidT_size _ _), trivial, fun b hb => ?_, hok, .of_eq hg⟩
    cases hb
  have R := (F _ hKb (nsK hns) TB).go callerA [] s₁ H ⟨[.ref a], []⟩ [.ref a] [.ref a] (fun v _ => v = .bl true) L2.E0 rfl hr e0 (hbind s₁ (.ref a)) (.cons rfl .nil) ⟨a, ns, rfl, hn, fun p hp => HT _ (inTs p hp), hS, fun _ => rfl⟩
  refine codeAny_mono R fun r s' h => ?_
  cases r with
  | error e => exact h.elim
  | ok fl =>
    cases fl with
    | next => exact False.elim h
    | brk => exact False.elim h
    | cont => exact False.elim h
    | ret u =>
      obtain ⟨v, H', os, bare, un, hok', r', q⟩ := h
      have q' : v = .bl true := q
      subst q'
      have eu : u = Value.bool true := r'
      subst eu
      have kept : ∀ b o, b ∉ Ts → s₁.heap.get? b = some o → s'.heap.get? b = some o := fun b o nb e => by
        cases q : H b with
        | none => exact un.keep b o e q (fun z => by cases z) (fun z => by cases z)
        | some y =>
          rcases hat b y q with ⟨rfl, _, rfl⟩ | ⟨hb, _⟩
          · obtain ⟨e1, _⟩ := hok _ _ q
            obtain ⟨e2, _⟩ := hok' _ _ (un.frzs _ _ _ q)
            rw [e] at e1
            cases e1
            exact e2
          · exact absurd hb nb
      have grown : ∀ b ∈ Ts, ∃ more : Array Value, s'.heap.get? b = some { cls := .none, data := .fields more } := fun b hb => by
        obtain ⟨more, z⟩ := un.tbls b #[] (HT b hb)
        exact ⟨_, hok' b _ z⟩
      refine ⟨rfl, ⟨fun b o e => ?_, fun b o e => ?_⟩, os, bare⟩
      · by_cases hb : b ∈ Ts
        · obtain ⟨p, hp, rfl⟩ := ofTs b hb
          obtain ⟨more, hm⟩ := grown _ hb
          rw [hT p hp] at e
          cases e
          exact .inr (.inl ⟨((PySem.W.codeHd_of_K KX (hC p hp)).tab (hT p hp)).isCodeTable, rfl, #[], more, rfl, by rw [Array.empty_append]; exact hm⟩)
        · exact .inl (kept b o hb e)
      · by_cases hb : b ∈ Ts
        · obtain ⟨more, hm⟩ := grown b hb
          exact ⟨_, hm⟩
        · exact ⟨o, kept b o hb e⟩
/-- the goal that k_head leaves; the defs named make lambdas -/
theorem walk_ofTG {l : PySem.W.OpenLaw} {n k : Nat} {q : Program} {loose : List Str} {XP : (Str → Option Value) → Heap → Prop} {YP : World → Heap → Prop} {d : DefRec} {K : Params → PySem.W.Frag} {x : Str} {names : List Str}
    (hn : l.most = some n) (hn2 : n ≤ sizeLine) (hdf : d.params.defaults = []) (hr : Room k callerA) (hrec : ∀ y ∈ names, ((recsOf q).find? fun e => e.name == y).isSome = true)
    (hY : ∀ (w : World) (h : Heap), YP w h → (K w.params).In h)
    (F : ∀ (w : World) (mg : Str → Option Value) (fa : Addr) (h : Heap), (K w.params).In h → h.Ns mainGlobals mg → mg d.name = some (.ref fa) → (∀ y ∈ names, ∀ c P, PySem.W.tabIn (K w.params) y = some (c, P) → h.get? P = some noTab) →
      ∃ (fd : FuncData) (cs : List (Addr × Addr)), (∀ p ∈ cs, h.get? p.2 = some noTab) ∧ (∀ p ∈ cs, (K w.params).lookup p.2 = none) ∧ (∀ p ∈ cs, PySem.W.codeHdIn (K w.params) p.1 p.2 = true) ∧ (∀ (s : Shared) (u : Value), BindsTo s fd ⟨[u], []⟩ [(x, u)]) ∧ LawT l.prog w (K w.params) mg k fa fd x n cs) :
    PySem.W.WalkO q loose XP YP l.row.toRowW d [] (fun f vs => PySem.call f vs) := by
  refine Att.attach_call hn hdf fun w s₀ s₁ mg mb fa o pm cd doc a vs ns G Y ho hd hcd hmg hobj hints hlen hg => ?_
  have KX := hY w _ Y
  obtain ⟨fd, cs, h1, h2, h3, hb, hF⟩ := F w mg fa _ KX G.T.g hmg fun y hy c P e => by
    obtain ⟨dL, hd'⟩ := Option.isSome_iff_exists.mp (hrec y hy)
    exact (PySem.W.tab_of G.T KX hd' e).2
  exact law_callTG KX G.T.g G.T.b G.T.builtins G.T.nolimit hg h1 h2 h3 G.T.bmain hobj hints hlen hn2 hr hF hb
end DL

set_option Elab.async false
set_option linter.all false
set_option pp.maxSteps 300
set_option maxRecDepth 100000
set_option maxHeartbeats 2000000
/-! DL23: x, (y, z) as a target; x is None -/
namespace DL
open PySem PySem.Spec PyProof.Rows L2
section
variable {X : Cx} {c : C0} {Γ : List Sl} {K : List Sl → Prop} {pos : Pos}
theorem gt_nest (i j l : Nat) {x y z : Str} {d1 d2 d3 : DL.D} {px py pz pt : Pos} {kt k2} (hc : X.calm = true) (hN : X.N.Nodup) (k : K (((Γ.set i (.im d1)).set j (.im d2)).set l (.im d3))) (hl : i < Γ.length := by exact Nat.le_of_ble_eq_true rfl) (hl2 : j < Γ.length := by exact Nat.le_of_ble_eq_true rfl) (hl3 : l < Γ.length := by exact Nat.le_of_ble_eq_true rfl)
    (hi : X.N[i]? = some x := by rfl) (hj : X.N[j]? = some y := by rfl) (hll : X.N[l]? = some z := by rfl)
    (hx : Loc X.env.scope x := by first | exact Or.inl rfl | exact Or.inr rfl) (hy : Loc X.env.scope y := by first | exact Or.inl rfl | exact Or.inr rfl) (hz : Loc X.env.scope z := by first | exact Or.inl rfl | exact Or.inr rfl)
    (hf : X.fn x = true ∨ X.env.scope.names.lookup x = some .local := by first | exact .inl rfl | exact .inr rfl) (hf2 : X.fn y = true ∨ X.env.scope.names.lookup y = some .local := by first | exact .inl rfl | exact .inr rfl) (hf3 : X.fn z = true ∨ X.env.scope.names.lookup z = some .local := by first | exact .inl rfl | exact .inr rfl)
    (hn : (assignEach [.Name x px, .Tuple [.Name y py, .Name z pz] k2 pt] X.env).length = 2 := by rfl) (hst : (assignEach [.Name x px, .Tuple [.Name y py, .Name z pz] k2 pt] X.env).findIdx? (·.1) = none := by rfl)
    (hn2 : (assignEach [.Name y py, .Name z pz] X.env).length = 2 := by rfl) (hst2 : (assignEach [.Name y py, .Name z pz] X.env).findIdx? (·.1) = none := by rfl)
    (hs1 : (assignEach [.Name x px, .Tuple [.Name y py, .Name z pz] k2 pt] X.env).map (·.2) = assign (.Name x px) X.env :: (assignEach [.Tuple [.Name y py, .Name z pz] k2 pt] X.env).map (·.2) := by rfl)
    (hs2 : (assignEach [.Tuple [.Name y py, .Name z pz] k2 pt] X.env).map (·.2) = assign (.Tuple [.Name y py, .Name z pz] k2 pt) X.env :: (assignEach [] X.env).map (·.2) := by rfl)
    (hs3 : (assignEach [.Name y py, .Name z pz] X.env).map (·.2) = assign (.Name y py) X.env :: (assignEach [.Name z pz] X.env).map (·.2) := by rfl) (hs4 : (assignEach [.Name z pz] X.env).map (·.2) = assign (.Name z pz) X.env :: (assignEach [] X.env).map (·.2) := by rfl) :
    GtD X c (.Tuple [.Name x px, .Tuple [.Name y py, .Name z pz] k2 pt] kt pos) (.im (.tup [d1, .tup [d2, d3]])) Γ K := fun F H stk S σ v hls nv E Q q => by
  refine gw_of (pg_tup hc (pgs_cons (pg_name hN hi hx hf) (pgs_cons (pg_tup hc (pgs_cons (pg_name hN hj hy hf2) (pgs_cons (pg_name hN hll hz hf3) pgs_nil hs4) hs3) hn2 hst2) pgs_nil hs2) hs1) hn hst) ?_
  obtain ⟨p, vs, e, hp, v1, w1, e1, hd1, v2, w2, e2, hd2, e3⟩ := E.imAt (i := 0) rfl rfl
  have e3 : w2 = [] := e3
  subst e3 e2 e1
  obtain ⟨p2, us, e4, hp2, u1, y1, f1, hu1, u2, y2, f2, hu2, f3⟩ := hd2
  have f3 : y2 = [] := f3
  subst f3 f2 f1
  refine ⟨p, [v1, v2], e, .inl (.inl (E.ex _ _ hp)), rfl, v1, [v2], rfl, v2, [], rfl, p2, [u1, u2], e4, .inl (.inl (E.ex _ _ hp2)), rfl, u1, [u2], rfl, u2, [], rfl, rfl, rfl, ?_⟩
  have E1 := ((E.pop.push hd1).storeS hls hl)
  have E2 := (E1.push hu1).storeS (Γ := Γ.set i (.im d1)) hls (by simpa using hl2)
  have E3 := (E2.push hu2).storeS (Γ := (Γ.set i (.im d1)).set j (.im d2)) hls (by simpa using hl3)
  exact q F H _ _ k (((nv.set (nv_of rfl)).set (nv_of rfl)).set (nv_of rfl)) E3
end
section
variable {X : Cx} {c : C0} {K : Sl → Prop}
def isN : DL.D → Bool
  | .non => true
  | _ => false
theorem od_isN {d : DL.D} (k : K (.im (.bl (isN d)))) : OpD X c (compareOp .Is) (.im d) (.im .non) K :=
  opd_val (dr := .bl (isN d)) op_isN (fun F H v w _ hx hy => ⟨.bl (isN d), rfl, fun Q q => ⟨hy, by
    cases d with
    | non => rw [show v = .non from hx]; exact q
    | bl b => rw [show v = .bl b from hx]; exact q
    | int b => rw [show v = .int b from hx]; exact q
    | str b => rw [show v = .str b from hx]; exact q
    | tup l => obtain ⟨p, vs, e, _⟩ := hx; rw [e]; exact q
    | lst l => obtain ⟨p, vs, e, _⟩ := hx; rw [e]; exact q
    | dct ks l => obtain ⟨p, vs, e, _⟩ := hx; rw [e]; exact q⟩⟩) k
end
end DL

set_option Elab.async false
set_option linter.all false
set_option pp.maxSteps 300
set_option maxRecDepth 100000
/-! DL24: one target, one value -/
namespace DL
open PySem PySem.Spec PyProof.Rows L2
section
variable {X : Cx} {c : C0} {Γ : List Sl} {D : DEnds} {e tg : Expr} {pos : Pos}
theorem wst_asg (h : WPe X c e Γ fun r => GtD X c tg r Γ D.nx) (hs : swapsWithSole [tg] e pos.line X.env = pure false := by rfl) (hw : swappedStores [tg] e X.env = pure none := by rfl)
    (h1 : (assignEach [tg] X.env).map (·.2) = [assign tg X.env] := by rfl) : WPst X c (.Assign [tg] e pos) Γ D := fun F H σ E Dd ok => by
  refine ws_of (ps_asg pe_we pg_gw hs hw h1) ?_
  refine h F H [] [] σ rfl E.env _ fun v r F' H' k E' => ?_
  exact k F' H' [] [] σ v rfl E.nv E' _ fun F2 H2 σ2 Γ2 k2 n2 E2 => ok.nx Γ2 F2 H2 σ2 k2 ⟨E2, n2⟩
end
end DL

set_option Elab.async false
set_option linter.all false
set_option maxRecDepth 100000
set_option maxHeartbeats 2000000
/-! K1: k84, the walk: what lines are, rows, checks -/
namespace K84
open PySem PySem.Spec PyProof.Rows L2 DL
def topS (i : Nat) : Stmt := PySem.Challenge.pw_pinforge_k82_whole_least_patches.main.body.getD i (.Pass ⟨0, 0, 0, 0⟩)
/-- what the module's names hold -/
structure M (mg : Str → Option Value) : Prop where
  isi : mg "isinstance" = none
  tup : mg "tuple" = none
  str : mg "str" = none
  int : mg "int" = none
  bool : mg "bool" = none
  len : mg "len" = none
  all : mg "all" = none
  sum : mg "sum" = none
  min : mg "min" = none
  list : mg "list" = none
  range : mg "range" = none
  enum : mg "enumerate" = none
  zip : mg "zip" = none
  sorted : mg "sorted" = none
  repr : mg "repr" = none
  abs : mg "abs" = none
  most : ∃ t, mg "MOST_LINES" = some (.int 200 t)
  keep : ∃ t, mg "KEEP" = some (.str "keep" t)
  drop : ∃ t, mg "DROP" = some (.str "drop" t)
  put : ∃ t, mg "PUT" = some (.str "put" t)
/-- the words of all lines -/
def okW : List Str := ["a", "b", "c", "", "x", "y ", " y", "keep", "0", "new", "y", "m0", "m1", "m2", "m3", "m4", "m5"]
def eL (l : List Str) : D := .tup (l.map D.str)
def Lns (l : List Str) : Prop := l.length ≤ 200 ∧ ∀ s ∈ l, s ∈ okW
theorem okW_nl : ∀ s ∈ okW, (Builtin.Str.occurrences s "\n" 0 s.length 1).isEmpty = true := by decide +kernel
theorem map_getD {α : Type} (f : α → D) (l : List α) {i : Nat} (h : i < l.length) : (l.map f).getD i .non = f l[i] := by simp [h]
/-- a def that may be called by its name: its promise -/
def Cl (P : Program) (w : World) (K : PySem.W.Frag) (mg : Str → Option Value) (base : Heap) (k : Nat) (x : Str) (n : Nat) (pre : List Sl → Prop) (post : List Sl → Sl → Prop) : Prop :=
  ∃ (f : Addr) (fd : FuncData) (ps : List Str), ps.length = n ∧ FnOk P w K mg base L2.CX0 k f fd ps (SpD ps.length pre post) ∧ mg x = some (.ref f) ∧ PySem.W.keepIn K (.ref f) = true ∧ Binds K fd ps []
theorem Cl.mono {P : Program} {w : World} {K : PySem.W.Frag} {mg : Str → Option Value} {base : Heap} {j k : Nat} {x : Str} {n : Nat} {pre : List Sl → Prop} {post : List Sl → Sl → Prop} (C : Cl P w K mg base j x n pre post) (h : j ≤ k) : Cl P w K mg base k x n pre post := by
  obtain ⟨f, fd, ps, h1, G, h2⟩ := C
  exact ⟨f, fd, ps, h1, G.mono h, h2⟩
section
variable {X : Cx} {c : C0} {Γ : List Sl} {Kk : Sl → Prop} {pos p : Pos} {k n : Nat} {pre : List Sl → Prop} {post : List Sl → Sl → Prop} {x : Str} {e : Expr} {es : List Expr}
theorem wp_cl (C : Cl X.prog X.w X.K X.mg X.base k x n pre post) (hr : Room k X.A) (h : WPa X c (e :: es) Γ fun rs => ∃ ds : List DL.D, rs = ds.map Sl.im ∧ ds.length = n ∧ pre rs ∧ ∀ r, post rs r → isv r = false ∧ r ≠ .hand ∧ Kk r) (hg : Gl X x := by rfl)
    (hn : starEach (e :: es) X.env = (false, eval e X.env) :: starEach es X.env := by rfl) (hdb : (x == ("__debug__" : Str)) = false := by decide) (hpl : (backTo pos (starEach es X.env)).any (·.1) = false := by rfl) : WPe X c (.Call (.Name x p) (e :: es) [] pos) Γ Kk := by
  obtain ⟨f, fd, ps, rfl, G, hm, hk, hb⟩ := C
  exact wp_call G hr hm hk hb h hg hn hdb hpl
theorem wp_clH (C : Cl X.prog X.w X.K X.mg X.base k x n pre post) (hr : Room k X.A) (h : WPa X c (e :: es) Γ fun rs => ∃ ds : List DL.D, rs = Sl.hand :: ds.map Sl.im ∧ ds.length + 1 = n ∧ pre rs ∧ ∀ r, post rs r → isv r = false ∧ Kk r) (hg : Gl X x := by rfl)
    (hn : starEach (e :: es) X.env = (false, eval e X.env) :: starEach es X.env := by rfl) (hdb : (x == ("__debug__" : Str)) = false := by decide) (hpl : (backTo pos (starEach es X.env)).any (·.1) = false := by rfl) : WPe X c (.Call (.Name x p) (e :: es) [] pos) Γ Kk := by
  obtain ⟨f, fd, ps, rfl, G, hm, hk, hb⟩ := C
  exact wp_callH G hr hm hk hb h hg hn hdb hpl
end
/-- a def of the text behind the top -/
structure Df (K : PySem.W.Frag) (mg : Str → Option Value) (x : Str) (st : Stmt) (ps : List Str) : Prop where
  ex : ∃ f fd, Fun K x x st f fd ∧ mg x = some (.ref f) ∧ Binds K fd ps []
section
variable {P : Program} {w : World} {K : PySem.W.Frag} {mg : Str → Option Value} {base : Heap} {f : Addr} {fd : FuncData} {k : Nat}
theorem rep_snoc {α : Type} (n : Nat) (a : α) : List.replicate n a ++ [a] = List.replicate (n + 1) a := (List.replicate_succ').symm
theorem getD_str {l : List Str} {i : Nat} (hi : i < l.length) : (l.map D.str).getD i .non = .str l[i] := by simp [hi]
theorem len200 {n : Nat} (h : n ≤ 200) : n < sizeLine := Nat.lt_of_le_of_lt h (by decide)
theorem cl_mk {x : Str} {st : Stmt} {N ps : List Str} {pre : List Sl → Prop} {post : List Sl → Sl → Prop} (d : Df K mg x st ps) (S : FnScope N ps (defScope st))
    (hb : ∀ (f : Addr) (cdv : Value) (A : Around) (outer : List Env) (s : Shared) (H : Hp) (E : XK) (c : C0) (rs : List Sl), Room k (A.deeper (PyProof.Rows.envOfC x (defScope st) s.heap.objs.size f cdv)) → rs.length = ps.length → pre rs →
      WPs (cxOf L2.CX0 P w K mg base N x (defScope st) f cdv A outer s H E).nox c (defBody st) (rs ++ List.replicate (N.length - ps.length) .any) { nx := fun _ => post rs (.im .non), rt := post rs }) : Cl P w K mg base (k + 1) x ps.length pre post := by
  obtain ⟨f, fd, F, hm, hbd⟩ := d.ex
  exact ⟨f, fd, ps, rfl, fn_D F S (hb f), hm, F.kp, hbd⟩
/-- a def's promise at these arguments: this result -/
def Fn (P : Program) (w : World) (K : PySem.W.Frag) (mg : Str → Option Value) (base : Heap) (k : Nat) (x : Str) (args : List D) (res : Sl) : Prop := (isv res = false ∧ res ≠ .hand) ∧ Cl P w K mg base k x args.length (fun rs => rs = args.map Sl.im) fun _ r => r = res
theorem Fn.mono {j : Nat} {x : Str} {args : List D} {res : Sl} (G : Fn P w K mg base j x args res) (h : j ≤ k) : Fn P w K mg base k x args res := ⟨G.1, G.2.mono h⟩
theorem fn_mk {x : Str} {st : Stmt} {N ps : List Str} {args : List D} {res : Sl} (d : Df K mg x st ps) (S : FnScope N ps (defScope st)) (hv : isv res = false) (hh : res ≠ .hand) (hn : args.length = ps.length)
    (hb : ∀ (f : Addr) (cdv : Value) (A : Around) (outer : List Env) (s : Shared) (H : Hp) (E : XK) (c : C0), Room k (A.deeper (PyProof.Rows.envOfC x (defScope st) s.heap.objs.size f cdv)) →
      WPs (cxOf L2.CX0 P w K mg base N x (defScope st) f cdv A outer s H E).nox c (defBody st) (args.map Sl.im ++ List.replicate (N.length - ps.length) .any) { nx := fun _ => .im .non = res, rt := fun r => r = res }) : Fn P w K mg base (k + 1) x args res := by
  refine ⟨⟨hv, hh⟩, ?_⟩
  rw [hn]
  refine cl_mk d S fun f cdv A outer s H E c rs hr hl hpre => ?_
  subst hpre
  exact hb f cdv A outer s H E c hr
end
theorem wp_fn {X : Cx} {c : C0} {Γ : List Sl} {Kk : Sl → Prop} {pos p : Pos} {k : Nat} {x : Str} {e : Expr} {es : List Expr} {args : List D} {res : Sl} (G : Fn X.prog X.w X.K X.mg X.base k x args res) (hr : Room k X.A) (h : WPa X c (e :: es) Γ fun rs => rs = args.map Sl.im ∧ Kk res) (hg : Gl X x := by rfl)
    (hn : starEach (e :: es) X.env = (false, eval e X.env) :: starEach es X.env := by rfl) (hdb : (x == ("__debug__" : Str)) = false := by decide) (hpl : (backTo pos (starEach es X.env)).any (·.1) = false := by rfl) : WPe X c (.Call (.Name x p) (e :: es) [] pos) Γ Kk :=
  wp_cl G.2 hr (fun F H stk S σ hl E Q q => h F H stk S σ hl E Q fun vs rs F' H' k => q vs rs F' H' ⟨args, k.1, rfl, k.1, fun r hp => by rw [hp]; exact ⟨G.1.1, G.1.2, k.2⟩⟩) hg hn hdb hpl
theorem Le {n : Nat} (h : Nat.ble n 1000 = true) : n ≤ sizeLine := Nat.le_trans (Nat.le_of_ble_eq_true h) (by decide)
section
variable {P : Program} {w : World} {K : PySem.W.Frag} {mg : Str → Option Value} {base : Heap} {f : Addr} {fd : FuncData} {k : Nat}
abbrev sAre : Stmt := topS 12
theorem scAre : FnScope ["thing", "line"] ["thing"] (defScope sAre) := ⟨rfl, rfl, rfl, by decide +kernel, rfl, by decide +kernel, by decide +kernel⟩
theorem ok_are (m : M mg) {l : List Str} (hL : Lns l) (d : Df K mg "are_lines" sAre ["thing"]) : Fn P w K mg base (k + 1) "are_lines" [eL l] (.im (.bl true)) := by
  refine fn_mk d scAre rfl (by simp) rfl fun f cdv A outer s H E c hr => ?_
  obtain ⟨hlen, hw⟩ := hL
  obtain ⟨t, hmost⟩ := m.most
  show WPs _ _ _ [.im (eL l), .any] _
  refine wps_cons (wst_if (wpt_w (wpw_or (wpt_not (wpt_val (wp_isi m.isi m.tup PyProof.Rows.boot_tuple (wp_name 0 rfl rfl ?_)))))))
  refine ⟨"tuple", true, rfl, by decide, by decide +kernel, true, rfl, ?_⟩
  refine ⟨fun z => absurd z (by decide), fun _ => ?_⟩
  refine wpw_or1 (wpt_cmp (wp_callB m.len PySem.boot_len (wpa_cons (wp_name 0 rfl rfl (wpa_nil (cd_len rfl (wp_gint rfl hmost (od_gt ?_))))))))
  refine ⟨_, rfl, fun z => ?_, fun _ => ?_⟩
  · have z2 := of_decide_eq_true z
    simp at z2
    omega
  refine wps_nil (wps_cons (wst_ret (wp_callB m.all PyProof.Rows.boot_all (wpa_cons ?_))))
  refine wp_lc (own := [("line", 1)]) (fun i acc => acc = List.replicate i (.bl true)) rfl scAre.nd (blk_of (N' := ["thing", "line"]) (sc' := defScope sAre) (by decide +kernel)) (by rfl) (wpi_tup (wp_name 0 rfl rfl ⟨_, rfl, rfl, fun F1 H1 i acc hi hj Y hY => ?_, fun acc hj => ?_⟩))
  · obtain ⟨s', H', C, cl, fp, rfl⟩ := hY
    have hi' : i < l.length := by simpa using hi
    refine gtc_name 1 scAre.nd fun Y hY => ⟨fun _ Y hY => ?_, fun z => absurd z (by decide)⟩
    obtain ⟨s', H', C, cl, fp, rfl⟩ := hY
    show WPe _ _ _ [.im (eL l), .im ((l.map D.str).getD i .non)] _
    rw [getD_str hi']
    refine wp_and (wp_isi m.isi m.str PyProof.Rows.boot_str (wp_name 1 rfl rfl ⟨"str", true, rfl, by decide, by decide +kernel, true, rfl, fun _ => ?_, fun z => absurd z (by decide)⟩))
    refine wp_one (wp_cmp (wp_str (wp_name 1 rfl rfl (od_notInStr (okW_nl _ (hw _ (List.getElem_mem hi'))) ⟨_, rfl, ?_, ?_⟩))))
    · rw [hj, List.length_replicate]
      exact Nat.lt_trans hi' (len200 hlen)
    · rw [hj]
      exact rep_snoc i _
  · refine wpa_nil (cd_all (bs := List.replicate (l.map D.str).length true) rfl ?_ ?_)
    · rw [hj]
      show some _ = some _
      rw [List.map_replicate]
    · show Sl.im _ = Sl.im _
      rw [show (List.replicate (l.map D.str).length true).all id = true by simp]
/-! ### check_lines -/
abbrev sChk : Stmt := topS 13
theorem scChk : FnScope ["thing"] ["thing"] (defScope sChk) := ⟨rfl, rfl, rfl, by decide +kernel, rfl, by decide +kernel, by decide +kernel⟩
theorem ok_chk {l : List Str} (G : Fn P w K mg base k "are_lines" [eL l] (.im (.bl true))) (d : Df K mg "check_lines" sChk ["thing"]) : Fn P w K mg base (k + 1) "check_lines" [eL l] (.im .non) := by
  refine fn_mk d scChk rfl (by simp) rfl fun f cdv A outer s H E c hr => ?_
  show WPs _ _ _ [.im (eL l)] _
  exact wps_cons <| wst_if <| wpt_not <| wpt_val <| wp_fn G hr <| wpa_cons <| wp_name 0 rfl rfl <| wpa_nil ⟨rfl, true, rfl, fun z => absurd z (by decide), fun _ => wps_nil (wps_nil rfl)⟩
/-! ### heights_of -/
/-- the table of least steps -/
def dd (one other : List Str) : Nat → Nat → Int
  | 0, j => j
  | i + 1, 0 => ((i + 1 : Nat) : Int)
  | i + 1, j + 1 => if one.getD i "" = other.getD j "" then min (min (dd one other i (j + 1)) (dd one other (i + 1) j) + 1) (dd one other i j) else min (dd one other i (j + 1)) (dd one other (i + 1) j) + 1
termination_by i j => (i, j)
theorem dd_0 (one other : List Str) (j : Nat) : dd one other 0 j = j := by rw [dd]
theorem dd_s0 (one other : List Str) (i : Nat) : dd one other (i + 1) 0 = ((i + 1 : Nat) : Int) := by rw [dd]
theorem dd_ss (one other : List Str) (i j : Nat) : dd one other (i + 1) (j + 1) = if one.getD i "" = other.getD j "" then min (min (dd one other i (j + 1)) (dd one other (i + 1) j) + 1) (dd one other i j) else min (dd one other i (j + 1)) (dd one other (i + 1) j) + 1 := by rw [dd]
/-- the first n of a row -/
def eRow (one other : List Str) (i n : Nat) : List D := (List.range n).map fun j => .int (dd one other i j)
def eHts (one other : List Str) (m : Nat) : List D := (List.range m).map fun i => .lst (eRow one other i (other.length + 1))
theorem range_snoc {α : Type} (f : Nat → α) (n : Nat) : (List.range (n + 1)).map f = (List.range n).map f ++ [f n] := by
  rw [List.range_succ, List.map_append]
  rfl
theorem atI_rm {α : Type} {f : Nat → α} {n j : Nat} {i : Int} (e : i = (j : Int)) (h : j < n) : atI ((List.range n).map f) i = some (f j) := by
  subst e
  exact atI_nat (by simp [h])
theorem row_0 (one other : List Str) (n : Nat) : eRow one other 0 n = (List.range n).map fun i => .int (i : Nat) := by
  unfold eRow
  apply List.map_congr_left
  intro i _
  rw [dd_0]
theorem getD_eq {l : List Str} {i : Nat} (h : i < l.length) : l.getD i "" = l[i] := by simp [h]
abbrev sHts : Stmt := topS 17
theorem scHts : FnScope ["one", "other", "found", "at", "line", "row", "there", "told", "best"] ["one", "other"] (defScope sHts) := ⟨rfl, rfl, rfl, by decide +kernel, rfl, by decide +kernel, by decide +kernel⟩
theorem ok_hts (m : M mg) {one other : List Str} (hL : Lns one) (hL2 : Lns other) (d : Df K mg "heights_of" sHts ["one", "other"]) : Fn P w K mg base (k + 1) "heights_of" [eL one, eL other] (.own (.lst (eHts one other (one.length + 1)))) := by
  refine fn_mk d scHts rfl (by simp) rfl fun f cdv A outer s H E c hr => ?_
  have hn1 := hL.1
  have hn2 := hL2.1
  show WPs _ _ _ [.im (eL one), .im (eL other), .any, .any, .any, .any, .any, .any, .any] _
  have nd := scHts.nd
  refine wps_cons <| wst_set 2 nd <| wp_lst <| wpa_cons <| wp_listRange rfl m.list m.range <| wp_binop <| wp_callB m.len PySem.boot_len <| wpa_cons <| wp_name 1 rfl rfl <| wpa_nil <| cd_len rfl <| wp_int <| od_add ⟨other.length + 1, by simp, by omega, wpa_nil ⟨[.lst (eRow one other 0 (other.length + 1))], by rw [row_0]; rfl, Le rfl, rfl, ?_⟩⟩
  show WPs _ _ _ [.im (eL one), .im (eL other), .own (.lst (eHts one other 1)), .any, .any, .any, .any, .any, .any] _
  refine wps_cons <| wst_for (fun i Γ => ∃ s3 s4 s5 s6 s7 s8, Γ = [.im (eL one), .im (eL other), .own (.lst (eHts one other (i + 1))), s3, s4, s5, s6, s7, s8]) <| wpi_enumT m.enum <| wpa_cons <| wp_name 0 rfl rfl <| wpa_nil ⟨_, rfl, ⟨_, _, _, _, _, _, rfl⟩, fun F1 i Γ' hi hj => ?_, fun Γ' hj => ?_⟩
  · obtain ⟨s3, s4, s5, s6, s7, s8, rfl⟩ := hj
    have hi' : i < one.length := by simpa using hi
    refine gt_tup2 3 4 rfl nd ?_
    show WPs _ _ _ [.im (eL one), .im (eL other), .own (.lst (eHts one other (i + 1))), .im (.int (i : Nat)), .im ((one.map D.str).getD i .non), s5, s6, s7, s8] _
    rw [getD_str hi']
    refine wps_cons <| wst_set 5 nd <| wp_lst <| wpa_cons <| wp_binop <| wp_name 3 rfl rfl <| wp_int <| od_add <| wpa_nil ⟨eRow one other (i + 1) 1, ?_, Le rfl, rfl, ?_⟩
    · show [Sl.im (.int ((i : Int) + 1))] = [Sl.im (.int (dd one other (i + 1) 0))]
      rw [dd_s0]
      simp
    show WPs _ _ _ [.im (eL one), .im (eL other), .own (.lst (eHts one other (i + 1))), .im (.int (i : Nat)), .im (.str one[i]), .own (.lst (eRow one other (i + 1) 1)), s6, s7, s8] _
    refine wps_cons <| wst_for (fun j Γ => ∃ s6 s7 s8, Γ = [.im (eL one), .im (eL other), .own (.lst (eHts one other (i + 1))), .im (.int (i : Nat)), .im (.str one[i]), .own (.lst (eRow one other (i + 1) (j + 1))), s6, s7, s8]) <| wpi_enumT m.enum <| wpa_cons <| wp_name 1 rfl rfl <| wpa_nil ⟨_, rfl, ⟨_, _, _, rfl⟩, fun F2 j Γ' hjn hj => ?_, fun Γ' hj => ?_⟩
    · obtain ⟨s6, s7, s8, rfl⟩ := hj
      have hj' : j < other.length := by simpa using hjn
      refine gt_tup2 6 7 rfl nd ?_
      show WPs _ _ _ [.im (eL one), .im (eL other), .own (.lst (eHts one other (i + 1))), .im (.int (i : Nat)), .im (.str one[i]), .own (.lst (eRow one other (i + 1) (j + 1))), .im (.int (j : Nat)), .im ((other.map D.str).getD j .non), s8] _
      rw [getD_str hj']
      have row : atI (eHts one other (i + 1)) (i : Int) = some (.lst (eRow one other i (other.length + 1))) := atI_rm rfl (by omega)
      refine wps_cons <| wst_set 8 nd <| wp_binop <| wp_callB m.min PyProof.Rows.boot_min <| wpa_cons <| wp_ix <| wp_ix <| wp_name 2 rfl rfl <| wp_name 3 rfl rfl <| xd_seq rfl row <| wp_binop <| wp_name 6 rfl rfl <| wp_int <| od_add <| xd_seq rfl (atI_rm (j := j + 1) (by simp) (by omega)) <|
        wpa_cons <| wp_ix <| wp_name 5 rfl rfl <| wp_name 6 rfl rfl <| xd_seq rfl (atI_rm (j := j) rfl (by omega)) <| wpa_nil <| cd_min rfl <| wp_int <| od_add <| ⟨rfl, ?_⟩
      refine wps_seq (fun Γ => Γ = [.im (eL one), .im (eL other), .own (.lst (eHts one other (i + 1))), .im (.int (i : Nat)), .im (.str one[i]), .own (.lst (eRow one other (i + 1) (j + 1))), .im (.int (j : Nat)), .im (.str other[j]), .im (.int (dd one other (i + 1) (j + 1)))]) ?_ ?_
      · refine wst_if <| wpt_cmp <| wp_name 4 rfl rfl <| wp_name 7 rfl rfl <| od_eqS ⟨_, rfl, fun hx => ?_, fun hx => ?_⟩
        · have he : one[i] = other[j] := of_decide_eq_true hx
          refine wps_cons <| wst_set 8 nd <| wp_callB m.min PyProof.Rows.boot_min <| wpa_cons <| wp_name 8 rfl rfl <| wpa_cons <| wp_ix <| wp_ix <| wp_name 2 rfl rfl <| wp_name 3 rfl rfl <| xd_seq rfl row <| wp_name 6 rfl rfl <| xd_seq rfl (atI_rm (j := j) rfl (by omega)) <| wpa_nil <| cd_min rfl <| ⟨rfl, wps_nil ?_⟩
          rw [dd_ss, getD_eq hi', getD_eq hj', if_pos he]
          rfl
        · have he : ¬ one[i] = other[j] := of_decide_eq_false hx
          refine wps_nil ?_
          rw [dd_ss, getD_eq hi', getD_eq hj', if_neg he]
          rfl
      · rintro Γ rfl
        refine wps_cons <| wst_append 5 rfl (by simp [eRow]; exact len200 (by omega)) <| wp_name 8 rfl rfl <| ⟨_, rfl, wps_nil ?_⟩
        rw [show eRow one other (i + 1) (j + 1 + 1) = eRow one other (i + 1) (j + 1) ++ [.int (dd one other (i + 1) (j + 1))] from range_snoc _ _]
        exact ⟨_, _, _, rfl⟩
    · obtain ⟨s6, s7, s8, rfl⟩ := hj
      refine wps_freeze 5 rfl ?_
      refine wps_cons <| wst_append 2 rfl (by simp [eHts]; exact len200 (by omega)) <| wp_name 5 rfl rfl <| ⟨_, rfl, wps_nil ?_⟩
      rw [show eHts one other (i + 1 + 1) = eHts one other (i + 1) ++ [.lst (eRow one other (i + 1) (other.length + 1))] from range_snoc _ _]
      rw [List.length_map]
      exact ⟨_, _, _, _, _, _, rfl⟩
  · obtain ⟨s3, s4, s5, s6, s7, s8, rfl⟩ := hj
    rw [List.length_map]
    exact wps_cons <| wst_retOwn 2 rfl rfl
end
end K84

set_option Elab.async false
set_option linter.all false
set_option maxRecDepth 100000
set_option maxHeartbeats 2000000
/-! K2: k84, the walk: sorted_steps, patch -/
namespace K84
open PySem PySem.Spec PyProof.Rows L2 DL
/-- a single step -/
inductive Ed where
  | keep (s : Str) | drop (s : Str) | put (s : Str)
def Ed.w : Ed → Str
  | .keep _ => "keep"
  | .drop _ => "drop"
  | .put _ => "put"
def Ed.s : Ed → Str
  | .keep s => s
  | .drop s => s
  | .put s => s
def eS (e : Ed) : D := .tup [.str e.w, .str e.s]
def srtStep : List Ed × List Ed → Ed → List Ed × List Ed
  | (f, p), .put s => (f, p ++ [.put s])
  | (f, p), .drop s => (f ++ [.drop s], p)
  | (f, p), .keep s => (f ++ p ++ [.keep s], [])
def srtA (ws : List Ed) : List Ed × List Ed := ws.foldl srtStep ([], [])
def srt (ws : List Ed) : List Ed := (srtA ws).1 ++ (srtA ws).2
theorem take_next {α : Type} {l : List α} {i : Nat} (h : i < l.length) : l.take (i + 1) = l.take i ++ [l[i]] := by rw [List.take_succ, List.getElem?_eq_getElem h]; rfl
theorem srtA_next {ws : List Ed} {i : Nat} (h : i < ws.length) : srtA (ws.take (i + 1)) = srtStep (srtA (ws.take i)) ws[i] := by
  unfold srtA
  rw [take_next h, List.foldl_append]
  rfl
theorem srtStep_len (st : List Ed × List Ed) (e : Ed) : (srtStep st e).1.length + (srtStep st e).2.length = st.1.length + st.2.length + 1 := by
  obtain ⟨f, p⟩ := st
  cases e <;> simp [srtStep] <;> omega
theorem srtA_len : ∀ (ws : List Ed) (i : Nat), i ≤ ws.length → (srtA (ws.take i)).1.length + (srtA (ws.take i)).2.length = i
  | ws, 0, _ => rfl
  | ws, i + 1, h => by rw [srtA_next h, srtStep_len, srtA_len ws i (by omega)]
theorem getD_map {α : Type} (f : α → D) {l : List α} {i : Nat} (hi : i < l.length) : (l.map f).getD i .non = f l[i] := by simp [hi]
theorem atI_map {α : Type} {f : α → D} {l : List α} {j : Nat} {i : Int} (e : i = (j : Int)) (h : j < l.length) : atI (l.map f) i = some (f l[j]) := by
  subst e
  exact atI_nat (by simp [h])
theorem pred1 (a : Nat) : ((a + 1 : Nat) : Int) - 1 = (a : Int) := by omega
section
variable {P : Program} {w : World} {K : PySem.W.Frag} {mg : Str → Option Value} {base : Heap} {f : Addr} {fd : FuncData} {k : Nat}
abbrev sSrt : Stmt := topS 19
theorem scSrt : FnScope ["words", "found", "puts", "word", "line"] ["words"] (defScope sSrt) := ⟨rfl, rfl, rfl, by decide +kernel, rfl, by decide +kernel, by decide +kernel⟩
theorem ok_srt (m : M mg) {ws : List Ed} (hw : ws.length ≤ 900) (d : Df K mg "sorted_steps" sSrt ["words"]) : Fn P w K mg base (k + 1) "sorted_steps" [.lst (ws.map eS)] (.own (.lst ((srt ws).map eS))) := by
  refine fn_mk d scSrt rfl (by simp) rfl fun f cdv A outer s H E c hr => ?_
  have nd := scSrt.nd
  obtain ⟨tK, hKEEP⟩ := m.keep
  obtain ⟨tD, hDROP⟩ := m.drop
  obtain ⟨tP, hPUT⟩ := m.put
  show WPs _ _ _ [.im (.lst (ws.map eS)), .any, .any, .any, .any] _
  refine wps_cons <| wst_par 1 2 rfl nd (by decide) <| wp_lst <| wpa_nil <| ⟨[], rfl, Le rfl, wp_lst <| wpa_nil <| ⟨[], rfl, Le rfl, rfl, rfl, ?_⟩⟩
  refine wps_cons <| wst_for (fun i Γ => ∃ s3 s4, Γ = [.im (.lst (ws.map eS)), .own (.lst ((srtA (ws.take i)).1.map eS)), .own (.lst ((srtA (ws.take i)).2.map eS)), s3, s4]) <| wpi_list <| wp_name 0 rfl rfl <| ⟨_, rfl, ⟨_, _, rfl⟩, fun F1 i Γ' hi hj => ?_, fun Γ' hj => ?_⟩
  · obtain ⟨s3, s4, rfl⟩ := hj
    have hi' : i < ws.length := by simpa using hi
    show GtD _ _ _ (.im ((ws.map eS).getD i .non)) _ _
    rw [getD_map eS hi']
    have hlen := srtA_len ws i (by omega)
    rw [srtA_next hi']
    generalize srtA (ws.take i) = st at hlen
    obtain ⟨fo, pu⟩ := st
    have hl1 : fo.length + pu.length = i := hlen
    refine gt_tup2 3 4 rfl nd ?_
    have lf : (fo.map eS).length < sizeLine := by
      rw [List.length_map]
      exact Nat.lt_of_lt_of_le (show fo.length < 1000 by omega) (by decide)
    have lp : (pu.map eS).length < sizeLine := by
      rw [List.length_map]
      exact Nat.lt_of_lt_of_le (show pu.length < 1000 by omega) (by decide)
    show WPs _ _ _ [.im (.lst (ws.map eS)), .own (.lst (fo.map eS)), .own (.lst (pu.map eS)), .im (.str ws[i].w), .im (.str ws[i].s)] _
    refine wps_cons <| wst_if <| wpt_cmp <| wp_name 3 rfl rfl <| wp_gstr rfl hPUT <| od_eqS ⟨_, rfl, fun hx => ?_, fun hx => ?_⟩
    · refine wps_cons <| wst_append 2 rfl lp <| wp_tup <| wpa_cons <| wp_name 3 rfl rfl <| wpa_cons <| wp_name 4 rfl rfl <| wpa_nil <| ⟨[.str ws[i].w, .str ws[i].s], rfl, Le rfl, _, rfl, wps_nil (wps_nil ?_)⟩
      revert hx
      cases ws[i] with
      | put s =>
        intro _
        show ∃ s3 s4, _ = [Sl.im _, .own (.lst (fo.map eS)), .own (.lst ((pu ++ [Ed.put s]).map eS)), s3, s4]
        rw [List.map_append]
        exact ⟨_, _, rfl⟩
      | keep s => exact fun z => absurd z (show ¬ decide (("keep" : Str) = "put") = true by decide)
      | drop s => exact fun z => absurd z (show ¬ decide (("drop" : Str) = "put") = true by decide)
    · refine wps_cons <| wst_if <| wpt_cmp <| wp_name 3 rfl rfl <| wp_gstr rfl hDROP <| od_eqS ⟨_, rfl, fun hx2 => ?_, fun hx2 => ?_⟩
      · refine wps_cons <| wst_append 1 rfl lf <| wp_tup <| wpa_cons <| wp_name 3 rfl rfl <| wpa_cons <| wp_name 4 rfl rfl <| wpa_nil <| ⟨[.str ws[i].w, .str ws[i].s], rfl, Le rfl, _, rfl, wps_nil (wps_nil (wps_nil ?_))⟩
        revert hx2
        cases ws[i] with
        | drop s =>
          intro _
          show ∃ s3 s4, _ = [Sl.im _, .own (.lst ((fo ++ [Ed.drop s]).map eS)), .own (.lst (pu.map eS)), s3, s4]
          rw [List.map_append]
          exact ⟨_, _, rfl⟩
        | keep s => exact fun z => absurd z (show ¬ decide (("keep" : Str) = "drop") = true by decide)
        | put s => exact fun z => absurd z (show ¬ decide (("put" : Str) = "drop") = true by decide)
      · refine wps_cons <| wst_extend 1 rfl <| wp_name 2 rfl rfl <| ⟨_, rfl, Nat.le_trans (show (fo.map eS).length + (pu.map eS).length ≤ 1000 by rw [List.length_map, List.length_map]; omega) (by decide), ?_⟩
        refine wps_cons <| wst_set 2 nd <| wp_lst <| wpa_nil <| ⟨[], rfl, Le rfl, rfl, ?_⟩
        refine wps_cons <| wst_append 1 rfl ?_ <| wp_tup <| wpa_cons <| wp_name 3 rfl rfl <| wpa_cons <| wp_name 4 rfl rfl <| wpa_nil <| ⟨[.str ws[i].w, .str ws[i].s], rfl, Le rfl, _, rfl, wps_nil (wps_nil (wps_nil ?_))⟩
        · rw [List.length_append, List.length_map, List.length_map]
          exact Nat.lt_of_lt_of_le (show fo.length + pu.length < 1000 by omega) (by decide)
        revert hx hx2
        cases ws[i] with
        | keep s =>
          intro _ _
          show ∃ s3 s4, _ = [Sl.im _, .own (.lst ((fo ++ pu ++ [Ed.keep s]).map eS)), .own (.lst ([].map eS)), s3, s4]
          rw [List.map_append, List.map_append]
          exact ⟨_, _, rfl⟩
        | put s => exact fun z => absurd z (show ¬ decide (("put" : Str) = "put") = false by decide)
        | drop s => exact fun _ z => absurd z (show ¬ decide (("drop" : Str) = "drop") = false by decide)
  · obtain ⟨s3, s4, rfl⟩ := hj
    have hlen := srtA_len ws ws.length (Nat.le_refl _)
    rw [List.length_map, List.take_length] at *
    refine wps_cons <| wst_ret <| wp_binop <| wp_name 1 rfl rfl <| wp_name 2 rfl rfl <| od_cat rfl rfl ?_ ?_
    · rw [List.length_map, List.length_map]
      exact Nat.le_trans (show _ ≤ 1000 by omega) (by decide)
    · show Sl.own _ = _
      rw [← List.map_append]
      rfl
/-! ### patch -/
/-- the way back from the ends, as it is gone -/
def btr (one other : List Str) : Nat → Nat → List Ed
  | 0, 0 => []
  | 0, j + 1 => .put (other.getD j "") :: btr one other 0 j
  | i + 1, 0 => .drop (one.getD i "") :: btr one other i 0
  | i + 1, j + 1 => if one.getD i "" = other.getD j "" then .keep (one.getD i "") :: btr one other i j
    else if dd one other (i + 1) j < dd one other i (j + 1) then .put (other.getD j "") :: btr one other (i + 1) j else .drop (one.getD i "") :: btr one other i (j + 1)
termination_by i j => i + j
/-- groups of steps of one word -/
def jnStep : List (Str × List Str) × Option (Str × List Str) → Ed → List (Str × List Str) × Option (Str × List Str)
  | (gs, some (w, ls)), e => if w = e.w then (gs, some (w, ls ++ [e.s])) else (gs ++ [(w, ls)], some (e.w, [e.s]))
  | (gs, none), e => (gs, some (e.w, [e.s]))
def jnA (ws : List Ed) : List (Str × List Str) × Option (Str × List Str) := ws.foldl jnStep ([], none)
def jnC : List (Str × List Str) × Option (Str × List Str) → List (Str × List Str)
  | (gs, some g) => gs ++ [g]
  | (gs, none) => gs
def jn (ws : List Ed) : List (Str × List Str) := jnC (jnA ws)
def eT (g : Str × List Str) : D := if g.1 = "keep" then .tup [.str g.1, .int g.2.length] else .tup [.str g.1, eL g.2]
def eP (gs : List (Str × List Str)) : D := .tup (gs.map eT)
def pt (one other : List Str) : List Ed := srt (btr one other one.length other.length).reverse
theorem btr_len (one other : List Str) : ∀ i j, (btr one other i j).length ≤ i + j
  | 0, 0 => by rw [btr]; exact Nat.le_refl 0
  | 0, j + 1 => by
    have := btr_len one other 0 j
    rw [btr, List.length_cons]
    omega
  | i + 1, 0 => by
    have := btr_len one other i 0
    rw [btr, List.length_cons]
    omega
  | i + 1, j + 1 => by
    have h1 := btr_len one other i j
    have h2 := btr_len one other (i + 1) j
    have h3 := btr_len one other i (j + 1)
    rw [btr]
    split
    · rw [List.length_cons]
      omega
    · split <;> (rw [List.length_cons]; omega)
termination_by i j => i + j
theorem btr_0s (one other : List Str) (j : Nat) : btr one other 0 (j + 1) = .put (other.getD j "") :: btr one other 0 j := by rw [btr]
theorem btr_s0 (one other : List Str) (i : Nat) : btr one other (i + 1) 0 = .drop (one.getD i "") :: btr one other i 0 := by rw [btr]
theorem btr_ss (one other : List Str) (i j : Nat) : btr one other (i + 1) (j + 1) = if one.getD i "" = other.getD j "" then .keep (one.getD i "") :: btr one other i j
    else if dd one other (i + 1) j < dd one other i (j + 1) then .put (other.getD j "") :: btr one other (i + 1) j else .drop (one.getD i "") :: btr one other i (j + 1) := by rw [btr]
abbrev sPat : Stmt := topS 20
theorem scPat : FnScope ["one", "other", "rows", "at", "there", "words"] ["one", "other"] (defScope sPat) := ⟨rfl, rfl, rfl, by decide +kernel, rfl, by decide +kernel, by decide +kernel⟩
theorem ok_pat (m : M mg) {one other : List Str} (hL : Lns one) (hL2 : Lns other) (Gc1 : Fn P w K mg base k "check_lines" [eL one] (.im .non)) (Gc2 : Fn P w K mg base k "check_lines" [eL other] (.im .non)) (Gh : Fn P w K mg base k "heights_of" [eL one, eL other] (.own (.lst (eHts one other (one.length + 1)))))
    (Gs : Fn P w K mg base k "sorted_steps" [.lst ((btr one other one.length other.length).reverse.map eS)] (.own (.lst ((pt one other).map eS)))) (Gj : Fn P w K mg base k "joined_steps" [.lst ((pt one other).map eS)] (.im (eP (jn (pt one other)))))
    (d : Df K mg "patch" sPat ["one", "other"]) : Fn P w K mg base (k + 1) "patch" [eL one, eL other] (.im (eP (jn (pt one other)))) := by
  refine fn_mk d scPat rfl (by simp) rfl fun f cdv A outer s H E c hr => ?_
  have nd := scPat.nd
  obtain ⟨tK, hKEEP⟩ := m.keep
  obtain ⟨tD, hDROP⟩ := m.drop
  obtain ⟨tP, hPUT⟩ := m.put
  have hn1 := hL.1
  have hn2 := hL2.1
  show WPs _ _ _ [.im (eL one), .im (eL other), .any, .any, .any, .any] _
  refine wps_cons <| wst_expr <| wp_fn Gc1 hr <| wpa_cons <| wp_name 0 rfl rfl <| wpa_nil <| ⟨rfl, ?_⟩
  refine wps_cons <| wst_expr <| wp_fn Gc2 hr <| wpa_cons <| wp_name 1 rfl rfl <| wpa_nil <| ⟨rfl, ?_⟩
  refine wps_cons <| wst_set 2 nd <| wp_fn Gh hr <| wpa_cons <| wp_name 0 rfl rfl <| wpa_cons <| wp_name 1 rfl rfl <| wpa_nil <| ⟨rfl, rfl, ?_⟩
  refine wps_cons <| wst_par3 3 4 5 rfl nd (by decide) (by decide) (by decide) <| wp_callB m.len PySem.boot_len <| wpa_cons <| wp_name 0 rfl rfl <| wpa_nil <| cd_len rfl <| wp_callB m.len PySem.boot_len <| wpa_cons <| wp_name 1 rfl rfl <| wpa_nil <| cd_len rfl <| wp_lst <| wpa_nil <| ⟨[], rfl, Le rfl, rfl, rfl, rfl, ?_⟩
  rw [List.length_map, List.length_map]
  refine wps_cons <| wst_while (fun n Γ => ∃ i j ws, n = i + j ∧ i ≤ one.length ∧ j ≤ other.length ∧ ws ++ btr one other i j = btr one other one.length other.length ∧ Γ = [.im (eL one), .im (eL other), .own (.lst (eHts one other (one.length + 1))), .im (.int (i : Nat)), .im (.int (j : Nat)), .own (.lst (ws.map eS))]) (one.length + other.length)
    ⟨one.length, other.length, [], rfl, Nat.le_refl _, Nat.le_refl _, rfl, rfl⟩ ?_
  rintro n Γ ⟨i, j, ws, rfl, hi, hj, hws, rfl⟩
  have hlen : ws.length + (btr one other i j).length ≤ 400 := by
    have h1 := congrArg List.length hws
    rw [List.length_append] at h1
    have h2 := btr_len one other one.length other.length
    omega
  have hsz : (ws.map eS).length < sizeLine := by
    rw [List.length_map]
    exact Nat.lt_of_lt_of_le (show ws.length < 1000 by omega) (by decide)
  have row : ∀ i', i' ≤ one.length → atI (eHts one other (one.length + 1)) ((i' : Nat) : Int) = some (.lst (eRow one other i' (other.length + 1))) := fun i' h => atI_rm rfl (by omega)
  have cell : ∀ i' j', j' ≤ other.length → atI (eRow one other i' (other.length + 1)) ((j' : Nat) : Int) = some (.int (dd one other i' j')) := fun i' j' h => atI_rm rfl (by omega)
  have l1 : ∀ i', i' < one.length → atI (one.map D.str) ((i' : Nat) : Int) = some (.str (one.getD i' "")) := fun i' h => by rw [getD_eq h]; exact atI_map rfl h
  have l2 : ∀ i', i' < other.length → atI (other.map D.str) ((i' : Nat) : Int) = some (.str (other.getD i' "")) := fun i' h => by rw [getD_eq h]; exact atI_map rfl h
  refine wpt_or2 (x := decide (0 < i)) (y := decide (0 < j)) (wpt_cmp <| wp_name 3 rfl rfl <| wp_int <| od_gt ⟨_, rfl, by simp⟩) (fun _ => wpt_cmp <| wp_name 4 rfl rfl <| wp_int <| od_gt ⟨_, rfl, by simp⟩) ⟨fun hx => ?_, fun hx => ?_⟩
  · -- a turn
    have b1 : WPt (cxOf L2.CX0 P w K mg base ["one", "other", "rows", "at", "there", "words"] "patch" (defScope sPat) f cdv A outer s H E).nox c
        (match (defBody sPat).getD 4 (.Pass ⟨0, 0, 0, 0⟩) with | .While _ [.If t _ _ _] _ _ => t | _ => .Name "" ⟨0, 0, 0, 0⟩) [.im (eL one), .im (eL other), .own (.lst (eHts one other (one.length + 1))), .im (.int (i : Nat)), .im (.int (j : Nat)), .own (.lst (ws.map eS))]
        fun t => t = (decide (0 < i) && (decide (0 < j) && decide (one.getD (i - 1) "" = other.getD (j - 1) ""))) := by
      refine wpt_and3 (wpt_cmp <| wp_name 3 rfl rfl <| wp_int <| od_gt ⟨_, rfl, by simp⟩) (fun _ => wpt_cmp <| wp_name 4 rfl rfl <| wp_int <| od_gt ⟨_, rfl, by simp⟩) (fun h1 h2 => ?_) rfl
      have h1 : 0 < i := of_decide_eq_true h1
      have h2 : 0 < j := of_decide_eq_true h2
      exact wpt_cmp <| wp_ix <| wp_name 0 rfl rfl <| wp_binop <| wp_name 3 rfl rfl <| wp_int <| od_sub <| xd_seq rfl (by rw [show (i : Int) - 1 = ((i - 1 : Nat) : Int) by omega]; exact l1 (i - 1) (by omega)) <|
        wp_ix <| wp_name 1 rfl rfl <| wp_binop <| wp_name 4 rfl rfl <| wp_int <| od_sub <| xd_seq rfl (by rw [show (j : Int) - 1 = ((j - 1 : Nat) : Int) by omega]; exact l2 (j - 1) (by omega)) <| od_eqS ⟨_, rfl, rfl⟩
    refine wps_cons <| wst_if <| b1.mono fun t ht => ?_
    subst ht
    refine ⟨fun ht => ?_, fun ht => ?_⟩
    · -- both lines alike
      simp only [Bool.and_eq_true, decide_eq_true_eq] at ht
      obtain ⟨hi0, hj0, he⟩ := ht
      obtain ⟨a, rfl⟩ : ∃ a, i = a + 1 := ⟨i - 1, by omega⟩
      obtain ⟨b, rfl⟩ : ∃ b, j = b + 1 := ⟨j - 1, by omega⟩
      rw [Nat.add_sub_cancel, Nat.add_sub_cancel] at he
      refine wps_cons <| wst_par 3 4 rfl nd (by decide) <| wp_binop <| wp_name 3 rfl rfl <| wp_int <| od_sub <| wp_binop <| wp_name 4 rfl rfl <| wp_int <| od_sub <| ⟨rfl, rfl, ?_⟩
      rw [pred1, pred1]
      refine wps_cons <| wst_append 5 rfl hsz <| wp_tup <| wpa_cons <| wp_gstr rfl hKEEP <| wpa_cons <| wp_ix <| wp_name 0 rfl rfl <| wp_name 3 rfl rfl <| xd_seq rfl (l1 a (by omega)) <| wpa_nil <| ⟨[.str "keep", .str (one.getD a "")], rfl, Le rfl, _, rfl, wps_nil (wps_nil ⟨a + b, by omega, a, b, ws ++ [.keep (one.getD a "")], rfl, by omega, by omega, ?_, ?_⟩)⟩
      · rw [btr_ss, if_pos he] at hws
        rw [List.append_assoc]
        exact hws
      · rw [List.map_append]
        rfl
    · have b2 : WPt (cxOf L2.CX0 P w K mg base ["one", "other", "rows", "at", "there", "words"] "patch" (defScope sPat) f cdv A outer s H E).nox c
          (match (defBody sPat).getD 4 (.Pass ⟨0, 0, 0, 0⟩) with | .While _ [.If _ _ [.If t _ _ _] _] _ _ => t | _ => .Name "" ⟨0, 0, 0, 0⟩) [.im (eL one), .im (eL other), .own (.lst (eHts one other (one.length + 1))), .im (.int (i : Nat)), .im (.int (j : Nat)), .own (.lst (ws.map eS))]
          fun t => t = (decide (0 < j) && (decide (i = 0) || decide (dd one other i (j - 1) < dd one other (i - 1) j))) := by
        refine wpt_and2 (wpt_cmp <| wp_name 4 rfl rfl <| wp_int <| od_gt ⟨_, rfl, by simp⟩) (fun h2 => wpt_or2 (wpt_cmp <| wp_name 3 rfl rfl <| wp_int <| od_eqI ⟨_, rfl, by simp⟩) (fun h1 => ?_) rfl) rfl
        have h1 : ¬ i = 0 := of_decide_eq_false h1
        have h2 : 0 < j := of_decide_eq_true h2
        exact wpt_cmp <| wp_ix <| wp_ix <| wp_name 2 rfl rfl <| wp_name 3 rfl rfl <| xd_seq rfl (row i hi) <| wp_binop <| wp_name 4 rfl rfl <| wp_int <| od_sub <| xd_seq rfl (by rw [show (j : Int) - 1 = ((j - 1 : Nat) : Int) by omega]; exact cell i (j - 1) (by omega)) <|
          wp_ix <| wp_ix <| wp_name 2 rfl rfl <| wp_binop <| wp_name 3 rfl rfl <| wp_int <| od_sub <| xd_seq rfl (by rw [show (i : Int) - 1 = ((i - 1 : Nat) : Int) by omega]; exact row (i - 1) (by omega)) <| wp_name 4 rfl rfl <| xd_seq rfl (cell (i - 1) j hj) <| od_lt ⟨_, rfl, rfl⟩
      refine wps_cons <| wst_if <| b2.mono fun t ht => ?_
      subst ht
      refine ⟨fun ht2 => ?_, fun ht2 => ?_⟩
      · -- put
        simp only [Bool.and_eq_true, Bool.or_eq_true, decide_eq_true_eq] at ht2
        obtain ⟨hj0, ht2⟩ := ht2
        obtain ⟨b, rfl⟩ : ∃ b, j = b + 1 := ⟨j - 1, by omega⟩
        rw [Nat.add_sub_cancel] at ht2
        refine wps_cons <| wst_aug 4 rfl nd <| wp_int <| od_isub ⟨rfl, ?_⟩
        rw [pred1]
        refine wps_cons <| wst_append 5 rfl hsz <| wp_tup <| wpa_cons <| wp_gstr rfl hPUT <| wpa_cons <| wp_ix <| wp_name 1 rfl rfl <| wp_name 4 rfl rfl <| xd_seq rfl (l2 b (by omega)) <| wpa_nil <| ⟨[.str "put", .str (other.getD b "")], rfl, Le rfl, _, rfl, wps_nil (wps_nil (wps_nil ⟨i + b, by omega, i, b, ws ++ [.put (other.getD b "")], rfl, hi, by omega, ?_, ?_⟩))⟩
        · rw [List.append_assoc]
          refine Eq.trans ?_ hws
          congr 1
          cases i with
          | zero => rw [btr_0s]; rfl
          | succ a =>
            have he : ¬ one.getD a "" = other.getD b "" := by simpa using ht
            rw [btr_ss, if_neg he, if_pos (by simpa using ht2)]
            rfl
        · rw [List.map_append]
          rfl
      · -- drop
        have hi0 : 0 < i := by
          apply Classical.byContradiction
          intro z
          have z0 : i = 0 := by omega
          subst z0
          simp at hx ht2
          omega
        obtain ⟨a, rfl⟩ : ∃ a, i = a + 1 := ⟨i - 1, by omega⟩
        refine wps_cons <| wst_aug 3 rfl nd <| wp_int <| od_isub ⟨rfl, ?_⟩
        rw [pred1]
        refine wps_cons <| wst_append 5 rfl hsz <| wp_tup <| wpa_cons <| wp_gstr rfl hDROP <| wpa_cons <| wp_ix <| wp_name 0 rfl rfl <| wp_name 3 rfl rfl <| xd_seq rfl (l1 a (by omega)) <| wpa_nil <| ⟨[.str "drop", .str (one.getD a "")], rfl, Le rfl, _, rfl, wps_nil (wps_nil (wps_nil ⟨a + j, by omega, a, j, ws ++ [.drop (one.getD a "")], rfl, by omega, hj, ?_, ?_⟩))⟩
        · rw [List.append_assoc]
          refine Eq.trans ?_ hws
          congr 1
          cases j with
          | zero => rw [btr_s0]; rfl
          | succ b =>
            have he : ¬ one.getD a "" = other.getD b "" := by simpa using ht
            have h2 : ¬ dd one other (a + 1) b < dd one other a (b + 1) := by simpa using ht2
            rw [btr_ss, if_neg he, if_neg h2]
            rfl
        · rw [List.map_append]
          rfl
  · have hx' : i = 0 ∧ j = 0 := by
      simp at hx
      omega
    obtain ⟨rfl, rfl⟩ := hx'
    have hb : btr one other 0 0 = [] := by rw [btr]
    rw [hb, List.append_nil] at hws
    subst hws
    refine wps_cons <| wst_ret <| wp_fn Gj hr <| wpa_cons <| wp_fn Gs hr <| wpa_cons <| wp_rev <| wp_name 5 rfl rfl <| ⟨_, rfl, wpa_nil <| ⟨?_, wpa_nil <| ⟨rfl, rfl⟩⟩⟩
    rw [List.map_reverse]
    rfl
end
end K84

set_option Elab.async false
set_option linter.all false
set_option maxRecDepth 100000
set_option maxHeartbeats 2000000
/-! K3: k84, the walk: kept_at, anchors -/
namespace K84
open PySem PySem.Spec PyProof.Rows L2 DL
/-! ### what a patch keeps -/
def kgStep : Nat × Nat × List (Nat × Nat) → Str × List Str → Nat × Nat × List (Nat × Nat)
  | (i, j, acc), (w, ls) => if w = "keep" then (i + ls.length, j + ls.length, acc ++ (List.range ls.length).map fun t => (i + t, j + t)) else if w = "drop" then (i + ls.length, j, acc) else (i, j + ls.length, acc)
theorem kgStep_keep {a b : Nat} {acc : List (Nat × Nat)} {ls : List Str} : kgStep (a, b, acc) ("keep", ls) = (a + ls.length, b + ls.length, acc ++ (List.range ls.length).map fun t => (a + t, b + t)) := by simp [kgStep]
theorem kgStep_drop {a b : Nat} {acc : List (Nat × Nat)} {w : Str} {ls : List Str} (hw : ¬ w = "keep") (hd : w = "drop") : kgStep (a, b, acc) (w, ls) = (a + ls.length, b, acc) := by
  unfold kgStep
  simp only
  rw [if_neg hw, if_pos hd]
theorem kgStep_put {a b : Nat} {acc : List (Nat × Nat)} {w : Str} {ls : List Str} (hw : ¬ w = "keep") (hd : ¬ w = "drop") : kgStep (a, b, acc) (w, ls) = (a, b + ls.length, acc) := by simp [kgStep, hw, hd]
def kgA (gs : List (Str × List Str)) : Nat × Nat × List (Nat × Nat) := gs.foldl kgStep (0, 0, [])
def kg (gs : List (Str × List Str)) : List (Nat × Nat) := (kgA gs).2.2
def tot (gs : List (Str × List Str)) : Nat := (gs.map fun g => g.2.length).sum
def eK (l : List (Nat × Nat)) : List Key := l.map fun p => .inl (p.1 : Int)
def eV (l : List (Nat × Nat)) : List D := l.map fun p => .int (p.2 : Int)
def eKV (l : List (Nat × Nat)) : D := .dct (eK l) (eV l)
theorem kgA_next {gs : List (Str × List Str)} {i : Nat} (h : i < gs.length) : kgA (gs.take (i + 1)) = kgStep (kgA (gs.take i)) gs[i] := by
  unfold kgA
  rw [take_next h, List.foldl_append]
  rfl
theorem tot_next {gs : List (Str × List Str)} {i : Nat} (h : i < gs.length) : tot (gs.take (i + 1)) = tot (gs.take i) + gs[i].2.length := by
  unfold tot
  rw [take_next h, List.map_append, List.sum_append]
  simp
/-- the state: places bound, keys below, no more than so many -/
structure KgOk (n : Nat) (st : Nat × Nat × List (Nat × Nat)) : Prop where
  i : st.1 ≤ n
  j : st.2.1 ≤ n
  len : st.2.2.length ≤ n
  low : ∀ p ∈ st.2.2, p.1 < st.1
theorem KgOk.step {n : Nat} {st : Nat × Nat × List (Nat × Nat)} {g : Str × List Str} (h : KgOk n st) : KgOk (n + g.2.length) (kgStep st g) := by
  obtain ⟨i, j, acc⟩ := st
  obtain ⟨w, ls⟩ := g
  obtain ⟨h1, h2, h3, h4⟩ := h
  simp only at h1 h2 h3 h4
  unfold kgStep
  simp only
  split
  · refine ⟨by simp; omega, by simp; omega, by simp; omega, fun p hp => ?_⟩
    simp only [List.mem_append, List.mem_map, List.mem_range] at hp
    rcases hp with z | ⟨t, ht, rfl⟩
    · have := h4 p z
      simp only
      omega
    · simp only
      omega
  · split
    · exact ⟨by simp; omega, by simp; omega, by simp; omega, fun p hp => by have := h4 p hp; simp only; omega⟩
    · exact ⟨by simp; omega, by simp; omega, by simp; omega, fun p hp => h4 p hp⟩
theorem kgA_ok : ∀ (gs : List (Str × List Str)) (i : Nat), i ≤ gs.length → KgOk (tot (gs.take i)) (kgA (gs.take i))
  | gs, 0, _ => ⟨Nat.le_refl 0, Nat.le_refl 0, Nat.le_refl 0, fun p hp => by cases hp⟩
  | gs, i + 1, h => by
    rw [kgA_next h, tot_next h]
    exact (kgA_ok gs i (by omega)).step
theorem tot_le : ∀ (gs : List (Str × List Str)) (i : Nat), tot (gs.take i) ≤ tot gs
  | [], i => by simp
  | g :: gs, 0 => by simp [tot]
  | g :: gs, i + 1 => by
    have := tot_le gs i
    simp only [tot, List.take_succ_cons, List.map_cons, List.sum_cons] at *
    omega
theorem eK_new {l : List (Nat × Nat)} {i : Nat} (h : ∀ p ∈ l, p.1 < i) {k : Nat} (hk : i ≤ k) : (.inl (k : Int) : Key) ∉ eK l := fun hm => by
  obtain ⟨p, hp, e⟩ := List.mem_map.mp hm
  have h1 := h p hp
  injection e with e
  omega
section
variable {P : Program} {w : World} {K : PySem.W.Frag} {mg : Str → Option Value} {base : Heap} {f : Addr} {fd : FuncData} {k : Nat}
/-! ### anchors -/
def lk : List (Nat × Nat) → Nat → Option Nat
  | [], _ => none
  | (a, b) :: r, k => if a = k then some b else lk r k
theorem getD?_lk : ∀ (l : List (Nat × Nat)) (k : Nat), getD? (eK l) (eV l) (.inl (k : Int)) = (lk l k).map fun b => .int (b : Int)
  | [], k => rfl
  | (a, b) :: r, k => by
    have ih := getD?_lk r k
    show (if (Sum.inl (a : Int) : Key) = Sum.inl (k : Int) then some (D.int b) else getD? (eK r) (eV r) (.inl (k : Int))) = ((if a = k then some b else lk r k)).map _
    by_cases h : a = k
    · subst h
      rw [if_pos rfl, if_pos rfl]
      rfl
    · rw [if_neg h, if_neg (fun e => h (by injection e with e; omega)), ih]
abbrev T3 := Int × Int × Int
def e3 (t : T3) : D := .tup [.int t.1, .int t.2.1, .int t.2.2]
/-- the places that both keep -/
def anc (h t : List (Nat × Nat)) (a : Nat) : Option T3 := match lk h a, lk t a with
  | some b, some c => some ((a : Int), (b : Int), (c : Int))
  | _, _ => none
def ancs (h t : List (Nat × Nat)) (n : Nat) : List T3 := (List.range n).filterMap (anc h t)
theorem ancs_next (h t : List (Nat × Nat)) (n : Nat) : ancs h t (n + 1) = ancs h t n ++ (match anc h t n with | some x => [x] | none => []) := by
  unfold ancs
  rw [List.range_succ, List.filterMap_append]
  congr 1
  cases q : anc h t n <;> simp [q]
theorem ancs_len (h t : List (Nat × Nat)) (n : Nat) : (ancs h t n).length ≤ n := by
  have := List.length_filterMap_le (anc h t) (List.range n)
  simpa [ancs] using this
def marksOf (base mine theirs : List Str) (h t : List (Nat × Nat)) : List T3 := (-1, -1, -1) :: (ancs h t base.length ++ [((base.length : Int), (mine.length : Int), (theirs.length : Int))])
theorem hu1 {A : Around} {k : Nat} (hr : Room k A) : A.units + 1 < cLine := hu_of hr
end
end K84

set_option Elab.async false
set_option linter.all false
set_option maxRecDepth 100000
set_option maxHeartbeats 2000000
/-! K4: k84, the walk: merged_lines -/
namespace K84
open PySem PySem.Spec PyProof.Rows L2 DL
def part (l : List Str) (o n : Int) : List Str := cutG l (some (o + 1)) (some n)
def lineAt (l : List Str) (n : Int) : List Str := if n < l.length then [l.getD n.toNat ""] else []
def mgS (base mine theirs : List Str) : List (T3 × T3) → List Str → Int ⊕ List Str
  | [], acc => .inr acc
  | (o, n) :: r, acc =>
    if part mine o.2.1 n.2.1 = part theirs o.2.2 n.2.2 ∨ part theirs o.2.2 n.2.2 = part base o.1 n.1 then mgS base mine theirs r (acc ++ part mine o.2.1 n.2.1 ++ lineAt base n.1)
    else if part mine o.2.1 n.2.1 = part base o.1 n.1 then mgS base mine theirs r (acc ++ part theirs o.2.2 n.2.2 ++ lineAt base n.1) else .inl (o.1 + 1)
def pairs (A : List T3) : List (T3 × T3) := A.zip A.tail
def eR : Int ⊕ List Str → D
  | .inl n => .tup [.str "clash", .int n]
  | .inr l => .tup [.str "merged", eL l]
theorem okW_ok : ∀ s ∈ okW, PyData.canLay0 (.str s) = true := by decide +kernel
theorem strsOk_of {l : List Str} (h : ∀ s ∈ l, s ∈ okW) : strsOk l := fun s hs => okW_ok s (h s hs)
theorem cut1 {α : Type} (xs : List α) : cutG xs (some 1) none = xs.tail := by
  unfold cutG
  rw [show HT.sIx xs.length 0 (some 1) = min 1 xs.length from HT.sIx_nat xs.length 0 1, HT.sIx_none]
  cases xs with
  | nil => rfl
  | cons x r =>
    rw [show min 1 (x :: r).length = 1 by rw [List.length_cons]; omega]
    show (List.take ((x :: r).length - 1) r) = r
    rw [List.length_cons, Nat.add_sub_cancel]
    exact List.take_length
theorem getD_e3 {A : List T3} {i : Nat} (h : i < A.length) : (A.map e3).getD i .non = e3 A[i] := by simp [h]
theorem pairs_len (A : List T3) : (pairs A).length = A.length - 1 := by
  unfold pairs
  rw [List.length_zip, List.length_tail]
  omega
theorem pairs_get {A : List T3} {i : Nat} (h : i < (pairs A).length) : (pairs A)[i] = (A[i]'(by rw [pairs_len] at h; omega), A[i + 1]'(by rw [pairs_len] at h; omega)) := by
  simp [pairs, List.getElem_zip]
section
variable {P : Program} {w : World} {K : PySem.W.Frag} {mg : Str → Option Value} {base : Heap} {f : Addr} {fd : FuncData} {k : Nat}
end
end K84

set_option Elab.async false
set_option linter.all false
set_option maxRecDepth 100000
set_option maxHeartbeats 2000000
/-! K5: k84, the walk: the law's own looks at patches -/
namespace K84
open PySem PySem.Spec PyProof.Rows L2 DL
section
variable {P : Program} {w : World} {K : PySem.W.Frag} {mg : Str → Option Value} {base : Heap} {f : Addr} {fd : FuncData} {k : Nat}
abbrev sIsInt : Stmt := topS 32
theorem scIsInt : FnScope ["thing"] ["thing"] (defScope sIsInt) := ⟨rfl, rfl, rfl, by decide +kernel, rfl, by decide +kernel, by decide +kernel⟩
theorem ok_isInt (m : M mg) {n : Int} (d : Df K mg "_law_is_int" sIsInt ["thing"]) : Fn P w K mg base (k + 1) "_law_is_int" [.int n] (.im (.bl true)) := by
  refine fn_mk d scIsInt rfl (by simp) rfl fun f cdv A outer s H E c hr => ?_
  show WPs _ _ _ [.im (.int n)] _
  refine wps_cons <| wst_ret <| wp_and <| wp_isi m.isi m.int PyProof.Rows.boot_int <| wp_name 0 rfl rfl <| ⟨"int", true, rfl, by decide, by decide +kernel, true, rfl, fun _ => ?_, fun z => absurd z (by decide)⟩
  exact wp_one <| wp_not <| wp_isi m.isi m.bool PyProof.Rows.boot_bool <| wp_name 0 rfl rfl <| ⟨"int", false, rfl, by decide, by decide +kernel, false, rfl, rfl⟩
abbrev sLAre : Stmt := topS 36
theorem scLAre : FnScope ["thing", "line"] ["thing"] (defScope sLAre) := ⟨rfl, rfl, rfl, by decide +kernel, rfl, by decide +kernel, by decide +kernel⟩
theorem ok_lare (m : M mg) {l : List Str} (hL : Lns l) (d : Df K mg "_law_are_lines" sLAre ["thing"]) : Fn P w K mg base (k + 1) "_law_are_lines" [eL l] (.im (.bl true)) := by
  refine fn_mk d scLAre rfl (by simp) rfl fun f cdv A outer s H E c hr => ?_
  obtain ⟨hlen, hw⟩ := hL
  show WPs _ _ _ [.im (eL l), .any] _
  refine wps_cons <| wst_if <| wpt_or2 (x := false) (y := false) (wpt_not <| wpt_val <| wp_isi m.isi m.tup PyProof.Rows.boot_tuple <| wp_name 0 rfl rfl <| ⟨"tuple", true, rfl, by decide, by decide +kernel, true, rfl, rfl⟩)
    (fun _ => wpt_cmp <| wp_callB m.len PySem.boot_len <| wpa_cons <| wp_name 0 rfl rfl <| wpa_nil <| cd_len rfl <| wp_int <| od_gt ⟨_, rfl, ?_⟩) ⟨fun z => absurd z (by decide), fun _ => wps_nil ?_⟩
  · rw [List.length_map]
    exact decide_eq_false (by omega)
  refine wps_cons <| wst_ret <| wp_callB m.all PyProof.Rows.boot_all <| wpa_cons <| wp_lc (own := [("line", 1)]) (fun i acc => acc = List.replicate i (.bl true)) rfl scLAre.nd (blk_of (N' := ["thing", "line"]) (sc' := defScope sLAre) (by decide +kernel)) (by rfl) <| wpi_tup <| wp_name 0 rfl rfl <| ⟨_, rfl, rfl, fun F1 H1 i acc hi hj Y hY => ?_, fun acc hj => ?_⟩
  · obtain ⟨s', H', C, cl, fp, rfl⟩ := hY
    have hi' : i < l.length := by simpa using hi
    refine gtc_name 1 scLAre.nd fun Y hY => ⟨fun _ Y hY => ?_, fun z => absurd z (by decide)⟩
    obtain ⟨s', H', C, cl, fp, rfl⟩ := hY
    show WPe _ _ _ [.im (eL l), .im ((l.map D.str).getD i .non)] _
    rw [getD_str hi']
    refine wp_and <| wp_isi m.isi m.str PyProof.Rows.boot_str <| wp_name 1 rfl rfl <| ⟨"str", true, rfl, by decide, by decide +kernel, true, rfl, fun _ => ?_, fun z => absurd z (by decide)⟩
    refine wp_one <| wp_cmp <| wp_str <| wp_name 1 rfl rfl <| od_notInStr (okW_nl _ (hw _ (List.getElem_mem hi'))) ⟨_, rfl, ?_, ?_⟩
    · rw [hj, List.length_replicate]
      exact Nat.lt_trans hi' (len200 hlen)
    · rw [hj]
      exact rep_snoc i _
  · refine wpa_nil (cd_all (bs := List.replicate (l.map D.str).length true) rfl ?_ ?_)
    · rw [hj]
      show some _ = some _
      rw [List.map_replicate]
    · show Sl.im _ = Sl.im _
      rw [show (List.replicate (l.map D.str).length true).all id = true by simp]
/-! ### _law_far -/
abbrev sFar : Stmt := topS 35
theorem scFar : FnScope ["one", "other", "row", "at", "line", "later", "there", "told", "best"] ["one", "other"] (defScope sFar) := ⟨rfl, rfl, rfl, by decide +kernel, rfl, by decide +kernel, by decide +kernel⟩
theorem ok_far (m : M mg) {one other : List Str} (hL : Lns one) (hL2 : Lns other) (d : Df K mg "_law_far" sFar ["one", "other"]) : Fn P w K mg base (k + 1) "_law_far" [eL one, eL other] (.im (.int (dd one other one.length other.length))) := by
  refine fn_mk d scFar rfl (by simp) rfl fun f cdv A outer s H E c hr => ?_
  have nd := scFar.nd
  have hn1 := hL.1
  have hn2 := hL2.1
  show WPs _ _ _ [.im (eL one), .im (eL other), .any, .any, .any, .any, .any, .any, .any] _
  refine wps_cons <| wst_set 2 nd <| wp_listRange rfl m.list m.range <| wp_binop <| wp_callB m.len PySem.boot_len <| wpa_cons <| wp_name 1 rfl rfl <| wpa_nil <| cd_len rfl <| wp_int <| od_add ⟨other.length + 1, by simp, by omega, rfl, ?_⟩
  refine wps_freeze 2 rfl ?_
  rw [← row_0 one other]
  refine wps_cons <| wst_for (fun i Γ => ∃ s3 s4 s5 s6 s7 s8, Γ = [.im (eL one), .im (eL other), .im (.lst (eRow one other i (other.length + 1))), s3, s4, s5, s6, s7, s8]) <| wpi_enumT m.enum <| wpa_cons <| wp_name 0 rfl rfl <| wpa_nil ⟨_, rfl, ⟨_, _, _, _, _, _, rfl⟩, fun F1 i Γ' hi hj => ?_, fun Γ' hj => ?_⟩
  · obtain ⟨s3, s4, s5, s6, s7, s8, rfl⟩ := hj
    have hi' : i < one.length := by simpa using hi
    refine gt_tup2 3 4 rfl nd ?_
    show WPs _ _ _ [.im (eL one), .im (eL other), .im (.lst (eRow one other i (other.length + 1))), .im (.int (i : Nat)), .im ((one.map D.str).getD i .non), s5, s6, s7, s8] _
    rw [getD_str hi']
    refine wps_cons <| wst_set 5 nd <| wp_lst <| wpa_cons <| wp_binop <| wp_name 3 rfl rfl <| wp_int <| od_add <| wpa_nil ⟨eRow one other (i + 1) 1, ?_, Le rfl, rfl, ?_⟩
    · show [Sl.im (.int ((i : Int) + 1))] = [Sl.im (.int (dd one other (i + 1) 0))]
      rw [dd_s0]
      simp
    show WPs _ _ _ [.im (eL one), .im (eL other), .im (.lst (eRow one other i (other.length + 1))), .im (.int (i : Nat)), .im (.str one[i]), .own (.lst (eRow one other (i + 1) 1)), s6, s7, s8] _
    refine wps_cons <| wst_for (fun j Γ => ∃ s6 s7 s8, Γ = [.im (eL one), .im (eL other), .im (.lst (eRow one other i (other.length + 1))), .im (.int (i : Nat)), .im (.str one[i]), .own (.lst (eRow one other (i + 1) (j + 1))), s6, s7, s8]) <| wpi_enumT m.enum <| wpa_cons <| wp_name 1 rfl rfl <| wpa_nil ⟨_, rfl, ⟨_, _, _, rfl⟩, fun F2 j Γ' hjn hj => ?_, fun Γ' hj => ?_⟩
    · obtain ⟨s6, s7, s8, rfl⟩ := hj
      have hj' : j < other.length := by simpa using hjn
      refine gt_tup2 6 7 rfl nd ?_
      show WPs _ _ _ [.im (eL one), .im (eL other), .im (.lst (eRow one other i (other.length + 1))), .im (.int (i : Nat)), .im (.str one[i]), .own (.lst (eRow one other (i + 1) (j + 1))), .im (.int (j : Nat)), .im ((other.map D.str).getD j .non), s8] _
      rw [getD_str hj']
      refine wps_cons <| wst_set 8 nd <| wp_binop <| wp_callB m.min PyProof.Rows.boot_min <| wpa_cons <| wp_ix <| wp_name 2 rfl rfl <| wp_binop <| wp_name 6 rfl rfl <| wp_int <| od_add <| xd_seq rfl (atI_rm (j := j + 1) (by simp) (by omega)) <|
        wpa_cons <| wp_ix <| wp_name 5 rfl rfl <| wp_name 6 rfl rfl <| xd_seq rfl (atI_rm (j := j) rfl (by omega)) <| wpa_nil <| cd_min rfl <| wp_int <| od_add <| ⟨rfl, ?_⟩
      have fin : eRow one other (i + 1) (j + 1 + 1) = eRow one other (i + 1) (j + 1) ++ [.int (dd one other (i + 1) (j + 1))] := range_snoc _ _
      refine wps_cons <| wst_append 5 rfl (by simp [eRow]; exact len200 (by omega)) <| wp_ifExp <| wpt_cmp <| wp_name 4 rfl rfl <| wp_name 7 rfl rfl <| od_eqS ⟨_, rfl, fun hx => wp_callB m.min PyProof.Rows.boot_min <| wpa_cons <| wp_name 8 rfl rfl <| wpa_cons <| wp_ix <| wp_name 2 rfl rfl <| wp_name 6 rfl rfl <| xd_seq rfl (atI_rm (j := j) rfl (by omega)) <| wpa_nil <| cd_min rfl ⟨_, rfl, wps_nil ?_⟩, fun hx => wp_name 8 rfl rfl ⟨_, rfl, wps_nil ?_⟩⟩
      · have he : one[i] = other[j] := of_decide_eq_true hx
        rw [fin, dd_ss, getD_eq hi', getD_eq hj', if_pos he]
        exact ⟨_, _, _, rfl⟩
      · have he : ¬ one[i] = other[j] := of_decide_eq_false hx
        rw [fin, dd_ss, getD_eq hi', getD_eq hj', if_neg he]
        exact ⟨_, _, _, rfl⟩
    · obtain ⟨s6, s7, s8, rfl⟩ := hj
      refine wps_freeze 5 rfl ?_
      refine wps_cons <| wst_set 2 nd <| wp_name 5 rfl rfl ⟨rfl, wps_nil ?_⟩
      rw [List.length_map]
      exact ⟨_, _, _, _, _, _, rfl⟩
  · obtain ⟨s3, s4, s5, s6, s7, s8, rfl⟩ := hj
    rw [List.length_map]
    refine wps_cons <| wst_ret <| wp_ix <| wp_name 2 rfl rfl <| wp_unop <| wp_int <| ud_neg <| xd_seq rfl (d := .int (dd one other one.length other.length)) ?_ rfl
    rw [show eRow one other one.length (other.length + 1) = eRow one other one.length other.length ++ [.int (dd one other one.length other.length)] from range_snoc _ _]
    exact atI_last _ _
/-! ### _law_cost -/
def notKeep (g : Str × List Str) : Bool := !decide (g.1 = ("keep" : Str))
def cst (gs : List (Str × List Str)) : Int := ((gs.filter notKeep).map fun g => (g.2.length : Int)).sum
abbrev sCst : Stmt := topS 39
theorem scCst : FnScope ["steps", "word", "part"] ["steps"] (defScope sCst) := ⟨rfl, rfl, rfl, by decide +kernel, rfl, by decide +kernel, by decide +kernel⟩
theorem ok_cst (m : M mg) {gs : List (Str × List Str)} (hl : gs.length ≤ 900) (d : Df K mg "_law_cost" sCst ["steps"]) : Fn P w K mg base (k + 1) "_law_cost" [eP gs] (.im (.int (cst gs))) := by
  refine fn_mk d scCst rfl (by simp) rfl fun f cdv A outer s H E c hr => ?_
  have nd := scCst.nd
  show WPs _ _ _ [.im (eP gs), .any, .any] _
  refine wps_cons <| wst_ret <| wp_callB m.sum PyProof.Rows.boot_sum <| wpa_cons <| wp_lc (own := [("word", 1), ("part", 2)]) (fun i acc => acc = (((gs.take i).filter notKeep).map fun g => (g.2.length : Int)).map D.int) rfl nd (blk_of (N' := ["steps", "word", "part"]) (sc' := defScope sCst) (by decide +kernel)) (by rfl) <| wpi_tup <| wp_name 0 rfl rfl <| ⟨_, rfl, rfl, fun F1 H1 i acc hi hj Y hY => ?_, fun acc hj => ?_⟩
  · obtain ⟨s', H', C, cl, fp, rfl⟩ := hY
    have hi' : i < gs.length := by simpa using hi
    show GtC _ _ _ (.im ((gs.map eT).getD i .non)) _ _ _
    rw [getD_map eT hi']
    have hlen : acc.length ≤ i := by
      rw [hj, List.length_map, List.length_map]
      exact Nat.le_trans (List.length_filter_le _ _) (by rw [List.length_take]; omega)
    rw [take_next hi', List.filter_append, List.map_append, List.map_append, ← hj]
    generalize gs[i] = g
    obtain ⟨wd, ls⟩ := g
    by_cases hw : wd = "keep"
    · subst hw
      have et : eT ("keep", ls) = .tup [.str "keep", .int ls.length] := if_pos rfl
      rw [et]
      refine gtc_tup2 1 2 rfl nd fun Y hY => ?_
      obtain ⟨s', H', C, cl, fp, rfl⟩ := hY
      refine wpt_cmp <| wp_name 1 rfl rfl <| wp_str <| od_neS ⟨_, rfl, fun z => absurd z (by decide), fun _ => ?_⟩
      exact (List.append_nil acc).symm
    · have et : eT (wd, ls) = .tup [.str wd, eL ls] := if_neg hw
      rw [et]
      refine gtc_tup2 1 2 rfl nd fun Y hY => ?_
      obtain ⟨s', H', C, cl, fp, rfl⟩ := hY
      refine wpt_cmp <| wp_name 1 rfl rfl <| wp_str <| od_neS ⟨_, rfl, fun z Y hY => ?_, fun z => ?_⟩
      · obtain ⟨s', H', C, cl, fp, rfl⟩ := hY
        refine wp_callB m.len PySem.boot_len <| wpa_cons <| wp_name 2 rfl rfl <| wpa_nil <| cd_len rfl ⟨_, rfl, Nat.lt_of_lt_of_le (show acc.length < 1000 by omega) (by decide), ?_⟩
        have e : [(wd, ls)].filter notKeep = [(wd, ls)] := by simp [notKeep, hw]
        rw [e, List.length_map]
        rfl
      · simp [hw] at z
  · rw [List.length_map, List.take_length] at hj
    subst hj
    exact wpa_nil (cd_sum rfl (ns := (gs.filter notKeep).map fun g => (g.2.length : Int)) rfl rfl)
end
end K84

set_option Elab.async false
set_option linter.all false
set_option pp.maxSteps 300
set_option maxRecDepth 100000
set_option maxHeartbeats 2000000
/-! K6: k84, the walk: _law_kept, _law_led, _law_is_patch, _law_is_least -/
namespace K84
open PySem PySem.Spec PyProof.Rows L2 DL
section
variable {P : Program} {w : World} {K : PySem.W.Frag} {mg : Str → Option Value} {base : Heap} {f : Addr} {fd : FuncData} {k : Nat}
/-! ### _law_kept -/
/-! ### _law_led -/
/-- the lines ahead, the lines behind -/
def sG (g : Str × List Str) : List Str := if g.1 = ("put" : Str) then [] else g.2
def dG (g : Str × List Str) : List Str := if g.1 = ("drop" : Str) then [] else g.2
def srcG (gs : List (Str × List Str)) : List Str := gs.flatMap sG
def dstG (gs : List (Str × List Str)) : List Str := gs.flatMap dG
theorem sG_keep (ls : List Str) : sG ("keep", ls) = ls := if_neg (show ¬ ("keep" : Str) = "put" by decide)
theorem sG_drop (ls : List Str) : sG ("drop", ls) = ls := if_neg (show ¬ ("drop" : Str) = "put" by decide)
theorem sG_put (ls : List Str) : sG ("put", ls) = [] := if_pos rfl
theorem dG_keep (ls : List Str) : dG ("keep", ls) = ls := if_neg (show ¬ ("keep" : Str) = "drop" by decide)
theorem dG_drop (ls : List Str) : dG ("drop", ls) = [] := if_pos rfl
theorem dG_put (ls : List Str) : dG ("put", ls) = ls := if_neg (show ¬ ("put" : Str) = "drop" by decide)
theorem srcG_split {gs : List (Str × List Str)} {i : Nat} (h : i < gs.length) : srcG gs = srcG (gs.take i) ++ sG gs[i] ++ srcG (gs.drop (i + 1)) := by
  have e : gs = gs.take i ++ gs[i] :: gs.drop (i + 1) := by rw [← List.drop_eq_getElem_cons h, List.take_append_drop]
  have h2 : srcG gs = srcG (gs.take i ++ gs[i] :: gs.drop (i + 1)) := congrArg srcG e
  rw [h2]
  unfold srcG
  rw [List.flatMap_append, List.flatMap_cons, List.append_assoc]
theorem srcG_next {gs : List (Str × List Str)} {i : Nat} (h : i < gs.length) : srcG (gs.take (i + 1)) = srcG (gs.take i) ++ sG gs[i] := by
  rw [take_next h]
  unfold srcG
  rw [List.flatMap_append, List.flatMap_cons, List.flatMap_nil, List.append_nil]
theorem dstG_next {gs : List (Str × List Str)} {i : Nat} (h : i < gs.length) : dstG (gs.take (i + 1)) = dstG (gs.take i) ++ dG gs[i] := by
  rw [take_next h]
  unfold dstG
  rw [List.flatMap_append, List.flatMap_cons, List.flatMap_nil, List.append_nil]
theorem dstG_len : ∀ (gs : List (Str × List Str)), (dstG gs).length ≤ tot gs
  | [] => Nat.le_refl 0
  | g :: r => by
    have := dstG_len r
    unfold dstG tot at *
    rw [List.flatMap_cons, List.length_append, List.map_cons, List.sum_cons]
    have h : (dG g).length ≤ g.2.length := by
      unfold dG
      split
      · exact Nat.zero_le _
      · exact Nat.le_refl _
    omega
theorem cutG_mid {α : Type} (a b c : List α) : cutG (a ++ b ++ c) (some (a.length : Int)) (some ((a.length : Int) + (b.length : Int))) = b := by
  unfold cutG
  rw [show HT.sIx (a ++ b ++ c).length 0 (some (a.length : Int)) = min a.length (a ++ b ++ c).length from HT.sIx_nat _ 0 _,
    show HT.sIx (a ++ b ++ c).length (a ++ b ++ c).length (some ((a.length : Int) + (b.length : Int))) = min (a.length + b.length) (a ++ b ++ c).length from HT.sIx_nat _ _ (a.length + b.length)]
  have l1 : min a.length (a ++ b ++ c).length = a.length := Nat.min_eq_left (by simp)
  have l2 : min (a.length + b.length) (a ++ b ++ c).length = a.length + b.length := Nat.min_eq_left (by simp)
  rw [l1, l2, List.append_assoc, List.drop_left, Nat.add_sub_cancel_left, List.take_left]
theorem srcG_0 (gs : List (Str × List Str)) : srcG (gs.take 0) = [] := by
  rw [List.take_zero]
  rfl
theorem dstG_0 (gs : List (Str × List Str)) : dstG (gs.take 0) = [] := by
  rw [List.take_zero]
  rfl
abbrev sLed : Stmt := topS 38
theorem scLed : FnScope ["one", "steps", "at", "found", "word", "part"] ["one", "steps"] (defScope sLed) := ⟨rfl, rfl, rfl, by decide +kernel, rfl, by decide +kernel, by decide +kernel⟩
def wOk (gs : List (Str × List Str)) : Prop := ∀ g ∈ gs, g.1 = "keep" ∨ g.1 = "drop" ∨ g.1 = "put"
theorem ok_led (m : M mg) {gs : List (Str × List Str)} (hg : tot gs ≤ 900) (hwo : wOk gs) (hok : ∀ g ∈ gs, ∀ s ∈ g.2, s ∈ okW) (d : Df K mg "_law_led" sLed ["one", "steps"]) : Fn P w K mg base (k + 1) "_law_led" [eL (srcG gs), eP gs] (.im (eL (dstG gs))) := by
  refine fn_mk d scLed rfl (by simp) rfl fun f cdv A outer s H E c hr => ?_
  have nd := scLed.nd
  have hu64 := hr.units
  have e0 : srcG (gs.take 0) = [] := srcG_0 gs
  have e1 : dstG (gs.take 0) = [] := dstG_0 gs
  show WPs _ _ _ [.im (eL (srcG gs)), .im (eP gs), .any, .any, .any, .any] _
  refine wps_cons <| wst_par 2 3 rfl nd (by decide) <| wp_int <| wp_lst <| wpa_nil ⟨[], rfl, Le rfl, rfl, rfl, ?_⟩
  refine wps_cons <| wst_for (fun i Γ => ∃ s4 s5, Γ = [.im (eL (srcG gs)), .im (eP gs), .im (.int ((srcG (gs.take i)).length : Nat)), .own (.lst ((dstG (gs.take i)).map D.str)), s4, s5]) <| wpi_tup <| wp_name 1 rfl rfl <| ⟨_, rfl, ?_, fun F1 i Γ' hi hj => ?_, fun Γ' hj => ?_⟩
  · rw [e0, e1]
    exact ⟨_, _, rfl⟩
  · obtain ⟨s4, s5, rfl⟩ := hj
    have hi' : i < gs.length := by simpa using hi
    show GtD _ _ _ (.im ((gs.map eT).getD i .non)) _ _
    rw [getD_map eT hi']
    have hsp := srcG_split hi'
    have hlen := dstG_len (gs.take (i + 1))
    have hb := tot_le gs (i + 1)
    have hw3 := hwo gs[i] (List.getElem_mem hi')
    have hlw := hok gs[i] (List.getElem_mem hi')
    rw [dstG_next hi'] at hlen
    rw [srcG_next hi', dstG_next hi']
    generalize hA : srcG (gs.take i) = SA at hsp
    generalize dstG (gs.take i) = DA at hlen
    generalize srcG (gs.drop (i + 1)) = SB at hsp
    generalize gs[i] = g at hsp hlen hw3 hlw
    obtain ⟨wd, ls⟩ := g
    simp only at hw3 hlw
    have sz : ∀ {ls' : List Str}, (DA ++ ls').length ≤ 900 → (DA.map D.str).length + (ls'.map D.str).length ≤ sizeLine := fun {ls'} h => by
      rw [List.length_append] at h
      rw [List.length_map, List.length_map]
      exact Nat.le_trans (show _ ≤ 1000 by omega) (by decide)
    rcases hw3 with rfl | rfl | rfl
    · -- keep
      have et : eT ("keep", ls) = .tup [.str "keep", .int ls.length] := if_pos rfl
      rw [sG_keep] at hsp ⊢
      rw [dG_keep] at hlen ⊢
      rw [et]
      refine gt_tup2 4 5 rfl nd ?_
      refine wps_cons <| wst_if <| wpt_cmp <| wp_name 4 rfl rfl <| wp_str <| od_eqS ⟨_, rfl, fun hx => absurd hx (by decide), fun _ => ?_⟩
      refine wps_cons <| wst_if <| wpt_cmp <| wp_name 4 rfl rfl <| wp_str <| od_eqS ⟨_, rfl, fun hx => absurd hx (by decide), fun _ => ?_⟩
      refine wps_cons <| wst_if <| wpt_cmp <| wp_binop <| wp_name 2 rfl rfl <| wp_name 5 rfl rfl <| od_add <| wp_callB m.len PySem.boot_len <| wpa_cons <| wp_name 0 rfl rfl <| wpa_nil <| cd_len rfl <| od_gt ⟨_, rfl, fun hx => ?_, fun _ => wps_nil ?_⟩
      · have := of_decide_eq_true hx
        rw [List.length_map, hsp, List.length_append, List.length_append] at this
        omega
      refine wps_cons <| wst_extend 3 rfl <| wp_callTy m.list PyProof.Rows.boot_list <| wpa_cons <| wp_sliceT <| wp_name 0 rfl rfl <| ⟨_, rfl, wpo_some <| wp_name 2 rfl rfl ⟨_, rfl, wpo_some <| wp_binop <| wp_name 2 rfl rfl <| wp_name 5 rfl rfl <| od_add ⟨_, rfl, wpa_nil <| cd_list rfl ⟨ls.map D.str, ?_, sz (by omega), ?_⟩⟩⟩⟩
      · rw [cutD_map, hsp, cutG_mid]
        rfl
      refine wps_cons <| wst_set 2 nd <| wp_binop <| wp_name 2 rfl rfl <| wp_name 5 rfl rfl <| od_add ⟨rfl, wps_nil (wps_nil (wps_nil ?_))⟩
      rw [List.length_append, List.map_append]
      show ∃ s4 s5, _ = [Sl.im _, .im _, .im (.int ((SA.length + ls.length : Nat) : Int)), .own _, s4, s5]
      rw [Int.natCast_add]
      exact ⟨_, _, rfl⟩
    · -- drop
      have et : eT ("drop", ls) = .tup [.str "drop", eL ls] := if_neg (show ¬ ("drop" : Str) = "keep" by decide)
      rw [sG_drop] at hsp ⊢
      rw [dG_drop] at hlen ⊢
      rw [et]
      refine gt_tup2 4 5 rfl nd ?_
      refine wps_cons <| wst_if <| wpt_cmp <| wp_name 4 rfl rfl <| wp_str <| od_eqS ⟨_, rfl, fun hx => absurd hx (by decide), fun _ => ?_⟩
      refine wps_cons <| wst_if <| wpt_cmp <| wp_name 4 rfl rfl <| wp_str <| od_eqS ⟨_, rfl, fun _ => ?_, fun hx => absurd hx (by decide)⟩
      refine wps_cons <| wst_if <| wpt_cmp <| wp_sliceT <| wp_name 0 rfl rfl <| ⟨_, rfl, wpo_some <| wp_name 2 rfl rfl ⟨_, rfl, wpo_some <| wp_binop <| wp_name 2 rfl rfl <| wp_callB m.len PySem.boot_len <| wpa_cons <| wp_name 5 rfl rfl <| wpa_nil <| cd_len rfl <| od_add ⟨_, rfl, wp_name 5 rfl rfl ?_⟩⟩⟩
      have ecut : cutD ((srcG gs).map D.str) (some ((SA.length : Nat) : Int)) (some (((SA.length : Nat) : Int) + ((ls.map D.str).length : Int))) = ls.map D.str := by
        rw [cutD_map, hsp, List.length_map, cutG_mid]
      have hsl := shaped_strs (strsOk_of hlw)
      show OpD _ _ _ (.im (.tup (cutD ((srcG gs).map D.str) (some ((SA.length : Nat) : Int)) (some (((SA.length : Nat) : Int) + ((ls.map D.str).length : Int)))))) (.im (eL ls)) _
      rw [ecut]
      refine od_neD hu64 hsl hsl ⟨_, rfl, fun hx => ?_, fun _ => wps_nil ?_⟩
      · rw [show eL ls = .tup (ls.map D.str) from rfl, eqv_strs, decide_eq_true rfl] at hx
        cases hx
      refine wps_cons <| wst_set 2 nd <| wp_binop <| wp_name 2 rfl rfl <| wp_callB m.len PySem.boot_len <| wpa_cons <| wp_name 5 rfl rfl <| wpa_nil <| cd_len rfl <| od_add ⟨rfl, wps_nil (wps_nil (wps_nil ?_))⟩
      rw [List.length_append, List.append_nil, List.length_map]
      show ∃ s4 s5, _ = [Sl.im _, .im _, .im (.int ((SA.length + ls.length : Nat) : Int)), .own _, s4, s5]
      rw [Int.natCast_add]
      exact ⟨_, _, rfl⟩
    · -- put
      have et : eT ("put", ls) = .tup [.str "put", eL ls] := if_neg (show ¬ ("put" : Str) = "keep" by decide)
      rw [sG_put] at hsp ⊢
      rw [dG_put] at hlen ⊢
      rw [et]
      refine gt_tup2 4 5 rfl nd ?_
      refine wps_cons <| wst_if <| wpt_cmp <| wp_name 4 rfl rfl <| wp_str <| od_eqS ⟨_, rfl, fun _ => ?_, fun hx => absurd hx (by decide)⟩
      refine wps_cons <| wst_extend 3 rfl <| wp_callTy m.list PyProof.Rows.boot_list <| wpa_cons <| wp_name 5 rfl rfl <| wpa_nil <| cd_list rfl ⟨_, rfl, sz (by omega), wps_nil (wps_nil ?_)⟩
      rw [List.append_nil, List.map_append]
      exact ⟨_, _, rfl⟩
  · obtain ⟨s4, s5, rfl⟩ := hj
    rw [List.length_map, List.take_length]
    refine wps_cons <| wst_ret <| wp_ifExp <| wpt_cmp <| wp_name 2 rfl rfl <| wp_callB m.len PySem.boot_len <| wpa_cons <| wp_name 0 rfl rfl <| wpa_nil <| cd_len rfl <| od_eqI ⟨_, rfl, fun _ => wp_callTy m.tup PyProof.Rows.boot_tuple <| wpa_cons <| wp_name 3 rfl rfl <| wpa_nil <| cd_tuple rfl rfl, fun hx => ?_⟩
    have := of_decide_eq_false hx
    rw [List.length_map] at this
    exact absurd rfl this
/-! ### _law_is_patch -/
/-- a patch, group by group -/
def PatOk (gs : List (Str × List Str)) : Prop := wOk gs ∧ (∀ g ∈ gs, g.2 ≠ [] ∧ Lns g.2) ∧ ∀ (i : Nat) (a b : Str × List Str), gs[i]? = some a → gs[i + 1]? = some b → a.1 ≠ b.1 ∧ ¬ (b.1 = "drop" ∧ a.1 = "put")
def lastW (gs : List (Str × List Str)) (i : Nat) : Str := match i with
  | 0 => ""
  | i + 1 => (gs.getD i ("", [])).1
abbrev sIsP : Stmt := topS 37
theorem scIsP : FnScope ["thing", "last", "step"] ["thing"] (defScope sIsP) := ⟨rfl, rfl, rfl, by decide +kernel, rfl, by decide +kernel, by decide +kernel⟩
theorem ok_isP (m : M mg) {gs : List (Str × List Str)} (hp : PatOk gs) (Gi : ∀ n : Int, Fn P w K mg base k "_law_is_int" [.int n] (.im (.bl true))) (Ga : ∀ l : List Str, Lns l → Fn P w K mg base k "_law_are_lines" [eL l] (.im (.bl true))) (d : Df K mg "_law_is_patch" sIsP ["thing"]) : Fn P w K mg base (k + 1) "_law_is_patch" [eP gs] (.im (.bl true)) := by
  refine fn_mk d scIsP rfl (by simp) rfl fun f cdv A outer s H E c hr => ?_
  have nd := scIsP.nd
  obtain ⟨hwo, hgl, hnb⟩ := hp
  show WPs _ _ _ [.im (eP gs), .any, .any] _
  refine wps_cons <| wst_if <| wpt_not <| wpt_val <| wp_isi m.isi m.tup PyProof.Rows.boot_tuple <| wp_name 0 rfl rfl <| ⟨"tuple", true, rfl, by decide, by decide +kernel, true, rfl, fun z => absurd z (by decide), fun _ => wps_nil ?_⟩
  refine wps_cons <| wst_set 1 nd <| wp_str ⟨rfl, ?_⟩
  refine wps_cons <| wst_for (fun i Γ => ∃ s2, Γ = [.im (eP gs), .im (.str (lastW gs i)), s2]) <| wpi_tup <| wp_name 0 rfl rfl <| ⟨_, rfl, ⟨_, rfl⟩, fun F1 i Γ' hi hj => ?_, fun Γ' hj => ?_⟩
  · obtain ⟨s2, rfl⟩ := hj
    have hi' : i < gs.length := by simpa using hi
    show GtD _ _ _ (.im ((gs.map eT).getD i .non)) _ _
    rw [getD_map eT hi']
    have hw3 := hwo gs[i] (List.getElem_mem hi')
    obtain ⟨hne, hln⟩ := hgl gs[i] (List.getElem_mem hi')
    have hlast : lastW gs (i + 1) = gs[i].1 := by simp [lastW, hi']
    have hprev : lastW gs i ≠ gs[i].1 ∧ ¬ (gs[i].1 = "drop" ∧ lastW gs i = "put") := by
      cases i with
      | zero =>
        refine ⟨fun e => ?_, fun e => absurd e.2 (show ¬ ("" : Str) = "put" by decide)⟩
        have e' : ("" : Str) = gs[0].1 := e
        rcases hw3 with z | z | z <;> rw [z] at e' <;> exact absurd e' (by decide)
      | succ j =>
        have hj : j < gs.length := by omega
        have e : lastW gs (j + 1) = gs[j].1 := by simp [lastW, hj]
        rw [e]
        exact hnb j gs[j] gs[j + 1] (List.getElem?_eq_getElem hj) (List.getElem?_eq_getElem hi')
    rw [hlast]
    generalize lastW gs i = lw at hprev
    generalize gs[i] = g at hw3 hne hln hprev
    obtain ⟨wd, ls⟩ := g
    simp only at hw3 hne hln hprev
    obtain ⟨hpr1, hpr2⟩ := hprev
    -- what holds of the step, whatever its second part
    obtain ⟨v2, et⟩ : ∃ v2, eT (wd, ls) = .tup [.str wd, v2] := by
      unfold eT
      split
      · exact ⟨_, rfl⟩
      · exact ⟨_, rfl⟩
    have et0 := et
    rw [et]
    refine gt_name 2 rfl nd ?_
    show WPs _ _ _ [.im (eP gs), .im (.str lw), .im (.tup [.str wd, v2])] _
    refine wps_cons <| wst_if <| wpt_w <| wpw_or <| wpt_not <| wpt_val <| wp_isi m.isi m.tup PyProof.Rows.boot_tuple <| wp_name 2 rfl rfl <| ⟨"tuple", true, rfl, by decide, by decide +kernel, true, rfl, fun z => absurd z (by decide), fun _ => ?_⟩
    refine wpw_or <| wpt_cmp <| wp_callB m.len PySem.boot_len <| wpa_cons <| wp_name 2 rfl rfl <| wpa_nil <| cd_len rfl <| wp_int <| od_neI ⟨_, rfl, fun z => absurd (show (!decide ((2 : Int) = 2)) = true from z) (by decide), fun _ => ?_⟩
    refine wpw_or1 <| wpt_not <| wpt_val <| wp_isi m.isi m.str PyProof.Rows.boot_str <| wp_ix <| wp_name 2 rfl rfl <| wp_int <| xd_seq rfl rfl <| ⟨"str", true, rfl, by decide, by decide +kernel, true, rfl, fun z => absurd z (by decide), fun _ => wps_nil ?_⟩
    have hin : wd ∈ (["keep", "drop", "put"] : List Str) := by
      rcases hw3 with rfl | rfl | rfl <;> simp
    refine wps_cons <| wst_if <| wpt_or2 (x := false) (y := false) (wpt_cmp <| wp_ix <| wp_name 2 rfl rfl <| wp_int <| xd_seq rfl rfl <| wp_tup <| wpa_cons <| wp_str <| wpa_cons <| wp_str <| wpa_cons <| wp_str <| wpa_nil <| ⟨(["keep", "drop", "put"] : List Str).map D.str, rfl, Le rfl, od_notInS (l := ["keep", "drop", "put"]) rfl ⟨_, rfl, by rw [decide_eq_true hin]; rfl⟩⟩)
      (fun _ => wpt_cmp <| wp_ix <| wp_name 2 rfl rfl <| wp_int <| xd_seq rfl rfl <| wp_name 1 rfl rfl <| od_eqS ⟨_, rfl, decide_eq_false (fun e => hpr1 e.symm)⟩) ⟨fun z => absurd z (by decide), fun _ => wps_nil ?_⟩
    refine wps_cons <| wst_if <| wpt_and2 (x := decide (wd = "drop")) (y := decide (lw = "put")) (wpt_cmp <| wp_ix <| wp_name 2 rfl rfl <| wp_int <| xd_seq rfl rfl <| wp_str <| od_eqS ⟨_, rfl, rfl⟩) (fun _ => wpt_cmp <| wp_name 1 rfl rfl <| wp_str <| od_eqS ⟨_, rfl, rfl⟩) ⟨fun z => ?_, fun _ => wps_nil ?_⟩
    · exfalso
      simp only [Bool.and_eq_true, decide_eq_true_eq] at z
      exact hpr2 z
    refine wps_seq (fun Γ => Γ = [.im (eP gs), .im (.str lw), .im (.tup [.str wd, v2])]) ?_ ?_
    · refine wst_if <| wpt_cmp <| wp_ix <| wp_name 2 rfl rfl <| wp_int <| xd_seq rfl rfl <| wp_str <| od_eqS ⟨_, rfl, fun hx => ?_, fun hx => ?_⟩
      · have hk : wd = "keep" := of_decide_eq_true hx
        have ev : v2 = .int ls.length := by
          have e : eT (wd, ls) = .tup [.str wd, .int ls.length] := if_pos hk
          rw [et0] at e
          injection e with e
          injection e with _ e
          injection e
        subst ev
        have hpos : 0 < ls.length := List.length_pos_iff.mpr hne
        exact wps_cons <| wst_if <| wpt_or2 (x := false) (y := false) (wpt_not <| wpt_val <| wp_fn (Gi ls.length) hr <| wpa_cons <| wp_ix <| wp_name 2 rfl rfl <| wp_int <| xd_seq rfl rfl <| wpa_nil ⟨rfl, true, rfl, rfl⟩)
          (fun _ => wpt_cmp <| wp_ix <| wp_name 2 rfl rfl <| wp_int <| xd_seq rfl rfl <| wp_int <| od_lt ⟨_, rfl, decide_eq_false (by omega)⟩) ⟨fun z => absurd z (by decide), fun _ => wps_nil (wps_nil rfl)⟩
      · have hk : ¬ wd = "keep" := of_decide_eq_false hx
        have ev : v2 = eL ls := by
          have e : eT (wd, ls) = .tup [.str wd, eL ls] := if_neg hk
          rw [et0] at e
          injection e with e
          injection e with _ e
          injection e
        subst ev
        have hpos : 0 < ls.length := List.length_pos_iff.mpr hne
        exact wps_cons <| wst_if <| wpt_or2 (x := false) (y := false) (wpt_not <| wpt_val <| wp_fn (Ga ls hln) hr <| wpa_cons <| wp_ix <| wp_name 2 rfl rfl <| wp_int <| xd_seq rfl rfl <| wpa_nil ⟨rfl, true, rfl, rfl⟩)
          (fun _ => wpt_cmp <| wp_callB m.len PySem.boot_len <| wpa_cons <| wp_ix <| wp_name 2 rfl rfl <| wp_int <| xd_seq rfl rfl <| wpa_nil <| cd_len rfl <| wp_int <| od_eqI ⟨_, rfl, decide_eq_false (by rw [List.length_map]; omega)⟩) ⟨fun z => absurd z (by decide), fun _ => wps_nil (wps_nil rfl)⟩
    · rintro Γ rfl
      exact wps_cons <| wst_set 1 nd <| wp_ix <| wp_name 2 rfl rfl <| wp_int <| xd_seq rfl rfl ⟨rfl, wps_nil ⟨_, rfl⟩⟩
  · exact wps_cons <| wst_ret <| wp_bl rfl
/-! ### _law_is_least -/
abbrev sLea : Stmt := topS 46
theorem scLea : FnScope ["one", "other", "steps"] ["one", "other", "steps"] (defScope sLea) := ⟨rfl, rfl, rfl, by decide +kernel, rfl, by decide +kernel, by decide +kernel⟩
theorem ok_lea (m : M mg) {one other : List Str} {gs : List (Str × List Str)} (hL2 : Lns other) (G1 : Fn P w K mg base k "_law_is_patch" [eP gs] (.im (.bl true))) (G2 : Fn P w K mg base k "_law_led" [eL one, eP gs] (.im (eL other))) (G3 : Fn P w K mg base k "_law_cost" [eP gs] (.im (.int (cst gs))))
    (G4 : Fn P w K mg base k "_law_far" [eL one, eL other] (.im (.int (cst gs)))) (d : Df K mg "_law_is_least" sLea ["one", "other", "steps"]) : Fn P w K mg base (k + 1) "_law_is_least" [eL one, eL other, eP gs] (.im (.bl true)) := by
  refine fn_mk d scLea rfl (by simp) rfl fun f cdv A outer s H E c hr => ?_
  have hu64 := hr.units
  have hsl := shaped_strs (strsOk_of hL2.2)
  show WPs _ _ _ [.im (eL one), .im (eL other), .im (eP gs)] _
  refine wps_cons <| wst_if <| wpt_or2 (x := false) (y := false) (wpt_not <| wpt_val <| wp_fn G1 hr <| wpa_cons <| wp_name 2 rfl rfl <| wpa_nil ⟨rfl, true, rfl, rfl⟩)
    (fun _ => wpt_cmp <| wp_fn G2 hr <| wpa_cons <| wp_name 0 rfl rfl <| wpa_cons <| wp_name 2 rfl rfl <| wpa_nil ⟨rfl, wp_name 1 rfl rfl <| od_neD hu64 hsl hsl ⟨_, rfl, ?_⟩⟩) ⟨fun z => absurd z (by decide), fun _ => wps_nil ?_⟩
  · show (!PyData.eqv (py (.tup (other.map D.str))) (py (.tup (other.map D.str)))) = false
    rw [eqv_strs, decide_eq_true rfl]
    rfl
  refine wps_cons <| wst_ret <| wp_cmp <| wp_fn G3 hr <| wpa_cons <| wp_name 2 rfl rfl <| wpa_nil ⟨rfl, wp_fn G4 hr <| wpa_cons <| wp_name 0 rfl rfl <| wpa_cons <| wp_name 1 rfl rfl <| wpa_nil ⟨rfl, od_eqI ?_⟩⟩
  rw [decide_eq_true rfl]
end
end K84

set_option Elab.async false
set_option linter.all false
set_option pp.maxSteps 300
set_option maxRecDepth 100000
set_option maxHeartbeats 2000000
/-! K7: k84, the walk: _law_due -/
namespace K84
open PySem PySem.Spec PyProof.Rows L2 DL
/-- the keys rise -/
def Rise (h : List (Nat × Nat)) : Prop := (h.map (·.1)).Pairwise (· < ·)
/-- the triples as the law makes them -/
def anc2 (h t : List (Nat × Nat)) : List T3 := h.filterMap fun p => (lk t p.1).map fun c : Nat => (((p.1 : Int), (p.2 : Int), (c : Int)) : T3)
def dueB (h t : List (Nat × Nat)) : List Int := (h.filter fun p => (lk t p.1).isSome).map fun p => (p.1 : Int)
theorem lk_mem : ∀ {h : List (Nat × Nat)} {p : Nat × Nat}, Rise h → p ∈ h → lk h p.1 = some p.2
  | [], _, _, hm => by cases hm
  | (a, b) :: r, p, hr, hm => by
    have hr' : (a :: r.map (·.1)).Pairwise (· < ·) := hr
    rw [List.pairwise_cons] at hr'
    rcases List.mem_cons.mp hm with e | e
    · subst e
      exact if_pos rfl
    · have h1 : a < p.1 := hr'.1 _ (List.mem_map.mpr ⟨p, e, rfl⟩)
      show (if a = p.1 then some b else lk r p.1) = _
      rw [if_neg (by omega)]
      exact lk_mem hr'.2 e
theorem sorted_rise {h : List (Nat × Nat)} {ys : List Int} (hr : Rise h) (hp : ys.Perm (h.map fun p => (p.1 : Int))) (hs : ys.Pairwise (· ≤ ·)) : ys = h.map fun p => (p.1 : Int) := by
  refine List.Perm.eq_of_pairwise (le := fun a b : Int => a ≤ b) (fun a b _ _ h1 h2 => Int.le_antisymm h1 h2) hs ?_ hp
  rw [List.pairwise_map]
  have := List.pairwise_map.mp hr
  exact this.imp fun h => by omega
theorem filterMap_eq {α β : Type} {f g : α → Option β} : ∀ {l : List α}, (∀ x ∈ l, f x = g x) → l.filterMap f = l.filterMap g
  | [], _ => rfl
  | x :: l, h => by
    rw [List.filterMap_cons, List.filterMap_cons, h x (by simp), filterMap_eq fun y hy => h y (List.mem_cons_of_mem _ hy)]
/-- the triples are those of the program's own -/
theorem anc2_eq (t : List (Nat × Nat)) : ∀ (n : Nat) (h : List (Nat × Nat)), Rise h → (∀ p ∈ h, p.1 < n) → anc2 h t = ancs h t n := by
  intro n
  induction n with
  | zero =>
    intro h _ hb
    cases h with
    | nil => rfl
    | cons p r => exact absurd (hb p (by simp)) (by omega)
  | succ n ih =>
    intro h hr hb
    rw [ancs_next]
    -- the last key is n, or all are below
    by_cases hn : ∃ q ∈ h, q.1 = n
    · obtain ⟨q, hq, rfl⟩ := hn
      -- h ends with q
      obtain ⟨h', rfl⟩ : ∃ h', h = h' ++ [q] := by
        obtain ⟨a, b, rfl⟩ := List.append_of_mem hq
        cases b with
        | nil => exact ⟨a, rfl⟩
        | cons u b =>
          exfalso
          have h1 := List.pairwise_map.mp hr
          rw [List.pairwise_append] at h1
          have h2 := (List.pairwise_cons.mp h1.2.1).1 u (by simp)
          have h3 := hb u (by simp)
          omega
      have h1 := List.pairwise_map.mp hr
      rw [List.pairwise_append] at h1
      have hr' : Rise h' := List.pairwise_map.mpr h1.1
      have hb' : ∀ p ∈ h', p.1 < q.1 := fun p hp => h1.2.2 p hp q (by simp)
      have hl : ∀ k, k < q.1 → lk (h' ++ [q]) k = lk h' k := by
        intro k hk
        clear hr hb hq h1 hr' hb' ih
        induction h' with
        | nil =>
          show (if q.1 = k then some q.2 else none) = none
          rw [if_neg (by omega)]
        | cons u r ih2 =>
          show (if u.1 = k then some u.2 else lk (r ++ [q]) k) = (if u.1 = k then some u.2 else lk r k)
          rw [ih2]
      have e1 : ancs (h' ++ [q]) t q.1 = ancs h' t q.1 := by
        unfold ancs
        apply filterMap_eq
        intro k hk
        unfold anc
        rw [hl k (List.mem_range.mp hk)]
      rw [e1, ← ih h' hr' hb']
      unfold anc2
      rw [List.filterMap_append]
      congr 1
      have e2 : lk (h' ++ [q]) q.1 = some q.2 := lk_mem hr (by simp)
      unfold anc
      rw [e2, List.filterMap_cons, List.filterMap_nil]
      cases lk t q.1 <;> rfl
    · have hb' : ∀ p ∈ h, p.1 < n := fun p hp => by
        have h1 := hb p hp
        have h2 : p.1 ≠ n := fun e => hn ⟨p, hp, e⟩
        omega
      have e2 : lk h n = none := by
        clear hr hb ih hn
        induction h with
        | nil => rfl
        | cons u r ih2 =>
          show (if u.1 = n then some u.2 else lk r n) = none
          have := hb' u (by simp)
          rw [if_neg (by omega)]
          exact ih2 fun p hp => hb' p (List.mem_cons_of_mem _ hp)
      have e3 : anc h t n = none := by
        unfold anc
        rw [e2]
      rw [e3, List.append_nil]
      exact ih h hr hb'
section
variable {P : Program} {w : World} {K : PySem.W.Frag} {mg : Str → Option Value} {base : Heap} {f : Addr} {fd : FuncData} {k : Nat}
theorem getD_int {l : List Int} {i : Nat} (hi : i < l.length) : (l.map D.int).getD i .non = .int l[i] := by simp [hi]
/-- the keys that both have -/
def both (h t : List (Nat × Nat)) : List (Nat × Nat) := h.filter fun p => (lk t p.1).isSome
theorem both_next {h t : List (Nat × Nat)} {i : Nat} (hi : i < h.length) : both (h.take (i + 1)) t = both (h.take i) t ++ (if (lk t h[i].1).isSome then [h[i]] else []) := by
  unfold both
  rw [take_next hi, List.filter_append]
  congr 1
  rw [List.filter_cons, List.filter_nil]
theorem anc2_both : ∀ (h t : List (Nat × Nat)), anc2 (both h t) t = anc2 h t
  | [], _ => rfl
  | p :: r, t => by
    have ih := anc2_both r t
    unfold both anc2 at *
    cases q : lk t p.1 with
    | none => rw [List.filter_cons_of_neg (by simp [q]), ih, List.filterMap_cons, q]; rfl
    | some c => rw [List.filter_cons_of_pos (by simp [q]), List.filterMap_cons, List.filterMap_cons, q, ih]
theorem cut_line (b : List Str) (n : Nat) : cutG b (some (n : Int)) (some ((n : Int) + 1)) = lineAt b n := by
  unfold cutG lineAt
  rw [show HT.sIx b.length 0 (some (n : Int)) = min n b.length from HT.sIx_nat _ 0 _, show HT.sIx b.length b.length (some ((n : Int) + 1)) = min (n + 1) b.length from HT.sIx_nat _ _ (n + 1)]
  by_cases h : n < b.length
  · rw [if_pos (by omega), Int.toNat_natCast, getD_eq h, Nat.min_eq_left (by omega), Nat.min_eq_left (by omega), List.drop_eq_getElem_cons h, show n + 1 - n = 1 by omega]
    rfl
  · rw [if_neg (by omega), Nat.min_eq_right (by omega), Nat.min_eq_right (by omega), Nat.sub_self, List.take_zero]
theorem marks_get0 (b mi th : List Str) (h t : List (Nat × Nat)) : (marksOf b mi th h t)[0]? = some (-1, -1, -1) := rfl
end
end K84

set_option Elab.async false
set_option linter.all false
set_option pp.maxSteps 300
set_option maxRecDepth 100000
set_option maxHeartbeats 2000000
/-! K8: k84, the walk: what is drawn -/
namespace K84
open PySem PySem.Spec PyProof.Rows L2 DL
section
variable {P : Program} {w : World} {K : PySem.W.Frag} {mg : Str → Option Value} {base : Heap} {f : Addr} {fd : FuncData} {k : Nat}
def ClY (P : Program) (w : World) (K : PySem.W.Frag) (mg : Str → Option Value) (base : Heap) (k : Nat) (x : Str) (n : Nat) (pre : List Sl → Prop) (post : List Sl → Sl → Prop) : Prop :=
  ∃ (f : Addr) (fd : FuncData) (ps : List Str), ps.length = n ∧ FnOk P w K mg base L2.CX0 k f fd ps (SpH ps.length pre post) ∧ mg x = some (.ref f) ∧ PySem.W.keepIn K (.ref f) = true ∧ Binds K fd ps []
/-- a def's promise with the hand first: some result of this kind -/
def FnH (P : Program) (w : World) (K : PySem.W.Frag) (mg : Str → Option Value) (base : Heap) (k : Nat) (x : Str) (args : List D) (post : Sl → Prop) : Prop := ClY P w K mg base k x (args.length + 1) (fun rs => rs = .hand :: args.map Sl.im) fun _ r => isv r = false ∧ post r
theorem FnH.mono {j : Nat} {x : Str} {args : List D} {post : Sl → Prop} (G : FnH P w K mg base j x args post) (h : j ≤ k) : FnH P w K mg base k x args post := by
  obtain ⟨f, fd, ps, h1, G, h2⟩ := G
  exact ⟨f, fd, ps, h1, G.mono h, h2⟩
theorem fnH_mk {x : Str} {st : Stmt} {N ps : List Str} {args : List D} {post : Sl → Prop} (d : Df K mg x st ps) (S : FnScope N ps (defScope st)) (hn : args.length + 1 = ps.length)
    (hb : ∀ (f : Addr) (cdv : Value) (A : Around) (outer : List Env) (s : Shared) (H : Hp) (E : XK) (c : C0), Room k (A.deeper (PyProof.Rows.envOfC x (defScope st) s.heap.objs.size f cdv)) → Handy c →
      WPs (cxOf L2.CX0 P w K mg base N x (defScope st) f cdv A outer s H E).nox c (defBody st) (.hand :: args.map Sl.im ++ List.replicate (N.length - ps.length) .any) { nx := fun _ => post (.im .non), rt := fun r => isv r = false ∧ post r }) : FnH P w K mg base (k + 1) x args post := by
  unfold FnH
  rw [hn]
  obtain ⟨f, fd, F, hm, hbd⟩ := d.ex
  refine ⟨f, fd, ps, rfl, fn_DH F S fun cdv A outer s H E c rs hr hc hl hpre => ?_, hm, F.kp, hbd⟩
  subst hpre
  exact (hb f cdv A outer s H E c hr hc).mono (fun _ h => ⟨rfl, h⟩) (fun _ h => h) (fun _ h => h) (fun _ h => h)
end
theorem wp_fnH {X : Cx} {c : C0} {Γ : List Sl} {Kk : Sl → Prop} {pos p : Pos} {k : Nat} {x : Str} {e : Expr} {es : List Expr} {args : List D} {post : Sl → Prop} (G : FnH X.prog X.w X.K X.mg X.base k x args post) (hr : Room k X.A) (h : WPa X c (e :: es) Γ fun rs => rs = .hand :: args.map Sl.im ∧ ∀ r, isv r = false → post r → Kk r) (hcd : Handy c := by assumption) (hg : Gl X x := by rfl)
    (hn : starEach (e :: es) X.env = (false, eval e X.env) :: starEach es X.env := by rfl) (hdb : (x == ("__debug__" : Str)) = false := by decide) (hpl : (backTo pos (starEach es X.env)).any (·.1) = false := by rfl) : WPe X c (.Call (.Name x p) (e :: es) [] pos) Γ Kk := by
  obtain ⟨f, fd, ps, hps, G, hm, hk, hb⟩ := G
  exact wp_callY hcd G hr hm hk hb (fun F H stk S σ hl E Q q => h F H stk S σ hl E Q fun vs rs F' H' k => q vs rs F' H' ⟨args, k.1, hps.symm, k.1, fun r hp => ⟨hp.1, k.2 r hp.1 hp.2⟩⟩) hg hn hdb hpl
/-- a digit of so many -/
def digit (n : Nat) (r : Sl) : Prop := ∃ j : Nat, j < n ∧ r = .im (.int (j : Nat))
section
variable {P : Program} {w : World} {K : PySem.W.Frag} {mg : Str → Option Value} {base : Heap} {f : Addr} {fd : FuncData} {k : Nat}
abbrev sAny : Stmt := topS 31
theorem scAny : FnScope ["hand", "things"] ["hand", "things"] (defScope sAny) := ⟨rfl, rfl, rfl, by decide +kernel, rfl, by decide +kernel, by decide +kernel⟩
def oneOf (l : List D) (r : Sl) : Prop := ∃ d, d ∈ l ∧ r = .im d
/-- _law_any's promise at any list -/
def AnyOk (P : Program) (w : World) (K : PySem.W.Frag) (mg : Str → Option Value) (base : Heap) (k : Nat) : Prop :=
  ClY P w K mg base k "_law_any" 2 (fun rs => ∃ l : List D, l ≠ [] ∧ l.length ≤ 1000 ∧ rs = [.hand, .im (.lst l)]) fun rs r => isv r = false ∧ ∀ l, rs = [.hand, .im (.lst l)] → oneOf l r
theorem AnyOk.mono {j : Nat} (G : AnyOk P w K mg base j) (h : j ≤ k) : AnyOk P w K mg base k := by
  obtain ⟨f, fd, ps, h1, G, h2⟩ := G
  exact ⟨f, fd, ps, h1, G.mono h, h2⟩
theorem AnyOk.fn (G : AnyOk P w K mg base k) {l : List D} (hl : l ≠ []) (hn : l.length ≤ 1000) : FnH P w K mg base k "_law_any" [.lst l] (oneOf l) := by
  obtain ⟨f, fd, ps, h1, G, h2⟩ := G
  refine ⟨f, fd, ps, h1, G.imp fun vs H Q E h => ?_, h2⟩
  obtain ⟨hl0, c, F, rs, hcd, hrl, hpre, nv, e1, e2, E1, q⟩ := h
  exact ⟨hl0, c, F, rs, hcd, hrl, ⟨l, hl, hn, hpre⟩, nv, e1, e2, E1, fun v r F' H' hp E' => q v r F' H' ⟨hp.1, hp.2 l hpre⟩ E'⟩
theorem ok_any (m : M mg) (Gd : ∀ n : Nat, 0 < n → n ≤ 1000 → FnH P w K mg base k "_law_draw" [.int (n : Nat)] (digit n)) (d : Df K mg "_law_any" sAny ["hand", "things"]) : AnyOk P w K mg base (k + 1) := by
  obtain ⟨f, fd, F, hm, hbd⟩ := d.ex
  refine ⟨f, fd, ["hand", "things"], rfl, fn_DH F scAny fun cdv A outer s H E c rs hr hcd hl hpre => ?_, hm, F.kp, hbd⟩
  obtain ⟨l, hne, hn, rfl⟩ := hpre
  show WPs _ _ _ [.hand, .im (.lst l)] _
  refine wps_cons <| wst_ret <| wp_ix <| wp_name 1 rfl rfl <| wp_fnH (Gd l.length (List.length_pos_iff.mpr hne) hn) hr <| wpa_cons <| wp_name 0 rfl rfl <| wpa_cons <| wp_callB m.len PySem.boot_len <| wpa_cons <| wp_name 1 rfl rfl <| wpa_nil <| cd_len rfl <| wpa_nil ⟨rfl, fun r hv hp => ?_⟩
  obtain ⟨j, hj, rfl⟩ := hp
  refine xd_seq rfl (d := l[j]) (atI_nat (by simp [hj])) ⟨rfl, fun l' e => ?_⟩
  have e' : l = l' := by simpa using e
  subst e'
  exact ⟨l[j], List.getElem_mem hj, rfl⟩
/-- the words of drawn lines -/
def okL : List Str := ["a", "b", "c", "", "x", "y ", " y", "keep", "0"]
def okN : List Str := ["a", "b", "c", "", "x", "y ", " y", "keep", "0", "new"]
theorem okN_W : ∀ s ∈ okN, s ∈ okW := by decide +kernel
theorem okL_N : ∀ s ∈ okL, s ∈ okN := by decide +kernel
abbrev sLin : Stmt := topS 33
theorem scLin : FnScope ["hand", "most", "words", "at"] ["hand", "most"] (defScope sLin) := ⟨rfl, rfl, rfl, by decide +kernel, rfl, by decide +kernel, by decide +kernel⟩
def someL (n : Nat) (r : Sl) : Prop := ∃ ls : List Str, ls.length ≤ n ∧ (∀ s ∈ ls, s ∈ okL) ∧ r = .im (eL ls)
def W3 : List (List Str) := [["a", "b"], ["a", "b", "c", ""], ["x", "y ", " y", "keep", "0"]]
theorem W3_ok : ∀ l ∈ W3, l ≠ [] ∧ ∀ s ∈ l, s ∈ okL := by decide +kernel
theorem W3_len : ∀ l ∈ W3, (l.map D.str).length ≤ 1000 := fun l hl => by
  simp only [W3, List.mem_cons, List.not_mem_nil, or_false] at hl
  rcases hl with rfl | rfl | rfl <;> exact Nat.le_of_ble_eq_true rfl
theorem ok_lin (m : M mg) {n : Nat} (hn : n ≤ 100) (Ga : FnH P w K mg base k "_law_any" [.lst (W3.map fun l => .lst (l.map D.str))] (oneOf (W3.map fun l => .lst (l.map D.str)))) (Gb : ∀ l : List D, l ≠ [] → l.length ≤ 1000 → FnH P w K mg base k "_law_any" [.lst l] (oneOf l)) (Gd : FnH P w K mg base k "_law_draw" [.int ((n + 1 : Nat) : Int)] (digit (n + 1)))
    (d : Df K mg "_law_lines" sLin ["hand", "most"]) : FnH P w K mg base (k + 1) "_law_lines" [.int (n : Nat)] (someL n) := by
  refine fnH_mk d scLin rfl fun f cdv A outer s H E c hr hcd => ?_
  have nd := scLin.nd
  show WPs _ _ _ [.hand, .im (.int (n : Nat)), .any, .any] _
  refine wps_cons <| wst_set 2 nd <| wp_fnH Ga hr <| wpa_cons <| wp_name 0 rfl rfl <| wpa_cons <| wp_lst <| wpa_cons <| wp_lst <| wpa_cons <| wp_str <| wpa_cons <| wp_str <| wpa_nil ⟨(["a", "b"] : List Str).map D.str, rfl, Le rfl, wpa_cons <| wp_lst <| wpa_cons <| wp_str <| wpa_cons <| wp_str <| wpa_cons <| wp_str <| wpa_cons <| wp_str <| wpa_nil ⟨(["a", "b", "c", ""] : List Str).map D.str, rfl, Le rfl,
    wpa_cons <| wp_lst <| wpa_cons <| wp_str <| wpa_cons <| wp_str <| wpa_cons <| wp_str <| wpa_cons <| wp_str <| wpa_cons <| wp_str <| wpa_nil ⟨(["x", "y ", " y", "keep", "0"] : List Str).map D.str, rfl, Le rfl, wpa_nil ⟨W3.map fun l => .lst (l.map D.str), rfl, Le rfl, wpa_nil ⟨rfl, fun r hv hp => ?_⟩⟩⟩⟩⟩
  obtain ⟨dd, hdd, rfl⟩ := hp
  obtain ⟨ws, hws, rfl⟩ := List.mem_map.mp hdd
  obtain ⟨hne, hwok⟩ := W3_ok ws hws
  refine ⟨rfl, ?_⟩
  refine wps_cons <| wst_ret <| wp_callTy m.tup PyProof.Rows.boot_tuple <| wpa_cons <| wp_lc (own := [("at", 3)]) (fun i acc => ∃ ls : List Str, ls.length = i ∧ (∀ s ∈ ls, s ∈ okL) ∧ acc = ls.map D.str) rfl nd (blk_of (N' := ["hand", "most", "words", "at"]) (sc' := defScope sLin) (by decide +kernel)) (by rfl) <|
    wpi_range1 m.range <| wpa_cons <| wp_fnH Gd hr <| wpa_cons <| wp_name 0 rfl rfl <| wpa_cons <| wp_binop <| wp_name 1 rfl rfl <| wp_int <| od_add <| wpa_nil ⟨?_, fun r hv hp => ?_⟩
  · show [Sl.hand, .im (.int ((n : Int) + 1))] = [.hand, .im (.int ((n + 1 : Nat) : Int))]
    rw [Int.natCast_add]
    rfl
  obtain ⟨j, hj, rfl⟩ := hp
  refine wpa_nil ⟨_, rfl, by omega, by omega, ⟨[], rfl, fun s hs => (by cases hs), rfl⟩, fun F1 H1 i acc hi hJ Y hY => ?_, fun acc hJ => ?_⟩
  · obtain ⟨s', H', C, cl, fp, rfl⟩ := hY
    rw [Int.toNat_natCast] at hi
    refine gtc_name 3 nd fun Y hY => ⟨fun _ Y hY => ?_, fun z => absurd z (by decide)⟩
    obtain ⟨s', H', C, cl, fp, rfl⟩ := hY
    refine wp_fnH (Gb (ws.map D.str) (by simpa using hne) (W3_len ws hws)) hr <| wpa_cons <| wp_name 0 rfl rfl <| wpa_cons <| wp_name 2 rfl rfl <| wpa_nil ⟨rfl, fun r hv hp => ?_⟩
    obtain ⟨d2, hd2, rfl⟩ := hp
    obtain ⟨s2, hs2, rfl⟩ := List.mem_map.mp hd2
    obtain ⟨ls, hls, hlw, rfl⟩ := hJ
    refine ⟨.str s2, rfl, ?_, ls ++ [s2], by simp [hls], fun s hs => (List.mem_append.mp hs).elim (hlw s) fun z => by rw [List.mem_singleton.mp z]; exact hwok _ hs2, ?_⟩
    · rw [List.length_map]
      exact Nat.lt_of_lt_of_le (show ls.length < 1000 by omega) (by decide)
    · rw [List.map_append]
      rfl
  · obtain ⟨ls, hls, hlw, rfl⟩ := hJ
    rw [Int.toNat_natCast] at hls
    exact wpa_nil <| cd_tuple rfl ⟨rfl, ls, by omega, hlw, rfl⟩
end
end K84

set_option Elab.async false
set_option linter.all false
set_option pp.maxSteps 300
set_option maxRecDepth 100000
set_option maxHeartbeats 2000000
/-! K9: k84, the walk: _law_near -/
namespace K84
open PySem PySem.Spec PyProof.Rows L2 DL
section
variable {P : Program} {w : World} {K : PySem.W.Frag} {mg : Str → Option Value} {base : Heap} {f : Addr} {fd : FuncData} {k : Nat}
abbrev sNea : Stmt := topS 34
theorem scNea : FnScope ["hand", "lines", "found", "turn", "at", "word", "kind"] ["hand", "lines"] (defScope sNea) := ⟨rfl, rfl, rfl, by decide +kernel, rfl, by decide +kernel, by decide +kernel⟩
def someN (n : Nat) (r : Sl) : Prop := ∃ ls : List Str, ls.length ≤ n ∧ (∀ s ∈ ls, s ∈ okN) ∧ r = .im (eL ls)
def six : List Int := [0, 1, 1, 2, 3, 5]
theorem six_ok : ∀ x ∈ six, 0 ≤ x ∧ x ≤ 5 := by decide
def four : List Str := ["a", "b", "new", ""]
theorem four_ok : ∀ x ∈ four, x ∈ okN := by decide +kernel
theorem erase_map {α : Type} (f : α → D) : ∀ (l : List α) (i : Nat), (l.map f).eraseIdx i = (l.eraseIdx i).map f
  | [], _ => rfl
  | _ :: _, 0 => rfl
  | a :: l, i + 1 => by
    show f a :: (l.map f).eraseIdx i = f a :: (l.eraseIdx i).map f
    rw [erase_map f l i]
theorem ok_nea (m : M mg) {ls : List Str} (hl : ls.length ≤ 40) (hw : ∀ s ∈ ls, s ∈ okN) (Gb : ∀ l : List D, l ≠ [] → l.length ≤ 1000 → FnH P w K mg base k "_law_any" [.lst l] (oneOf l)) (Gd : ∀ n : Nat, 0 < n → n ≤ 1000 → FnH P w K mg base k "_law_draw" [.int (n : Nat)] (digit n))
    (d : Df K mg "_law_near" sNea ["hand", "lines"]) : FnH P w K mg base (k + 1) "_law_near" [eL ls] (someN (min 14 (ls.length + 5))) := by
  refine fnH_mk d scNea rfl fun f cdv A outer s H E c hr hcd => ?_
  have nd := scNea.nd
  show WPs _ _ _ [.hand, .im (eL ls), .any, .any, .any, .any, .any] _
  refine wps_cons <| wst_set 2 nd <| wp_callTy m.list PyProof.Rows.boot_list <| wpa_cons <| wp_name 1 rfl rfl <| wpa_nil <| cd_list rfl ⟨rfl, ?_⟩
  refine wps_cons <| wst_for (fun i Γ => i ≤ 5 ∧ ∃ (fo : List Str) (s3 s4 s5 s6 : Sl), fo.length ≤ ls.length + i ∧ (∀ s ∈ fo, s ∈ okN) ∧ Γ = [.hand, .im (eL ls), .own (.lst (fo.map D.str)), s3, s4, s5, s6]) <| wpi_range1 m.range <| wpa_cons <| wp_fnH (Gb (six.map D.int) (by simp [six]) (Nat.le_of_ble_eq_true rfl)) hr <| wpa_cons <| wp_name 0 rfl rfl <| wpa_cons <|
    wp_lst <| wpa_cons <| wp_int <| wpa_cons <| wp_int <| wpa_cons <| wp_int <| wpa_cons <| wp_int <| wpa_cons <| wp_int <| wpa_cons <| wp_int <| wpa_nil ⟨six.map D.int, rfl, Le rfl, wpa_nil ⟨rfl, fun r hv hp => ?_⟩⟩
  obtain ⟨d0, hd0, rfl⟩ := hp
  obtain ⟨x, hx, rfl⟩ := List.mem_map.mp hd0
  obtain ⟨hx0, hx5⟩ := six_ok x hx
  refine wpa_nil ⟨x, rfl, by omega, by omega, ⟨by omega, ls, .any, .any, .any, .any, Nat.le_refl _, hw, rfl⟩, fun F1 i Γ' hi hj => ?_, fun Γ' hj => ?_⟩
  · obtain ⟨hi5, fo, s3, s4, s5, s6, hfl, hfw, rfl⟩ := hj
    have hi1 : i + 1 ≤ 5 := by omega
    refine gt_name 3 rfl nd ?_
    show WPs _ _ _ [.hand, .im (eL ls), .own (.lst (fo.map D.str)), .im (.int (0 + (i : Nat))), s4, s5, s6] _
    refine wps_cons <| wst_set 4 nd <| wp_fnH (Gd (fo.length + 1) (by omega) (by omega)) hr <| wpa_cons <| wp_name 0 rfl rfl <| wpa_cons <| wp_binop <| wp_callB m.len PySem.boot_len <| wpa_cons <| wp_name 2 rfl rfl <| wpa_nil <| cd_len rfl <| wp_int <| od_add <| wpa_nil ⟨?_, fun r hv hp => ?_⟩
    · show [Sl.hand, .im (.int (((fo.map D.str).length : Int) + 1))] = [.hand, .im (.int ((fo.length + 1 : Nat) : Int))]
      rw [List.length_map, Int.natCast_add]
      rfl
    obtain ⟨at', hat, rfl⟩ := hp
    refine ⟨rfl, ?_⟩
    refine wps_cons <| wst_set 5 nd <| wp_fnH (Gb ((four ++ fo).map D.str) (by simp [four]) (by rw [List.length_map, List.length_append]; have : four.length = 4 := rfl; omega)) hr <| wpa_cons <| wp_name 0 rfl rfl <| wpa_cons <| wp_binop <| wp_lst <| wpa_cons <| wp_str <| wpa_cons <| wp_str <| wpa_cons <| wp_str <| wpa_cons <| wp_str <| wpa_nil ⟨four.map D.str, rfl, Le rfl, wp_name 2 rfl rfl <| od_cat rfl rfl ?_ <| wpa_nil ⟨?_, fun r hv hp => ?_⟩⟩
    · rw [List.length_map, List.length_map]
      exact Nat.le_trans (show 4 + fo.length ≤ 1000 by omega) (by decide)
    · rw [List.map_append]
      rfl
    obtain ⟨d1, hd1, rfl⟩ := hp
    obtain ⟨wd, hwd, rfl⟩ := List.mem_map.mp hd1
    have hwd' : wd ∈ okN := (List.mem_append.mp hwd).elim (four_ok wd) (hfw wd)
    refine ⟨rfl, ?_⟩
    refine wps_cons <| wst_set 6 nd <| wp_fnH (Gd 4 (by omega) (by omega)) hr <| wpa_cons <| wp_name 0 rfl rfl <| wpa_cons <| wp_int <| wpa_nil ⟨rfl, fun r hv hp => ?_⟩
    obtain ⟨kd, hkd, rfl⟩ := hp
    refine ⟨rfl, ?_⟩
    show WPs _ _ _ [.hand, .im (eL ls), .own (.lst (fo.map D.str)), .im (.int (0 + (i : Nat))), .im (.int (at' : Nat)), .im (.str wd), .im (.int (kd : Nat))] _
    have hsz : (fo.map D.str).length < sizeLine := by
      rw [List.length_map]
      exact Nat.lt_of_lt_of_le (show fo.length < 1000 by omega) (by decide)
    have fin : ∀ fo' : List Str, fo'.length ≤ ls.length + (i + 1) → (∀ s ∈ fo', s ∈ okN) → ∀ l' : List D, l' = fo'.map D.str →
        (i + 1 ≤ 5 ∧ ∃ (fo : List Str) (s3 s4 s5 s6 : Sl), fo.length ≤ ls.length + (i + 1) ∧ (∀ s ∈ fo, s ∈ okN) ∧ [Sl.hand, .im (eL ls), .own (.lst l'), .im (.int (0 + (i : Nat))), .im (.int (at' : Nat)), .im (.str wd), .im (.int (kd : Nat))] = [.hand, .im (eL ls), .own (.lst (fo.map D.str)), s3, s4, s5, s6]) :=
      fun fo' h1 h2 l' e => ⟨hi1, fo', .im (.int (0 + (i : Nat))), .im (.int (at' : Nat)), .im (.str wd), .im (.int (kd : Nat)), h1, h2, by rw [e]⟩
    refine wps_cons <| wst_if <| wpt_cmp <| wp_name 6 rfl rfl <| wp_int <| od_eqI ⟨_, rfl, fun hx => ?_, fun hx => ?_⟩
    · -- insert
      refine wps_cons <| wst_insert 2 rfl <| wp_name 4 rfl rfl ⟨at', rfl, by omega, hsz, wp_name 5 rfl rfl ⟨_, rfl, wps_nil (wps_nil (fin (fo.take at' ++ [wd] ++ fo.drop at') ?_ ?_ _ ?_))⟩⟩
      · simp only [List.length_append, List.length_take, List.length_drop, List.length_singleton]
        omega
      · intro s hs
        rcases List.mem_append.mp hs with z | z
        · rcases List.mem_append.mp z with z | z
          · exact hfw s (List.mem_of_mem_take z)
          · rw [List.mem_singleton.mp z]
            exact hwd'
        · exact hfw s (List.mem_of_mem_drop z)
      · rw [List.map_append, List.map_append, List.map_take, List.map_drop]
        rfl
    · refine wps_cons <| wst_if <| wpt_and2 (x := decide (kd = 1)) (y := decide (at' < fo.length)) (wpt_cmp <| wp_name 6 rfl rfl <| wp_int <| od_eqI ⟨_, rfl, by simp; omega⟩) (fun _ => wpt_cmp <| wp_name 4 rfl rfl <| wp_callB m.len PySem.boot_len <| wpa_cons <| wp_name 2 rfl rfl <| wpa_nil <| cd_len rfl <| od_lt ⟨_, rfl, by rw [List.length_map]; simp⟩) ⟨fun hy => ?_, fun hy => ?_⟩
      · -- pop
        simp only [Bool.and_eq_true, decide_eq_true_eq] at hy
        refine wps_cons <| wst_popAt 2 rfl <| wp_name 4 rfl rfl ⟨at', rfl, by rw [List.length_map]; exact hy.2, Nat.le_of_lt hsz, wps_nil (wps_nil (wps_nil (fin (fo.eraseIdx at') ?_ ?_ _ ?_)))⟩
        · have := List.length_eraseIdx_le fo at'
          omega
        · exact fun s hs => hfw s (List.mem_of_mem_eraseIdx hs)
        · rw [erase_map]
      · refine wps_cons <| wst_if <| wpt_and2 (x := decide (kd = 2)) (y := decide (at' < fo.length)) (wpt_cmp <| wp_name 6 rfl rfl <| wp_int <| od_eqI ⟨_, rfl, by simp; omega⟩) (fun _ => wpt_cmp <| wp_name 4 rfl rfl <| wp_callB m.len PySem.boot_len <| wpa_cons <| wp_name 2 rfl rfl <| wpa_nil <| cd_len rfl <| od_lt ⟨_, rfl, by rw [List.length_map]; simp⟩) ⟨fun hz => ?_, fun hz => ?_⟩
        · -- store
          simp only [Bool.and_eq_true, decide_eq_true_eq] at hz
          refine wps_cons <| wst_lput 2 rfl <| wp_name 5 rfl rfl ⟨_, rfl, wp_name 4 rfl rfl ⟨at', rfl, by rw [List.length_map]; exact hz.2, wps_nil (wps_nil (wps_nil (wps_nil (fin (fo.set at' wd) ?_ ?_ _ ?_))))⟩⟩
          · rw [List.length_set]
            omega
          · intro s hs
            rcases List.mem_or_eq_of_mem_set hs with z | z
            · exact hfw s z
            · rw [z]
              exact hwd'
          · rw [List.map_set]
        · refine wps_cons <| wst_if <| wpt_cmp <| wp_name 6 rfl rfl <| wp_int <| od_eqI ⟨_, rfl, fun hu => ?_, fun hu => ?_⟩
          · -- turned
            refine wps_cons <| wst_set 2 nd <| wp_binop <| wp_sliceL <| wp_name 2 rfl rfl ⟨_, rfl, wpo_some <| wp_name 4 rfl rfl ⟨_, rfl, wpo_none <| wp_sliceL <| wp_name 2 rfl rfl ⟨_, rfl, wpo_none <| wpo_some <| wp_name 4 rfl rfl ⟨_, rfl, od_cat rfl rfl ?_ ⟨rfl, wps_nil (wps_nil (wps_nil (wps_nil (wps_nil (fin (cutG fo (some (at' : Int)) none ++ cutG fo none (some (at' : Int))) ?_ ?_ _ ?_)))))⟩⟩⟩⟩⟩
            · rw [cutD_map, cutD_map, List.length_map, List.length_map]
              have h1 := cutG_len fo (some (at' : Int)) none
              have h2 := cutG_len fo none (some (at' : Int))
              exact Nat.le_trans (show _ ≤ 1000 by omega) (by decide)
            · have e1 : (cutG fo (some (at' : Int)) none).length = fo.length - at' := by
                unfold cutG
                rw [show HT.sIx fo.length 0 (some (at' : Int)) = min at' fo.length from HT.sIx_nat _ 0 _, HT.sIx_none, List.length_take, List.length_drop]
                omega
              have e2 : (cutG fo none (some (at' : Int))).length = at' := by
                unfold cutG
                rw [show HT.sIx fo.length fo.length (some (at' : Int)) = min at' fo.length from HT.sIx_nat _ _ _, HT.sIx_none, List.length_take, List.length_drop]
                omega
              rw [List.length_append, e1, e2]
              omega
            · exact fun s hs => (List.mem_append.mp hs).elim (fun z => hfw s (cutG_mem z)) fun z => hfw s (cutG_mem z)
            · rw [cutD_map, cutD_map, List.map_append]
          · exact wps_nil (wps_nil (wps_nil (wps_nil (wps_nil (fin fo (by omega) hfw _ rfl)))))
  · obtain ⟨hi5, fo, s3, s4, s5, s6, hfl, hfw, rfl⟩ := hj
    refine wps_cons <| wst_ret <| wp_callTy m.tup PyProof.Rows.boot_tuple <| wpa_cons <| wp_sliceL <| wp_name 2 rfl rfl ⟨_, rfl, wpo_none <| wpo_some <| wp_int ⟨_, rfl, wpa_nil <| cd_tuple rfl ⟨rfl, cutG fo none (some 14), ?_, fun s hs => hfw s (cutG_mem hs), ?_⟩⟩⟩
    · unfold cutG
      rw [show HT.sIx fo.length fo.length (some 14) = min 14 fo.length from HT.sIx_nat _ _ 14, HT.sIx_none, List.length_take, List.length_drop]
      omega
    · rw [cutD_map]
      rfl
end
end K84

set_option Elab.async false
set_option linter.all false
set_option pp.maxSteps 300
set_option maxRecDepth 100000
set_option maxHeartbeats 2000000
/-! K10: k84, the walk: _law_is_right -/
namespace K84
open PySem PySem.Spec PyProof.Rows L2 DL
/-- what repr may show -/
structure Rp (n dp : Nat) (d : D) : Prop where
  can : (py d).canLay0 = true
  dep : (py d).depth ≤ dp
  sho : (py d).showable = true
  len : (py d).shown.length ≤ n
theorem can_all : ∀ {ds : List D}, (∀ d ∈ ds, (py d).canLay0 = true) → PyData.canLayAll0 (pys ds) = true
  | [], _ => by rw [pys, PyData.canLayAll0]
  | d :: r, h => by rw [pys, PyData.canLayAll0, h d (by simp), can_all fun e he => h e (List.mem_cons_of_mem _ he)]; rfl
theorem sho_all : ∀ {ds : List D}, (∀ d ∈ ds, (py d).showable = true) → PyData.showableAll (pys ds) = true
  | [], _ => by rw [pys, PyData.showableAll]
  | d :: r, h => by rw [pys, PyData.showableAll, h d (by simp), sho_all fun e he => h e (List.mem_cons_of_mem _ he)]; rfl
theorem dep_all {n : Nat} : ∀ {ds : List D}, (∀ d ∈ ds, (py d).depth ≤ n) → PyData.depthAll (pys ds) ≤ n
  | [], _ => by rw [pys, PyData.depthAll]; exact Nat.zero_le _
  | d :: r, h => by
    rw [pys, PyData.depthAll]
    exact Nat.max_le.mpr ⟨h d (by simp), dep_all fun e he => h e (List.mem_cons_of_mem _ he)⟩
theorem piled_all {n : Nat} : ∀ {ds : List D}, (∀ d ∈ ds, (py d).shown.length ≤ n) → piled (PyData.shownAll (pys ds)) ≤ ds.length * (n + 2)
  | [], _ => by rw [pys, PyData.shownAll, piled_nil]; exact Nat.zero_le _
  | d :: r, h => by
    rw [pys, PyData.shownAll, piled_cons, List.length_cons, Nat.add_mul]
    have h1 := h d (by simp)
    have h2 := piled_all (n := n) (ds := r) fun e he => h e (List.mem_cons_of_mem _ he)
    omega
theorem piled_sum : ∀ ts : List Str, (ts.map (·.length)).sum + 2 * ts.length = piled ts
  | [] => rfl
  | t :: r => by
    have := piled_sum r
    rw [List.map_cons, List.sum_cons, List.length_cons, piled_cons]
    omega
theorem rp_tup {n dp : Nat} {ds : List D} (h : ∀ d ∈ ds, Rp n dp d) : Rp (ds.length * (n + 2) + 2) (dp + 1) (.tup ds) where
  can := by rw [py, PyData.canLay0]; exact can_all fun d hd => (h d hd).can
  dep := by rw [py, PyData.depth]; exact Nat.succ_le_succ (dep_all fun d hd => (h d hd).dep)
  sho := by rw [py, PyData.showable]; exact sho_all fun d hd => (h d hd).sho
  len := by
    rw [py, PyData.shown]
    exact Nat.le_trans (fmt_text _) (Nat.add_le_add_right (piled_all fun d hd => (h d hd).len) 2)
theorem rp_lst {n dp : Nat} {ds : List D} (h : ∀ d ∈ ds, Rp n dp d) : Rp (ds.length * (n + 2) + 3) (dp + 1) (.lst ds) where
  can := by rw [py, PyData.canLay0]; exact can_all fun d hd => (h d hd).can
  dep := by rw [py, PyData.depth]; exact Nat.succ_le_succ (dep_all fun d hd => (h d hd).dep)
  sho := by rw [py, PyData.showable]; exact sho_all fun d hd => (h d hd).sho
  len := by
    rw [py, PyData.shown]
    have h1 := listText_len_le (PyData.shownAll (pys ds))
    have h2 := piled_sum (PyData.shownAll (pys ds))
    have h3 := piled_all (n := n) fun d hd => (h d hd).len
    omega
theorem Rp.mono {n n' dp dp' : Nat} {d : D} (h : Rp n dp d) (h1 : n ≤ n') (h2 : dp ≤ dp') : Rp n' dp' d := ⟨h.can, Nat.le_trans h.dep h2, h.sho, Nat.le_trans h.len h1⟩
theorem okW_sh : ∀ s ∈ ("merged" : Str) :: ("clash" : Str) :: okW, PyData.canLay0 (.str s) = true ∧ (reprText s).length ≤ 20 := by decide +kernel
theorem rp_str {s : Str} (h : s ∈ ("merged" : Str) :: ("clash" : Str) :: okW) : Rp 20 0 (.str s) where
  can := by rw [py]; exact (okW_sh s h).1
  dep := by rw [py, PyData.depth]; exact Nat.le_refl 0
  sho := by rw [py, PyData.showable]
  len := by rw [py, PyData.shown]; exact (okW_sh s h).2
theorem small_int : ∀ n : Nat, n < 300 → ((toString (n : Int) : String) : Str).length ≤ 20 := by decide +kernel
theorem rp_int {n : Nat} (h : n < 300) : Rp 20 0 (.int (n : Int)) where
  can := by rw [py, PyData.canLay0]
  dep := by rw [py, PyData.depth]; exact Nat.le_refl 0
  sho := by
    rw [py, PyData.showable]
    refine decide_eq_true ?_
    rw [Int.natAbs_natCast]
    by_cases h0 : n = 0
    · subst h0
      decide
    · exact (Nat.log2_lt h0).mpr (Nat.lt_of_lt_of_le h (Nat.le_trans (show 300 ≤ 2 ^ 9 by decide) (Nat.pow_le_pow_right (by decide) (by decide))))
  len := by rw [py, PyData.shown]; exact small_int n h
theorem rp_eL {l : List Str} (h : ∀ s ∈ l, s ∈ okW) (hl : l.length ≤ 100000) : Rp 2200002 1 (eL l) := by
  refine (rp_tup (n := 20) (dp := 0) (ds := l.map D.str) fun d hd => ?_).mono ?_ (Nat.le_refl _)
  · obtain ⟨s, hs, rfl⟩ := List.mem_map.mp hd
    exact rp_str (List.mem_cons_of_mem _ (List.mem_cons_of_mem _ (h s hs)))
  · rw [List.length_map]
    omega
/-- a result of merging -/
def ROk : Int ⊕ List Str → Prop
  | .inl i => ∃ n : Nat, n < 300 ∧ i = (n : Int)
  | .inr l => (∀ s ∈ l, s ∈ okW) ∧ l.length ≤ 100000
theorem rp_eR {r : Int ⊕ List Str} (h : ROk r) : Rp 4400010 2 (eR r) := by
  cases r with
  | inl i =>
    obtain ⟨n, hn, rfl⟩ := h
    refine (rp_tup (n := 2200002) (dp := 1) (ds := [.str "clash", .int (n : Int)]) fun d hd => ?_).mono (by simp) (Nat.le_refl _)
    simp only [List.mem_cons, List.not_mem_nil, or_false] at hd
    rcases hd with rfl | rfl
    · exact (rp_str (by simp)).mono (by omega) (by omega)
    · exact (rp_int hn).mono (by omega) (by omega)
  | inr l =>
    refine (rp_tup (n := 2200002) (dp := 1) (ds := [.str "merged", eL l]) fun d hd => ?_).mono (by simp) (Nat.le_refl _)
    simp only [List.mem_cons, List.not_mem_nil, or_false] at hd
    rcases hd with rfl | rfl
    · exact (rp_str (by simp)).mono (by omega) (by omega)
    · exact rp_eL h.1 h.2
section
variable {P : Program} {w : World} {K : PySem.W.Frag} {mg : Str → Option Value} {base : Heap} {f : Addr} {fd : FuncData} {k : Nat}
/-- promises where nothing is being shown -/
def ClG (P : Program) (w : World) (K : PySem.W.Frag) (mg : Str → Option Value) (base : Heap) (k : Nat) (x : Str) (n : Nat) (pre : List Sl → Prop) (post : List Sl → Sl → Prop) : Prop :=
  ∃ (f : Addr) (fd : FuncData) (ps : List Str), ps.length = n ∧ FnG P w K mg base k f fd ps (SpD ps.length pre post) ∧ mg x = some (.ref f) ∧ PySem.W.keepIn K (.ref f) = true ∧ Binds K fd ps []
theorem ClG.mono {j : Nat} {x : Str} {n : Nat} {pre : List Sl → Prop} {post : List Sl → Sl → Prop} (C : ClG P w K mg base j x n pre post) (h : j ≤ k) : ClG P w K mg base k x n pre post := by
  obtain ⟨f, fd, ps, h1, G, h2⟩ := C
  exact ⟨f, fd, ps, h1, G.mono h, h2⟩
theorem clG_mk {x : Str} {st : Stmt} {N ps : List Str} {pre : List Sl → Prop} {post : List Sl → Sl → Prop} (d : Df K mg x st ps) (S : FnScope N ps (defScope st))
    (hb : ∀ (f : Addr) (cdv : Value) (A : Around) (outer : List Env) (s : Shared) (H : Hp) (E : XK) (c : C0) (rs : List Sl), A.guards = some [] → Room k (A.deeper (PyProof.Rows.envOfC x (defScope st) s.heap.objs.size f cdv)) → rs.length = ps.length → pre rs →
      WPs (cxOf L2.CX0 P w K mg base N x (defScope st) f cdv A outer s H E).nox c (defBody st) (rs ++ List.replicate (N.length - ps.length) .any) { nx := fun _ => post rs (.im .non), rt := post rs }) : ClG P w K mg base (k + 1) x ps.length pre post := by
  obtain ⟨f, fd, F, hm, hbd⟩ := d.ex
  exact ⟨f, fd, ps, rfl, fn_G F S (hb f), hm, F.kp, hbd⟩
theorem wp_repr {X : Cx} {c : C0} {Γ : List Sl} {Kk : Sl → Prop} {pos p : Pos} {e : Expr} {n dp : Nat} (hm : X.mg "repr" = none) (hg : X.A.guards = some []) (hu : X.A.units + 64 < cLine) (hn : n ≤ sizeLine) (hdp : dp ≤ 60)
    (h : WPe X c e Γ fun r => ∃ d, frz r = .im d ∧ ((∃ l, d = .tup l) ∨ ∃ l, d = .lst l) ∧ Rp n dp d ∧ Kk (.im (.str (py d).shown))) (hgl : Gl X "repr" := by rfl) (he : starEach [e] X.env = (false, eval e X.env) :: starEach [] X.env := by rfl) (hpl : (backTo pos (starEach [] X.env)).any (·.1) = false := by rfl) : WPe X c (.Call (.Name "repr" p) [e] [] pos) Γ Kk :=
  wp_callB hm PyProof.Rows.boot_repr (wpa_cons (h.mono fun r hr => by
    obtain ⟨d, h1, h2, h3, h4⟩ := hr
    refine wpa_nil ?_
    rw [h1]
    rcases h2 with ⟨l, rfl⟩ | ⟨l, rfl⟩
    · exact cd_repr (l := l) hg hu rfl (.inl rfl) h3.can (Nat.le_trans h3.dep hdp) h3.sho (Nat.le_trans h3.len hn) h4
    · exact cd_repr (l := l) hg hu rfl (.inr rfl) h3.can (Nat.le_trans h3.dep hdp) h3.sho (Nat.le_trans h3.len hn) h4) he) hgl (by decide) (by decide) he hpl
end
end K84

set_option Elab.async false
set_option linter.all false
set_option pp.maxSteps 300
set_option maxRecDepth 100000
set_option maxHeartbeats 2000000
/-! K13: k84, the walk: _law_hand, _law_draw -/
namespace K84
open PySem PySem.Spec PyProof.Rows L2 DL
def spHand (K : PySem.W.Frag) : Sp := fun vs H Q _ => ∃ (a : Addr) (ns : List Int), vs = [.ref a] ∧ SqL K H a (ns.map V.int) ∧ ∀ (p q1 q2 : Addr) (H' : Hp), p ≠ q1 → p ≠ q2 → q1 ≠ q2 → HandAt p q1 q2 H' → Q (.ref p) H'
theorem getD_int' {l : List Int} {i : Nat} (hi : i < l.length) : (l.map D.int).getD i .non = .int l[i] := by simp [hi]
theorem dats_ints {F : Hp} {ns : List Int} {vs : List V} (h : Dats F (ns.map D.int) vs) : vs = ns.map V.int := h.ints
theorem snocI (l : List Int) (z : Int) : l.map D.int ++ [D.int z] = (l ++ [z]).map D.int := by
  rw [List.map_append]
  rfl
theorem cut63 (ns : List Int) : (cutG ns none (some 63)).length ≤ 63 := by
  unfold cutG
  rw [List.length_take]
  have e1 : HT.sIx ns.length 0 none = 0 := rfl
  have e2 : HT.sIx ns.length ns.length (some 63) = min 63 ns.length := HT.sIx_nat _ _ 63
  rw [e1, e2]
  omega
section
variable {P : Program} {w : World} {K : PySem.W.Frag} {mg : Str → Option Value} {base : Heap} {f : Addr} {fd : FuncData} {k : Nat}
abbrev sHnd : Stmt := topS 29
theorem scHnd : FnScope ["script", "cells", "small", "great", "cell"] ["script"] (defScope sHnd) := ⟨rfl, rfl, rfl, by decide +kernel, rfl, by decide +kernel, by decide +kernel⟩
theorem ok_hnd (m : M mg) (F : Fun K "_law_hand" "_law_hand" sHnd f fd) : FnOk P w K mg base L2.CX0 (k + 1) f fd ["script"] (spHand K) := by
  refine fn_raw F scHnd (fun vs H Q E h => ?_) fun cdv A outer s H vs Q E hr h => ?_
  · obtain ⟨a, ns, rfl, _⟩ := h
    rfl
  obtain ⟨a, ns, rfl, hS, q⟩ := h
  have nd := scHnd.nd
  have E0 : EnvS (cScr (fun _ => none) H a) (fun _ => none) H [some (.ref a), none, none, none, none] [.hand, .any, .any, .any, .any] := by
    have e1 : EnvR (cScr (fun _ => none) H a) (fun _ => none) H [] [] := env_args (ds := []) (vs := []) (fun b o z => by cases z) rfl trivial (fun a z => by cases z) rfl rfl
    exact ⟨(e1.pushS (s := .hand) ⟨rfl, rfl⟩).rest (n := 4), fun s hs => by
      simp only [List.mem_cons, List.not_mem_nil, or_false] at hs
      rcases hs with rfl | rfl | rfl | rfl | rfl <;> rfl⟩
  have bl : ∀ n : Nat, n ≤ 64 → n < sizeLine := fun n hn => Nat.lt_of_lt_of_le (show n < 1000 by omega) (by decide)
  refine (?_ : WPsE _ (cScr (fun _ => none) H a) _ _ _) _ _ _ E0
  refine wpsE_cons <| wst_setLc (own := [("cell", 4)]) 1 (fun i acc => ∃ cs : List Int, cs.length ≤ i ∧ acc = cs.map D.int) rfl nd (blk_of (N' := ["script", "cells", "small", "great", "cell"]) (sc' := defScope sHnd) (by decide +kernel)) (by rfl) <|
    wpi_list <| wp_sliceScr (ns := ns) hS rfl <| wp_name 0 rfl rfl ⟨rfl, wpo_none <| wpo_some <| wp_int ⟨63, rfl, ?_⟩⟩
  refine ⟨_, rfl, ⟨[], Nat.le_refl _, rfl⟩, fun F1 H1 i acc hi hJ Y hY => ?_, fun acc hJ => ?_⟩
  · obtain ⟨s', H', C, cl, fp, rfl⟩ := hY
    obtain ⟨cs, hl, rfl⟩ := hJ
    rw [cutD_map, List.length_map] at hi
    have h63 := cut63 ns
    show GtC _ _ _ (.im ((cutD (ns.map D.int) none (some 63)).getD i .non)) _ _ _
    rw [cutD_map, getD_int' hi]
    refine gtc_name 4 nd fun Y hY => ⟨fun _ Y hY => ?_, fun z => absurd z (by decide)⟩
    obtain ⟨s', H', C, cl, fp, rfl⟩ := hY
    exact wp_callB m.abs PyProof.Rows.boot_abs <| wpa_cons <| wp_callTy m.int PyProof.Rows.boot_int <| wpa_cons <| wp_name 4 rfl rfl <| wpa_nil <| cd_int <| wpa_nil <| cd_abs ⟨_, rfl, bl _ (by rw [List.length_map]; omega), cs ++ [if (cutG ns none (some 63))[i] < 0 then -(cutG ns none (some 63))[i] else (cutG ns none (some 63))[i]], by rw [List.length_append]; exact Nat.add_le_add_right hl 1, snocI _ _⟩
  obtain ⟨cs, hl, rfl⟩ := hJ
  have hcl : cs.length ≤ 63 := by
    rw [cutD_map, List.length_map] at hl
    exact Nat.le_trans hl (cut63 ns)
  clear hl
  refine wpsE_freeze 1 rfl ?_
  refine wpsE_cons <| wst_setLc (own := [("cell", 4)]) 2 (fun i acc => ∃ ss : List Int, ss.length ≤ i ∧ acc = ss.map D.int) rfl nd (blk_of (N' := ["script", "cells", "small", "great", "cell"]) (sc' := defScope sHnd) (by decide +kernel)) (by rfl) <|
    wpi_list <| wp_name 1 rfl rfl ⟨_, rfl, ⟨[], Nat.le_refl _, rfl⟩, fun F1 H1 i acc hi hJ Y hY => ?_, fun acc hJ => ?_⟩
  · obtain ⟨s', H', C, cl, fp, rfl⟩ := hY
    obtain ⟨ss, hl, rfl⟩ := hJ
    rw [List.length_map] at hi
    show GtC _ _ _ (.im ((cs.map D.int).getD i .non)) _ _ _
    rw [getD_int' hi]
    refine gtc_name 4 nd fun Y hY => ?_
    obtain ⟨s', H', C, cl, fp, rfl⟩ := hY
    refine wpt_cmp <| wp_name 4 rfl rfl <| wp_binop <| wp_int <| wp_int <| od_pow ⟨by decide, by decide, by decide⟩ <| od_lt ⟨_, rfl, fun hx Y hY => ?_, fun hx => ⟨ss, Nat.le_succ_of_le hl, rfl⟩⟩
    obtain ⟨s', H', C, cl, fp, rfl⟩ := hY
    exact wp_binop <| wp_callTy m.int PyProof.Rows.boot_int <| wpa_cons <| wp_name 4 rfl rfl <| wpa_nil <| cd_int <| wp_int <| od_mod (by decide) ⟨_, rfl, bl _ (by rw [List.length_map]; omega), ss ++ [cs[i] % 1000000007], by rw [List.length_append]; exact Nat.add_le_add_right hl 1, snocI _ _⟩
  obtain ⟨ss, hl, rfl⟩ := hJ
  have hsl : ss.length ≤ 63 := by
    rw [List.length_map] at hl
    exact Nat.le_trans hl hcl
  clear hl
  show WPsE _ _ _ [.hand, .im (.lst (cs.map D.int)), .own (.lst (ss.map D.int)), .any, .any] _
  refine wpsE_cons <| wst_append 2 rfl (bl _ (by rw [List.length_map]; omega)) <| wp_binop <| wp_binop <| wp_int <| wp_callB m.len PySem.boot_len <| wpa_cons <| wp_name 1 rfl rfl <| wpa_nil <| cd_len rfl <| od_mul (.inl (by decide)) <| wp_int <| od_add ⟨_, rfl, ?_⟩
  have e2 : ∀ z : Int, ss.map D.int ++ [D.int z] = (ss ++ [z]).map D.int := fun z => snocI _ _
  show WPsE _ _ _ [.hand, .im (.lst (cs.map D.int)), .own (.lst (ss.map D.int ++ [D.int _])), .any, .any] _
  rw [e2]
  have hne : ∀ z : Int, ss ++ [z] ≠ [] ∧ (ss ++ [z]).length ≤ 64 := fun z => ⟨by simp, by rw [List.length_append]; exact Nat.add_le_add_right hsl 1⟩
  have hne := hne (37 * ((cs.map D.int).length : Nat) + 11)
  generalize ss ++ [37 * (((cs.map D.int).length : Nat) : Int) + 11] = tt at *
  refine wpsE_cons <| wst_setLc (own := [("cell", 4)]) 3 (fun i acc => ∃ ss : List Int, ss.length ≤ i ∧ acc = ss.map D.int) rfl nd (blk_of (N' := ["script", "cells", "small", "great", "cell"]) (sc' := defScope sHnd) (by decide +kernel)) (by rfl) <|
    wpi_list <| wp_name 1 rfl rfl ⟨_, rfl, ⟨[], Nat.le_refl _, rfl⟩, fun F1 H1 i acc hi hJ Y hY => ?_, fun acc hJ => ?_⟩
  · obtain ⟨s', H', C, cl, fp, rfl⟩ := hY
    obtain ⟨ss, hl, rfl⟩ := hJ
    rw [List.length_map] at hi
    show GtC _ _ _ (.im ((cs.map D.int).getD i .non)) _ _ _
    rw [getD_int' hi]
    refine gtc_name 4 nd fun Y hY => ?_
    obtain ⟨s', H', C, cl, fp, rfl⟩ := hY
    refine wpt_cmp <| wp_name 4 rfl rfl <| wp_binop <| wp_int <| wp_int <| od_pow ⟨by decide, by decide, by decide⟩ <| od_ge ⟨_, rfl, fun hx Y hY => ?_, fun hx => ⟨ss, Nat.le_succ_of_le hl, rfl⟩⟩
    obtain ⟨s', H', C, cl, fp, rfl⟩ := hY
    exact wp_name 4 rfl rfl ⟨_, rfl, bl _ (by rw [List.length_map]; omega), ss ++ [cs[i]], by rw [List.length_append]; exact Nat.add_le_add_right hl 1, snocI _ _⟩
  obtain ⟨gs, hl, rfl⟩ := hJ
  have hgl : gs.length ≤ 63 := by
    rw [List.length_map] at hl
    exact Nat.le_trans hl hcl
  clear hl
  show WPsE _ _ _ [.hand, .im (.lst (cs.map D.int)), .own (.lst (tt.map D.int)), .own (.lst (gs.map D.int)), .any] _
  intro F1 H1 σ Ev
  -- the parts' places
  obtain ⟨p2, e2, ⟨vs2, h2, d2⟩, f2, _, _⟩ := Ev.env.own (i := 2) rfl
  obtain ⟨p1, e1, ⟨vs1, h1, d1⟩, f1, _, _⟩ := Ev.env.own (i := 3) rfl
  have hne12 : p1 ≠ p2 := Ev.env.apart (i := 3) (j := 2) rfl rfl e1 e2 (by decide)
  obtain ⟨F2, Ea⟩ := Ev.env.freeze (i := 2) rfl
  obtain ⟨F3, Eb⟩ := Ea.freeze (i := 3) rfl
  have Eb : EnvR (cScr (fun _ => none) H a) F3 H1 σ [.hand, .im (.lst (cs.map D.int)), .im (.lst (tt.map D.int)), .im (.lst (gs.map D.int)), .any] := Eb
  refine wss_of (pss_cons (ps_ret (pe_disp (pps_cons pe_str (pe_var (i := 3) rfl (Or.inl rfl)) (pps_cons pe_str (pe_var (i := 2) rfl (Or.inl rfl)) (pps_cons pe_str pe_we (pps_cons pe_str pe_int pps_nil)))) rfl rfl (by simp) (by decide))) pss_nil) ?_
  intro p hp
  have hnp : ∀ {b : Addr} {o : HO}, H1 b = some o → b ≠ p := fun h e => by rw [e, hp] at h; cases h
  have hFp : F3 p = none := Eb.ex.back hp
  have Ec := Eb.reb (fun s hs => by
    simp only [List.mem_cons, List.not_mem_nil, or_false] at hs
    rcases hs with rfl | rfl | rfl | rfl | rfl <;> exact ⟨rfl, rfl⟩) (H1 := L2.upd H1 p (.dK [])) (Ex.mut Eb.ex hFp) trivial
  have hg1 : H1 p1 = some (.lst (gs.map V.int)) := by rw [h1, dats_ints d1]
  have hg2 : H1 p2 = some (.lst (tt.map V.int)) := by rw [h2, dats_ints d2]
  refine ⟨.ref p1, e1, .ref p2, e2, ?_⟩
  refine (?_ : WPe _ { cScr (fun _ => none) H a with F0 := F3, H0 := L2.upd H1 p (.dK []) } _ _ fun r => ∃ z : Int, r = .im (.int z)) F3 _ [] [] σ rfl Ec _ fun v r F4 H4 hz E4 => ?_
  · exact wp_binop <| wp_callTy m.int PyProof.Rows.boot_int <| wpa_cons <| wp_callB m.sum PyProof.Rows.boot_sum <| wpa_cons <| wp_name 2 rfl rfl <| wpa_nil <| cd_sum rfl rfl <| wpa_nil <| cd_int <| wp_int <| od_mod (by decide) ⟨_, rfl⟩
  obtain ⟨z, rfl⟩ := hz
  have hv : v = .int z := E4.imAt (i := 0) rfl rfl
  subst hv
  have k4 : ∀ {b : Addr} {o : HO}, L2.upd H1 p (.dK []) b = some o → H4 b = some o := fun h => E4.fr _ _ h List.not_mem_nil
  refine ⟨k4 upd_same, [(.inr "great", .ref p1), (.inr "small", .ref p2), (.inr "sum", .int z), (.inr "turn", .int 0)], rfl, Nat.le_of_ble_eq_true rfl, ?_⟩
  refine q p p1 p2 _ (hnp hg1).symm (hnp hg2).symm hne12 ⟨gs, tt, z, 0, ?_, ?_, ?_, hne.1, by omega, by omega⟩
  · rw [upd_same]
    rfl
  · rw [upd_ne (hnp hg1)]
    exact k4 (by rw [upd_ne (hnp hg1)]; exact hg1)
  · rw [upd_ne (hnp hg2)]
    exact k4 (by rw [upd_ne (hnp hg2)]; exact hg2)
theorem hand_step {c : C0} {F H H' : Hp} {σ : L2.St} {Γ : List Sl} (E : EnvR c F H σ Γ) (h : ∀ a, a ∉ c.W → H' a = H a) (hk : c.hok H') : EnvR c F H' σ Γ :=
  E.step (Gr.refl F H) (fun a o z => by
    have hw : a ∉ c.W := fun w => by rw [E.nw a w] at z; cases z
    rw [h a hw]
    exact E.ex a o z) (fun a o z w => by rw [h a w]; exact z) hk
theorem ixN0 (n : Nat) : ixN (n + 1) 0 = some 0 := by
  unfold ixN
  rw [if_pos (by omega), if_pos (by omega)]
  rfl
abbrev sDrw : Stmt := topS 30
theorem scDrw : FnScope ["hand", "many", "number", "turn", "seed"] ["hand", "many"] (defScope sDrw) := ⟨rfl, rfl, rfl, by decide +kernel, rfl, by decide +kernel, by decide +kernel⟩
theorem ok_drw (m : M mg) {n : Nat} (h0 : 0 < n) (hn : n < 1073741824) (d : Df K mg "_law_draw" sDrw ["hand", "many"]) : FnH P w K mg base (k + 1) "_law_draw" [.int (n : Nat)] (digit n) := by
  obtain ⟨f, fd, F, hm, hbd⟩ := d.ex
  refine ⟨f, fd, ["hand", "many"], rfl, fn_raw F scDrw (fun vs H Q E h => h.1) fun cdv A outer s H vs Q E hr h => ?_, hm, F.kp, hbd⟩
  obtain ⟨hl, c, F1, rs, hcd, hrl, hpre, nv, e1, e2, E1, q⟩ := h
  subst hpre
  have nd := scDrw.nd
  have hu := hu1 hr
  obtain ⟨q1, q2, hW, n1, n2, n3, hH⟩ := hcd
  obtain ⟨v0, v1, rfl⟩ : ∃ v0 v1, vs = [v0, v1] := by
    cases vs with
    | nil => cases hl
    | cons v0 vs =>
      cases vs with
      | nil => cases hl
      | cons v1 vs =>
        cases vs with
        | nil => exact ⟨v0, v1, rfl⟩
        | cons _ _ => simp at hl
  have ev0 : v0 = .ref c.hp := by simpa using E1.hand (i := 0) rfl
  have ev1 : v1 = .int (n : Nat) := E1.imAt (i := 1) rfl rfl
  subst ev0 ev1
  have fin : ∀ (H' : Hp) (j : Int), 0 ≤ j → j < (n : Nat) → (∀ a, a ∉ c.W → H' a = H a) → HandAt c.hp q1 q2 H' → Q (.int j) H' := fun H' j hj1 hj2 hs hh => by
    obtain ⟨j', rfl⟩ := Int.eq_ofNat_of_zero_le hj1
    exact q (.int j') (.im (.int j')) F1 H' ⟨rfl, j', by omega, rfl⟩ ((hand_step E1 hs ((hH _).mpr hh)).push (d := .int j') rfl).only
  obtain ⟨gs, ss, su, tu, g1, g2, g3, g4, g5, g6⟩ := (hH H).mp E1.hk
  have hp1 : c.hp ∈ c.W := by rw [hW]; simp
  have hq1 : q1 ∈ c.W := by rw [hW]; simp
  have hq2 : q2 ∈ c.W := by rw [hW]; simp
  clear q E1
  generalize c.hp = p at *
  refine wss_of (pss_cons (ps_if (pt_cmp (pc_gt (pe_callB call_len_seq (by rfl) m.len PySem.boot_len (pa_cons (pe_dget hu (pe_var (i := 0) rfl (Or.inl rfl)) pe_str (fun _ _ => rfl)) pa_nil)) pe_int)) pss_wss pss_wss) pss_wss) ?_
  refine ⟨.ref p, rfl, p, .ref q1, rfl, .inl ⟨_, .inr "great", .inl g1, rfl, rfl⟩, q1, gs.map V.int, rfl, .inl (.inl (.inl g2)), ((gs.map V.int).length : Nat), 0, rfl, rfl, ⟨_, rfl, ?_⟩⟩
  cases gs with
  | cons g gs =>
    show if decide ((0 : Int) < (((g :: gs).map V.int).length : Nat)) = true then _ else _
    rw [if_pos (decide_eq_true (by rw [List.length_map, List.length_cons]; omega))]
    refine wss_of (pss_cons (ps_set (i := 2) nd rfl (Or.inl rfl) (pe_ix ix_list (pe_dget hu (pe_var (i := 0) rfl (Or.inl rfl)) pe_str (fun _ _ => rfl)) pe_int (fun _ _ => rfl)) (by rfl) (.inr rfl)) pss_wss) ?_
    refine ⟨.ref p, rfl, p, .ref q1, rfl, .inl ⟨_, .inr "great", .inl g1, rfl, rfl⟩, q1, (g :: gs).map V.int, 0, .int g, rfl, rfl, .inl (.inl g2), atI_nat (j := 0) (xs := (g :: gs).map V.int) (v := .int g) rfl, ?_⟩
    refine wss_of (pss_cons (ps_asg (pe_op op_fdiv (pe_var (i := 2) rfl (Or.inl rfl)) (pe_var (i := 1) rfl (Or.inl rfl))) (pg_sub (pe_dget hu (pe_var (i := 0) rfl (Or.inl rfl)) pe_str (fun _ _ => rfl)) pe_int set_list (by intro _; rfl)) (by rfl) (by rfl) (by rfl)) pss_wss) ?_
    refine ⟨.int g, rfl, .int (n : Nat), rfl, g, (n : Nat), rfl, rfl, ⟨by omega, by omega⟩, .ref p, rfl, p, .ref q1, rfl, .inl ⟨_, .inr "great", .inl g1, rfl, rfl⟩, q1, (g :: gs).map V.int, 0, 0, rfl, rfl, g2, by rw [List.length_map, List.length_cons]; exact ixN0 _, ?_⟩
    have ez : ((g :: gs).map V.int).set 0 (.int (g / (n : Nat))) = ((g / (n : Nat) : Int) :: gs).map V.int := rfl
    rw [ez]
    have u1 : ∀ o : HO, L2.upd H q1 o p = H p := fun o => upd_ne n1
    have u2 : ∀ o : HO, L2.upd H q1 o q2 = H q2 := fun o => upd_ne n3.symm
    have u3 : ∀ (o : HO) (a : Addr), a ∉ c.W → L2.upd H q1 o a = H a := fun o a ha => upd_ne fun e => ha (e ▸ hq1)
    refine wss_of (pss_cons (ps_if (pt_cmp (pc_lt (pe_var (i := 2) rfl (Or.inl rfl)) (pe_var (i := 1) rfl (Or.inl rfl)))) (pss_cons (ps_expr (pe_bm PySem.F.plainAttrs_list PySem.F.slot_list_pop PySem.F.type_list_pop mt_popAt (pe_dget hu (pe_var (i := 0) rfl (Or.inl rfl)) pe_str (fun _ _ => rfl)) (pa_cons pe_int pa_nil (by rfl)) (by rfl) (by rfl) (by rfl) (by rfl) (by rfl)) (by rfl)) pss_nil) pss_nil) (pss_cons (ps_ret (pe_op op_mod (pe_callTy call_int1 (by rfl) m.int PyProof.Rows.boot_int (pa_cons (pe_var (i := 2) rfl (Or.inl rfl)) pa_nil)) (pe_var (i := 1) rfl (Or.inl rfl)))) pss_nil)) ?_
    refine ⟨.int g, rfl, .int (n : Nat), rfl, g, (n : Nat), rfl, rfl, ⟨_, rfl, ?_⟩⟩
    have lst : ∀ (H' : Hp) (zs : List Int), zs.length ≤ 100 → (∀ a, a ∉ c.W → H' a = H a) → H' p = H p → H' q1 = some (.lst (zs.map V.int)) → H' q2 = H q2 → Q (.int (g % (n : Nat))) H' := fun H' zs hz hs r1 r2 r3 =>
      fin H' _ (Int.emod_nonneg _ (by omega)) (Int.emod_lt_of_pos _ (by omega)) hs ⟨zs, ss, su, tu, by rw [r1]; exact g1, r2, by rw [r3]; exact g3, g4, hz, g6⟩
    show if decide (g < (n : Nat)) = true then _ else _
    by_cases hg : g < (n : Nat)
    · rw [if_pos (decide_eq_true hg)]
      refine ⟨.ref p, rfl, p, .ref q1, rfl, .inl ⟨_, .inr "great", .inl (by rw [u1]; exact g1), rfl, rfl⟩, .inl ⟨rfl, _, .inl (.inl upd_same)⟩, ?_⟩
      refine ⟨q1, ((g / (n : Nat) : Int) :: gs).map V.int, 0, 0, .int (g / (n : Nat)), rfl, rfl, upd_same, by decide, by decide, (ixN_seq (by rw [List.length_map, List.length_cons]; exact ixN0 _)).1, rfl, ?_⟩
      refine ⟨.int g, rfl, .inl ⟨g, rfl, .int (n : Nat), rfl, g, (n : Nat), rfl, rfl, by omega, ?_⟩⟩
      refine lst _ gs (by rw [List.length_cons] at g5; omega) (fun a ha => ?_) ?_ upd_same ?_
      · rw [upd_ne (show a ≠ q1 from fun e => ha (by rw [e]; exact hq1))]
        exact u3 _ a ha
      · rw [upd_ne n1]
        exact u1 _
      · rw [upd_ne n3.symm]
        exact u2 _
    · rw [if_neg (by rw [decide_eq_false hg]; decide)]
      refine ⟨.int g, rfl, .inl ⟨g, rfl, .int (n : Nat), rfl, g, (n : Nat), rfl, rfl, by omega, ?_⟩⟩
      exact lst _ ((g / (n : Nat)) :: gs) g5 (u3 _) (u1 _) upd_same (u2 _)
  | nil =>
    show if decide ((0 : Int) < (((([] : List Int)).map V.int).length : Nat)) = true then _ else _
    rw [if_neg (by decide)]
    refine wss_of pss_nil ?_
    have hl2 : 0 < ss.length := List.length_pos_iff.mpr g4
    refine wss_of (pss_cons (ps_set (i := 3) nd rfl (Or.inl rfl) (pe_op op_add (pe_dget hu (pe_var (i := 0) rfl (Or.inl rfl)) pe_str (fun _ _ => rfl)) pe_int) (by rfl) (.inr rfl)) pss_wss) ?_
    refine ⟨.ref p, rfl, p, .int tu, rfl, .inl ⟨_, .inr "turn", .inl g1, rfl, rfl⟩, tu, 1, rfl, rfl, ?_⟩
    refine wss_of (pss_cons (ps_dput hu (pe_var (i := 0) rfl (Or.inl rfl)) pe_str (pe_var (i := 3) rfl (Or.inl rfl)) (by rfl)) pss_wss) ?_
    refine ⟨.int (tu + 1), rfl, .ref p, rfl, p, _, rfl, .inl ⟨_, .inr "turn", g1, rfl, Nat.lt_of_le_of_lt (show _ ≤ 4 from Nat.le_refl _) (by decide), rfl⟩, ?_⟩
    have ez : putK [((.inr "great" : Key), V.ref q1), (.inr "small", .ref q2), (.inr "sum", .int su), (.inr "turn", .int tu)] (.inr "turn") (.int (tu + 1)) = [(.inr "great", .ref q1), (.inr "small", .ref q2), (.inr "sum", .int su), (.inr "turn", .int (tu + 1))] := rfl
    rw [ez]
    have r0 : L2.upd H p (.dK [(.inr "great", .ref q1), (.inr "small", .ref q2), (.inr "sum", .int su), (.inr "turn", .int (tu + 1))]) p = some (.dK [(.inr "great", .ref q1), (.inr "small", .ref q2), (.inr "sum", .int su), (.inr "turn", .int (tu + 1))]) := upd_same
    have r1 : L2.upd H p (.dK [(.inr "great", .ref q1), (.inr "small", .ref q2), (.inr "sum", .int su), (.inr "turn", .int (tu + 1))]) q1 = some (.lst (([] : List Int).map V.int)) := by rw [upd_ne n1.symm]; exact g2
    have r2 : L2.upd H p (.dK [(.inr "great", .ref q1), (.inr "small", .ref q2), (.inr "sum", .int su), (.inr "turn", .int (tu + 1))]) q2 = some (.lst (ss.map V.int)) := by rw [upd_ne n2.symm]; exact g3
    have r3 : ∀ a, a ∉ c.W → L2.upd H p (.dK [(.inr "great", .ref q1), (.inr "small", .ref q2), (.inr "sum", .int su), (.inr "turn", .int (tu + 1))]) a = H a := fun a ha => upd_ne (show a ≠ p from fun e => ha (by rw [e]; exact hp1))
    generalize L2.upd H p (.dK [(.inr "great", .ref q1), (.inr "small", .ref q2), (.inr "sum", .int su), (.inr "turn", .int (tu + 1))]) = H2 at *
    have hmod : 0 ≤ (tu + 1) % ((ss.length : Nat) : Int) ∧ (tu + 1) % ((ss.length : Nat) : Int) < (ss.length : Nat) := ⟨Int.emod_nonneg _ (by omega), Int.emod_lt_of_pos _ (by omega)⟩
    obtain ⟨jj, hjj⟩ := Int.eq_ofNat_of_zero_le hmod.1
    have hjl : jj < ss.length := by have := hmod.2; rw [hjj] at this; exact Int.ofNat_lt.mp this
    refine wss_of (pss_cons (ps_set (i := 4) nd rfl (Or.inl rfl) (pe_op op_add (pe_ix ix_list (pe_dget hu (pe_var (i := 0) rfl (Or.inl rfl)) pe_str (fun _ _ => rfl)) (pe_op op_mod (pe_callTy call_int1 (by rfl) m.int PyProof.Rows.boot_int (pa_cons (pe_var (i := 3) rfl (Or.inl rfl)) pa_nil)) (pe_callB call_len_seq (by rfl) m.len PySem.boot_len (pa_cons (pe_dget hu (pe_var (i := 0) rfl (Or.inl rfl)) pe_str (fun _ _ => rfl)) pa_nil))) (fun _ _ => rfl)) (pe_op op_mul pe_int (pe_dget hu (pe_var (i := 0) rfl (Or.inl rfl)) pe_str (fun _ _ => rfl)))) (by rfl) (.inr rfl)) pss_wss) ?_
    refine ⟨.ref p, rfl, p, .ref q2, rfl, .inl ⟨_, .inr "small", .inl r0, rfl, rfl⟩, .int (tu + 1), rfl, .inl ⟨tu + 1, rfl, .ref p, rfl, p, .ref q2, rfl, .inl ⟨_, .inr "small", .inl r0, rfl, rfl⟩, q2, ss.map V.int, rfl, .inl (.inl (.inl r2)), tu + 1, _, rfl, rfl, ?_, ?_⟩⟩
    · rw [List.length_map]
      exact Int.ofNat_lt.mpr hl2
    refine ⟨q2, ss.map V.int, _, .int ss[jj], rfl, rfl, .inl (.inl r2), ?_, .ref p, rfl, p, .int su, rfl, .inl ⟨_, .inr "sum", .inl r0, rfl, rfl⟩, 31, su, rfl, rfl, .inl (by decide), ss[jj], 31 * su, rfl, rfl, ?_⟩
    · rw [List.length_map, hjj]
      exact atI_nat (by simp [hjl])
    refine wss_of (pss_cons (ps_set (i := 2) nd rfl (Or.inl rfl) (pe_op op_mod (pe_callTy call_int1 (by rfl) m.int PyProof.Rows.boot_int (pa_cons (pe_op op_mul (pe_op op_add (pe_op op_add (pe_var (i := 4) rfl (Or.inl rfl)) (pe_op op_mul pe_int (pe_var (i := 3) rfl (Or.inl rfl)))) pe_int) pe_int) pa_nil)) pe_int) (by rfl) (.inr rfl)) pss_wss) ?_
    refine ⟨.int (ss[jj] + 31 * su), rfl, .int (tu + 1), rfl, 104729, (tu + 1), rfl, rfl, .inl (by decide), (ss[jj] + 31 * su), 104729 * (tu + 1), rfl, rfl, (ss[jj] + 31 * su) + 104729 * (tu + 1), 3, rfl, rfl, (ss[jj] + 31 * su) + 104729 * (tu + 1) + 3, 48271, rfl, rfl, .inr (by decide), .inl ⟨_, rfl, _, 2147483647, rfl, rfl, (show (0 : Int) < 2147483647 by decide), ?_⟩⟩
    have hx1 := Int.emod_nonneg (((ss[jj] + 31 * su) + 104729 * (tu + 1) + 3) * 48271) (show (2147483647 : Int) ≠ 0 by decide)
    have hx2 := Int.emod_lt_of_pos (((ss[jj] + 31 * su) + 104729 * (tu + 1) + 3) * 48271) (show (0 : Int) < 2147483647 by decide)
    show WSs _ _ _ [some (.ref p), some (.int (n : Nat)), some (.int ((((ss[jj] + 31 * su) + 104729 * (tu + 1) + 3) * 48271) % 2147483647)), some (.int (tu + 1)), some (.int (ss[jj] + 31 * su))] H2
    generalize (((ss[jj] + 31 * su) + 104729 * (tu + 1) + 3) * 48271) % 2147483647 = x at *
    refine wss_of (pss_cons (ps_set (i := 2) nd rfl (Or.inl rfl) (pe_op op_mod (pe_callTy call_int1 (by rfl) m.int PyProof.Rows.boot_int (pa_cons (pe_op op_mul (pe_var (i := 2) rfl (Or.inl rfl)) (pe_op op_add (pe_op op_fdiv (pe_var (i := 2) rfl (Or.inl rfl)) pe_int) pe_int)) pa_nil)) pe_int) (by rfl) (.inr rfl)) pss_wss) ?_
    refine ⟨.int x, rfl, .int x, rfl, x, 1009, rfl, rfl, ⟨(show (0 : Int) < 1009 by decide), (show (1009 : Int) < 1073741824 by decide)⟩, x / 1009, 69621, rfl, rfl, x, x / 1009 + 69621, rfl, rfl, .inl ⟨by omega, by omega⟩, .inl ⟨_, rfl, _, 2147483629, rfl, rfl, (show (0 : Int) < 2147483629 by decide), ?_⟩⟩
    have hy1 := Int.emod_nonneg (x * (x / 1009 + 69621)) (show (2147483629 : Int) ≠ 0 by decide)
    have hy2 := Int.emod_lt_of_pos (x * (x / 1009 + 69621)) (show (0 : Int) < 2147483629 by decide)
    show WSs _ _ _ [some (.ref p), some (.int (n : Nat)), some (.int ((x * (x / 1009 + 69621)) % 2147483629)), some (.int (tu + 1)), some (.int (ss[jj] + 31 * su))] H2
    generalize (x * (x / 1009 + 69621)) % 2147483629 = y at *
    refine wss_of (pss_cons (ps_set (i := 2) nd rfl (Or.inl rfl) (pe_op op_mod (pe_callTy call_int1 (by rfl) m.int PyProof.Rows.boot_int (pa_cons (pe_op op_add (pe_op op_mul (pe_var (i := 2) rfl (Or.inl rfl)) (pe_op op_add (pe_op op_fdiv (pe_var (i := 2) rfl (Or.inl rfl)) pe_int) pe_int)) (pe_var (i := 3) rfl (Or.inl rfl))) pa_nil)) pe_int) (by rfl) (.inr rfl)) pss_wss) ?_
    refine ⟨.int y, rfl, .int y, rfl, y, 2003, rfl, rfl, ⟨(show (0 : Int) < 2003 by decide), (show (2003 : Int) < 1073741824 by decide)⟩, y / 2003, 40692, rfl, rfl, y, y / 2003 + 40692, rfl, rfl, .inl ⟨by omega, by omega⟩, .int (tu + 1), rfl, _, (tu + 1), rfl, rfl, .inl ⟨_, rfl, _, 2147483399, rfl, rfl, (show (0 : Int) < 2147483399 by decide), ?_⟩⟩
    show WSs _ _ _ [some (.ref p), some (.int (n : Nat)), some (.int ((y * (y / 2003 + 40692) + (tu + 1)) % 2147483399)), some (.int (tu + 1)), some (.int (ss[jj] + 31 * su))] H2
    generalize (y * (y / 2003 + 40692) + (tu + 1)) % 2147483399 = z at *
    refine wss_of (pss_cons (ps_ret (pe_op op_mod (pe_callTy call_int1 (by rfl) m.int PyProof.Rows.boot_int (pa_cons (pe_op op_fdiv (pe_var (i := 2) rfl (Or.inl rfl)) pe_int) pa_nil)) (pe_var (i := 1) rfl (Or.inl rfl)))) pss_nil) ?_
    refine ⟨.int z, rfl, z, 64, rfl, rfl, ⟨(show (0 : Int) < 64 by decide), (show (64 : Int) < 1073741824 by decide)⟩, .inl ⟨_, rfl, .int (n : Nat), rfl, _, (n : Nat), rfl, rfl, by omega, ?_⟩⟩
    exact fin H2 _ (Int.emod_nonneg _ (by omega)) (Int.emod_lt_of_pos _ (by omega)) r3 ⟨[], ss, su, (tu + 1), r0, r1, r2, g4, by decide, g6⟩
end
end K84

set_option Elab.async false
set_option linter.all false
set_option pp.maxSteps 300
set_option maxRecDepth 100000
set_option maxHeartbeats 2000000
/-! K15: k84, the walk: joined_steps -/
namespace K84
open PySem PySem.Spec PyProof.Rows L2 DL
def gO (g : Str × List Str) : O := .nd .lst [.im (.str g.1), .nd .lst (g.2.map fun s => .im (.str s))]
def trO (gs : List (Str × List Str)) : O := .nd .lst (gs.map gO)
def gD (g : Str × List Str) : D := .lst [.str g.1, .lst (g.2.map D.str)]
theorem toDs_strs : ∀ l : List Str, O.toDs (l.map fun s => O.im (.str s)) = l.map D.str
  | [] => rfl
  | s :: r => by rw [List.map_cons, O.toDs, toDs_strs r]; rfl
theorem plains_strs : ∀ l : List Str, O.plains (l.map fun s => O.im (.str s)) = true
  | [] => rfl
  | s :: r => by rw [List.map_cons, O.plains, plains_strs r]; rfl
theorem gO_D (g : Str × List Str) : (gO g).toD = gD g := by
  unfold gO gD
  rw [O.toD, O.toDs, O.toDs, O.toDs, O.toD, O.toD, toDs_strs]
theorem gO_plain (g : Str × List Str) : (gO g).plain = true := by
  unfold gO
  rw [O.plain, O.plains, O.plains, O.plains, O.plain, O.plain, plains_strs]
  rfl
theorem trO_D (gs : List (Str × List Str)) : (trO gs).toD = .lst (gs.map gD) := by
  unfold trO
  rw [O.toD, toDs_eq, List.map_map]
  congr 1
  exact List.map_congr_left fun g _ => gO_D g
theorem trO_plain (gs : List (Str × List Str)) : (trO gs).plain = true := by
  unfold trO
  rw [O.plain]
  exact plains_of fun o ho => by
    obtain ⟨g, _, rfl⟩ := List.mem_map.mp ho
    exact gO_plain g
theorem jnA_next {ws : List Ed} {i : Nat} (h : i < ws.length) : jnA (ws.take (i + 1)) = jnStep (jnA (ws.take i)) ws[i] := by
  unfold jnA
  rw [take_next h, List.foldl_append]
  rfl
/-- how many lines stand in all groups -/
def jnN (st : List (Str × List Str) × Option (Str × List Str)) : Nat := ((jnC st).map fun g => g.2.length).sum
theorem jnS (gs : List (Str × List Str)) (w : Str) (ls : List Str) (e : Ed) : jnStep (gs, some (w, ls)) e = if w = e.w then (gs, some (w, ls ++ [e.s])) else (gs ++ [(w, ls)], some (e.w, [e.s])) := rfl
theorem jnStep_C (st : List (Str × List Str) × Option (Str × List Str)) (e : Ed) (hn : st.2 = none → st.1 = []) :
    ∃ gs ls, jnC (jnStep st e) = gs ++ [(e.w, ls ++ [e.s])] ∧ ((jnC st = gs ++ [(e.w, ls)]) ∨ (jnC st = gs ∧ ls = [] ∧ (gs = [] ∨ ∃ g', gs.getLast? = some g' ∧ g'.1 ≠ e.w))) ∧ ((jnStep st e).2 = none → (jnStep st e).1 = []) := by
  obtain ⟨gs, o⟩ := st
  cases o with
  | none =>
    have e0 : gs = [] := hn rfl
    subst e0
    exact ⟨[], [], rfl, .inr ⟨rfl, rfl, .inl rfl⟩, fun z => by cases z⟩
  | some g =>
    obtain ⟨w, ls⟩ := g
    by_cases h : w = e.w
    · refine ⟨gs, ls, ?_, .inl ?_, fun z => ?_⟩
      · rw [jnS, if_pos h, ← h]
        rfl
      · rw [← h]
        rfl
      · rw [jnS, if_pos h] at z
        cases z
    · refine ⟨gs ++ [(w, ls)], [], ?_, .inr ⟨rfl, rfl, .inr ⟨(w, ls), by simp, h⟩⟩, fun z => ?_⟩
      · rw [jnS, if_neg h]
        rfl
      · rw [jnS, if_neg h] at z
        cases z
theorem jnA_none : ∀ (ws : List Ed) (i : Nat), i ≤ ws.length → (jnA (ws.take i)).2 = none → (jnA (ws.take i)).1 = []
  | ws, 0, _, _ => rfl
  | ws, i + 1, h, z => by
    rw [jnA_next (by omega)] at z ⊢
    obtain ⟨_, _, _, _, k⟩ := jnStep_C (jnA (ws.take i)) ws[i] (jnA_none ws i (by omega))
    exact k z
theorem sum_snoc (l : List Nat) (x : Nat) : (l ++ [x]).sum = l.sum + x := by simp
theorem jnN_next (st : List (Str × List Str) × Option (Str × List Str)) (e : Ed) (hn : st.2 = none → st.1 = []) : jnN (jnStep st e) = jnN st + 1 := by
  obtain ⟨gs, ls, h1, h2, _⟩ := jnStep_C st e hn
  unfold jnN
  rw [h1, List.map_append]
  rcases h2 with h2 | ⟨h2, h3, _⟩
  · rw [h2, List.map_append]
    simp
    omega
  · rw [h2]
    subst h3
    simp
theorem jnN_take : ∀ (ws : List Ed) (i : Nat), i ≤ ws.length → jnN (jnA (ws.take i)) = i
  | ws, 0, _ => rfl
  | ws, i + 1, h => by rw [jnA_next (by omega), jnN_next _ _ (jnA_none ws i (by omega)), jnN_take ws i (by omega)]
theorem jnPos : ∀ (ws : List Ed) (i : Nat), i ≤ ws.length → ∀ g ∈ jnC (jnA (ws.take i)), 1 ≤ g.2.length
  | ws, 0, _, g, hg => by cases hg
  | ws, i + 1, h, g, hg => by
    rw [jnA_next (by omega)] at hg
    obtain ⟨gs, ls, h1, h2, _⟩ := jnStep_C (jnA (ws.take i)) ws[i] (jnA_none ws i (by omega))
    rw [h1] at hg
    rcases List.mem_append.mp hg with z | z
    · refine jnPos ws i (by omega) g ?_
      rcases h2 with h2 | ⟨h2, _⟩
      · rw [h2]
        exact List.mem_append_left _ z
      · rw [h2]
        exact z
    · rw [List.mem_singleton.mp z]
      simp
theorem sum_ge : ∀ {l : List (Str × List Str)}, (∀ g ∈ l, 1 ≤ g.2.length) → l.length ≤ (l.map fun g => g.2.length).sum
  | [], _ => Nat.le_refl 0
  | g :: r, h => by
    have h1 := h g (List.mem_cons_self ..)
    have h2 := sum_ge (l := r) fun x hx => h x (List.mem_cons_of_mem _ hx)
    simp only [List.length_cons, List.map_cons, List.sum_cons]
    omega
theorem le_sum : ∀ {l : List (Str × List Str)} {g : Str × List Str}, g ∈ l → g.2.length ≤ (l.map fun g => g.2.length).sum
  | x :: r, g, h => by
    simp only [List.map_cons, List.sum_cons]
    rcases List.mem_cons.mp h with z | z
    · rw [z]; omega
    · have := le_sum z; omega
theorem put_root (o t : O) : o.put [] t = t := put_nil o t
theorem sub_last {gs : List (Str × List Str)} {w : Str} {ls : List Str} : (trO (gs ++ [(w, ls)])).sub [gs.length, 1] = some (.nd .lst (ls.map fun s => .im (.str s))) := by
  unfold trO
  rw [sub_cons (o := gO (w, ls)) (by simp), show gO (w, ls) = .nd .lst [.im (.str w), .nd .lst (ls.map fun s => .im (.str s))] from rfl, sub_cons (o := .nd .lst (ls.map fun s => .im (.str s))) rfl, sub_nil]
theorem put_last {gs : List (Str × List Str)} {w : Str} {ls ls' : List Str} : (trO (gs ++ [(w, ls)])).put [gs.length, 1] (.nd .lst (ls'.map fun s => .im (.str s))) = trO (gs ++ [(w, ls')]) := by
  unfold trO
  rw [put_cons (o := gO (w, ls)) (by simp), show gO (w, ls) = .nd .lst [.im (.str w), .nd .lst (ls.map fun s => .im (.str s))] from rfl, put_cons (o := .nd .lst (ls.map fun s => .im (.str s))) rfl, put_nil]
  congr 1
  rw [List.map_append, List.map_append, List.set_append_right _ _ (by simp)]
  simp [gO]
section
variable {P : Program} {w : World} {K : PySem.W.Frag} {mg : Str → Option Value} {base : Heap} {f : Addr} {fd : FuncData} {k : Nat}
abbrev sJoi : Stmt := topS 18
theorem scJoi : FnScope ["words", "found", "word", "line", "lines"] ["words"] (defScope sJoi) := ⟨rfl, rfl, rfl, by decide +kernel, rfl, by decide +kernel, by decide +kernel⟩
theorem ok_joi (m : M mg) {ws : List Ed} (hw : ws.length ≤ 900) (d : Df K mg "joined_steps" sJoi ["words"]) : Fn P w K mg base (k + 1) "joined_steps" [.lst (ws.map eS)] (.im (eP (jn ws))) := by
  refine fn_mk d scJoi rfl (by simp) rfl fun f cdv A outer s H E c hr => ?_
  have nd := scJoi.nd
  obtain ⟨tK, hKEEP⟩ := m.keep
  have szl : ∀ n : Nat, n ≤ 900 → n < sizeLine := fun n hn => Nat.lt_of_lt_of_le (show n < 1000 by omega) (by decide)
  show WPs _ _ _ [.im (.lst (ws.map eS)), .any, .any, .any, .any] _
  refine wps_cons <| wst_set 1 nd <| wp_lst <| wpa_nil <| ⟨[], rfl, Le rfl, rfl, ?_⟩
  refine wps_deep 1 (d := .lst []) rfl rfl fun v => ?_
  show WPs _ _ _ [.im (.lst (ws.map eS)), .deep v (trO []), .any, .any, .any] _
  refine wps_cons <| wst_for (fun i Γ => ∃ s2 s3, Γ = [.im (.lst (ws.map eS)), .deep v (trO (jnC (jnA (ws.take i)))), s2, s3, .any]) <| wpi_list <| wp_name 0 rfl rfl <| ⟨_, rfl, ⟨_, _, rfl⟩, fun F1 i Γ' hi hj => ?_, fun Γ' hj => ?_⟩
  · obtain ⟨s2, s3, rfl⟩ := hj
    have hi' : i < ws.length := by simpa using hi
    show GtD _ _ _ (.im ((ws.map eS).getD i .non)) _ _
    rw [getD_map eS hi']
    have hno := jnA_none ws i (by omega)
    have hN := jnN_take ws i (by omega)
    have hP := jnPos ws i (by omega)
    rw [jnA_next hi']
    generalize jnA (ws.take i) = st at hno hN hP
    generalize ws[i] = e
    obtain ⟨gs, ls, h1, h2, _⟩ := jnStep_C st e hno
    rw [h1]
    refine gt_tup2 2 3 rfl nd ?_
    show WPs _ _ _ [.im (.lst (ws.map eS)), .deep v (trO (jnC st)), .im (.str e.w), .im (.str e.s), .any] _
    have hlen : (jnC st).length ≤ 900 := by
      have := sum_ge hP
      unfold jnN at hN
      omega
    have hls : ls.length ≤ 900 := by
      rcases h2 with h2 | ⟨_, h2, _⟩
      · have := le_sum (l := jnC st) (g := (e.w, ls)) (by rw [h2]; simp)
        unfold jnN at hN
        simp only at this
        omega
      · rw [h2]; simp
    refine wps_seq (fun Γ => Γ = [.im (.lst (ws.map eS)), .deep v (trO (gs ++ [(e.w, ls)])), .im (.str e.w), .im (.str e.s), .any]) ?_ ?_
    · rcases h2 with h2 | ⟨h2, h3, h4⟩
      · -- the last group goes on
        rw [h2]
        refine wst_if <| wpt_w <| wpw_or <| wpt_cmp <| wp_callB m.len PySem.boot_len <| wpa_cons <| wp_name 1 rfl rfl <| wpa_nil <| cd_lenVo <| wp_int <| od_eqI ⟨_, rfl, fun hx => ?_, fun hx => ?_⟩
        · simp at hx
          omega
        · refine wpw_or1 <| wpt_cmp <| wp_ix <| wp_ix <| wp_name 1 rfl rfl <| wp_unop <| wp_int <| ud_neg <| xd_vo (n := gs.length) (o := gO (e.w, ls)) ?_ ?_ <| wp_int <| xd_vo (n := 0) (o := .im (.str e.w)) rfl rfl <| wp_name 2 rfl rfl <| od_neS ⟨_, rfl, fun hx => ?_, fun _ => wps_nil rfl⟩
          · unfold ixN
            rw [if_neg (by decide), if_pos (by simp; omega)]
            congr 1
            simp
            omega
          · simp
          · simp at hx
      · -- a new group
        subst h3
        rw [h2]
        refine wst_if <| WPt.mono (KB := fun x => x = true) ?_ fun x hx => ⟨fun _ => ?_, fun z => by rw [hx] at z; cases z⟩
        rotate_left
        · refine wps_cons <| wst_appendT 1 rfl <| wp_name 1 rfl rfl <| ⟨[], gs.map gO, rfl, sub_nil _, by rw [List.length_map, ← h2]; exact szl _ hlen, wp_lstO2 <| wp_name 2 rfl rfl <| ⟨.str e.w, rfl, wp_lst <| wpa_nil ⟨[], rfl, Le rfl, .nd .lst [], rfl, fun v' => ⟨_, rfl, wps_nil ?_⟩⟩⟩⟩
          rw [put_nil]
          have e1 : O.nd .lst (gs.map gO ++ [.nd .lst [.im (.str e.w), .nd .lst []]]) = trO (gs ++ [(e.w, [])]) := by
            unfold trO
            rw [List.map_append]
            rfl
          rw [e1]
          rfl
        rcases h4 with h4 | ⟨g', h4, h5⟩
        · subst h4
          exact wpt_w <| wpw_or <| wpt_cmp <| wp_callB m.len PySem.boot_len <| wpa_cons <| wp_name 1 rfl rfl <| wpa_nil <| cd_lenVo <| wp_int <| od_eqI ⟨_, rfl, fun hx => rfl, fun hx => by simp at hx⟩
        · obtain ⟨g0, rfl⟩ : ∃ g0, gs = g0 ++ [g'] := List.getLast?_eq_some_iff.mp h4
          refine wpt_w <| wpw_or <| wpt_cmp <| wp_callB m.len PySem.boot_len <| wpa_cons <| wp_name 1 rfl rfl <| wpa_nil <| cd_lenVo <| wp_int <| od_eqI ⟨_, rfl, fun hx => rfl, fun hx => ?_⟩
          refine wpw_or1 <| wpt_cmp <| wp_ix <| wp_ix <| wp_name 1 rfl rfl <| wp_unop <| wp_int <| ud_neg <| xd_vo (n := g0.length) (o := gO g') ?_ ?_ <| wp_int <| xd_vo (n := 0) (o := .im (.str g'.1)) rfl rfl <| wp_name 2 rfl rfl <| od_neS ⟨_, rfl, ?_⟩
          · unfold ixN
            rw [if_neg (by decide), if_pos (by simp; omega)]
            congr 1
            simp
            omega
          · simp
          · simp [h5]
    · rintro Γ rfl
      refine wps_cons <| wst_appendT 1 rfl <| wp_ix <| wp_ix <| wp_name 1 rfl rfl <| wp_unop <| wp_int <| ud_neg <| xd_vo (n := gs.length) (o := gO (e.w, ls)) ?_ ?_ <| wp_int <| xd_vo (n := 1) (o := .nd .lst (ls.map fun s => .im (.str s))) rfl rfl <| ⟨[gs.length, 1], _, rfl, sub_last, by rw [List.length_map]; exact szl _ hls, wp_name 3 rfl rfl <| ⟨.im (.str e.s), rfl, wps_nil ⟨.im (.str e.w), .im (.str e.s), ?_⟩⟩⟩
      · unfold ixN
        rw [if_neg (by decide), if_pos (by simp; omega)]
        congr 1
        simp
        omega
      · simp
      · have e1 : (ls.map fun s => O.im (.str s)) ++ [O.im (.str e.s)] = (ls ++ [e.s]).map fun s => O.im (.str s) := by rw [List.map_append]; rfl
        rw [e1, put_last]
        rfl
  · obtain ⟨s2, s3, rfl⟩ := hj
    rw [List.length_map, List.take_length]
    have hN := jnN_take ws ws.length (Nat.le_refl _)
    have hP := jnPos ws ws.length (Nat.le_refl _)
    rw [List.take_length] at hN hP
    have hlen : (jn ws).length ≤ 900 := by
      have := sum_ge hP
      unfold jnN at hN
      unfold jn
      omega
    refine wps_known 1 rfl (trO_plain _) ?_
    rw [trO_D]
    show WPs _ _ _ [.im (.lst (ws.map eS)), .im (.lst ((jn ws).map gD)), s2, s3, .any] _
    refine wps_cons <| wst_ret <| wp_callTy m.tup PyProof.Rows.boot_tuple <| wpa_cons <| wp_lc (own := [("word", 2), ("lines", 4)]) (fun i acc => acc = ((jn ws).take i).map eT) rfl nd (blk_of (N' := ["words", "found", "word", "line", "lines"]) (sc' := defScope sJoi) (by decide +kernel)) (by rfl) <|
      wpi_list <| wp_name 1 rfl rfl <| ⟨_, rfl, rfl, fun F2 H2 i acc hi hJ Y hY => ?_, fun acc hJ => ?_⟩
    · have hi' : i < (jn ws).length := by simpa using hi
      obtain ⟨s', H', C, cl, fp, rfl⟩ := hY
      subst hJ
      show GtC _ _ _ (.im (((jn ws).map gD).getD i .non)) _ _ _
      rw [getD_map gD hi']
      have hsz : (((jn ws).take i).map eT).length < sizeLine := by
        rw [List.length_map, List.length_take]
        exact szl _ (by omega)
      have nxt : ((jn ws).take i).map eT ++ [eT (jn ws)[i]] = ((jn ws).take (i + 1)).map eT := by rw [take_next hi', List.map_append]; rfl
      have hmem : (jn ws)[i] ∈ jn ws := List.getElem_mem hi'
      generalize (jn ws)[i] = g at nxt hmem
      obtain ⟨wd, ls⟩ := g
      refine gtc_lst2 2 4 rfl nd fun Y hY => ?_
      refine ⟨fun _ Y hY => ?_, fun z => by cases z⟩
      obtain ⟨s', H', C, cl, fp, rfl⟩ := hY
      refine wp_ifExp <| wpt_cmp <| wp_name 2 rfl rfl <| wp_gstr rfl hKEEP <| od_eqS ⟨_, rfl, fun hx => ?_, fun hx => ?_⟩
      · have e1 : wd = "keep" := of_decide_eq_true hx
        subst e1
        refine wp_tup <| wpa_cons <| wp_name 2 rfl rfl <| wpa_cons <| wp_callB m.len PySem.boot_len <| wpa_cons <| wp_name 4 rfl rfl <| wpa_nil <| cd_len rfl <| wpa_nil ⟨[.str "keep", .int (ls.map D.str).length], rfl, Le rfl, _, rfl, hsz, ?_⟩
        rw [← nxt, List.length_map]
        rfl
      · have e1 : ¬ wd = "keep" := of_decide_eq_false hx
        refine wp_tup <| wpa_cons <| wp_name 2 rfl rfl <| wpa_cons <| wp_callTy m.tup PyProof.Rows.boot_tuple <| wpa_cons <| wp_name 4 rfl rfl <| wpa_nil <| cd_tuple rfl <| wpa_nil ⟨[.str wd, eL ls], rfl, Le rfl, _, rfl, hsz, ?_⟩
        rw [← nxt]
        congr 2
        unfold eT
        rw [if_neg e1]
    · rw [List.length_map, List.take_length] at hJ
      subst hJ
      exact wpa_nil <| cd_tuple rfl rfl
end
end K84

set_option Elab.async false
set_option linter.all false
set_option pp.maxSteps 300
set_option maxRecDepth 100000
set_option maxHeartbeats 2000000
/-! K16: k84, plain: what a patch is -/
namespace K84
open PySem PySem.Spec PyProof.Rows L2 DL
theorem foldl_inv {α β : Type} (f : β → α → β) (b0 : β) (I : List α → β → Prop) (h0 : I [] b0) (hs : ∀ l b a, I l b → I (l ++ [a]) (f b a)) : ∀ l, I l (l.foldl f b0) := fun l => by
  have aux : ∀ (l pre : List α) (b : β), I pre b → I (pre ++ l) (l.foldl f b) := by
    intro l
    induction l with
    | nil => intro pre b h; rw [List.append_nil]; exact h
    | cons a r ih =>
      intro pre b h
      have := ih (pre ++ [a]) (f b a) (hs pre b a h)
      rw [List.append_assoc] at this
      exact this
  exact aux l [] b0 h0
/-! ### single steps -/
def es : Ed → List Str
  | .keep s => [s]
  | .drop s => [s]
  | .put _ => []
def et : Ed → List Str
  | .keep s => [s]
  | .drop _ => []
  | .put s => [s]
def ec : Ed → Int
  | .keep _ => 0
  | _ => 1
def esrc (l : List Ed) : List Str := l.flatMap es
def edst (l : List Ed) : List Str := l.flatMap et
def ecst (l : List Ed) : Int := (l.map ec).sum
def ekp : Nat → Nat → List Ed → List (Nat × Nat)
  | _, _, [] => []
  | i, j, .keep _ :: r => (i, j) :: ekp (i + 1) (j + 1) r
  | i, j, .drop _ :: r => ekp (i + 1) j r
  | i, j, .put _ :: r => ekp i (j + 1) r
theorem esrc_app (a b : List Ed) : esrc (a ++ b) = esrc a ++ esrc b := List.flatMap_append
theorem edst_app (a b : List Ed) : edst (a ++ b) = edst a ++ edst b := List.flatMap_append
theorem ecst_app (a b : List Ed) : ecst (a ++ b) = ecst a + ecst b := by
  unfold ecst
  rw [List.map_append, List.sum_append]
theorem esrc_one (e : Ed) : esrc [e] = es e := by simp [esrc]
theorem edst_one (e : Ed) : edst [e] = et e := by simp [edst]
theorem ecst_one (e : Ed) : ecst [e] = ec e := by simp [ecst]
theorem ekp_app : ∀ (a b : List Ed) (i j : Nat), ekp i j (a ++ b) = ekp i j a ++ ekp (i + (esrc a).length) (j + (edst a).length) b
  | [], b, i, j => rfl
  | .keep s :: r, b, i, j => by
    have ih := ekp_app r b (i + 1) (j + 1)
    show (i, j) :: ekp (i + 1) (j + 1) (r ++ b) = (i, j) :: (ekp (i + 1) (j + 1) r ++ _)
    rw [ih]
    simp only [esrc, edst, List.flatMap_cons, es, et, List.length_append, List.length_cons, List.length_nil]
    congr 3 <;> omega
  | .drop s :: r, b, i, j => by
    have ih := ekp_app r b (i + 1) j
    show ekp (i + 1) j (r ++ b) = ekp (i + 1) j r ++ _
    rw [ih]
    simp only [esrc, edst, List.flatMap_cons, es, et, List.length_append, List.length_cons, List.length_nil]
    congr 2 <;> omega
  | .put s :: r, b, i, j => by
    have ih := ekp_app r b i (j + 1)
    show ekp i (j + 1) (r ++ b) = ekp i (j + 1) r ++ _
    rw [ih]
    simp only [esrc, edst, List.flatMap_cons, es, et, List.length_append, List.length_cons, List.length_nil]
    congr 2 <;> omega
def isPut : Ed → Prop
  | .put _ => True
  | _ => False
theorem puts_src : ∀ {p : List Ed}, (∀ e ∈ p, isPut e) → esrc p = []
  | [], _ => rfl
  | e :: r, h => by
    have h1 := h e (List.mem_cons_self ..)
    have h2 := puts_src fun x hx => h x (List.mem_cons_of_mem _ hx)
    cases e with
    | put s =>
      show [] ++ esrc r = []
      rw [h2]
      rfl
    | keep s => exact h1.elim
    | drop s => exact h1.elim
theorem puts_kp : ∀ {p : List Ed} (i j : Nat), (∀ e ∈ p, isPut e) → ekp i j p = []
  | [], _, _, _ => rfl
  | e :: r, i, j, h => by
    have h1 := h e (List.mem_cons_self ..)
    have h2 := puts_kp i (j + 1) fun x hx => h x (List.mem_cons_of_mem (a := x) e hx)
    cases e with
    | put s => exact h2
    | keep s => exact h1.elim
    | drop s => exact h1.elim
/-! ### chains -/
def Ch {α : Type} (R : α → α → Prop) : List α → Prop
  | a :: b :: r => R a b ∧ Ch R (b :: r)
  | _ => True
theorem Ch_snoc {α : Type} {R : α → α → Prop} : ∀ {l : List α} {x : α}, Ch R l → (∀ y, l.getLast? = some y → R y x) → Ch R (l ++ [x])
  | [], x, _, _ => trivial
  | [a], x, _, h => ⟨h a rfl, trivial⟩
  | a :: b :: r, x, hc, h => ⟨hc.1, Ch_snoc (l := b :: r) hc.2 fun y hy => h y (by rw [List.getLast?_cons_cons]; exact hy)⟩
theorem Ch_pre {α : Type} {R : α → α → Prop} : ∀ {l m : List α}, Ch R (l ++ m) → Ch R l
  | [], _, _ => trivial
  | [_], _, _ => trivial
  | a :: b :: r, m, h => ⟨h.1, Ch_pre (l := b :: r) h.2⟩
theorem Ch_get {α : Type} {R : α → α → Prop} : ∀ {l : List α} {i : Nat} {a b : α}, Ch R l → l[i]? = some a → l[i + 1]? = some b → R a b
  | [], i, _, _, _, h, _ => by simp at h
  | [x], i, a, b, _, _, h => by simp at h
  | x :: y :: r, 0, a, b, hc, h1, h2 => by
    have e1 : x = a := by simpa using h1
    have e2 : y = b := by simpa using h2
    rw [← e1, ← e2]
    exact hc.1
  | x :: y :: r, i + 1, a, b, hc, h1, h2 => Ch_get (l := y :: r) (i := i) hc.2 (by simpa using h1) (by simpa using h2)
theorem Ch_puts {R : Ed → Ed → Prop} (hR : ∀ a b, isPut b → R a b) : ∀ {p l : List Ed}, Ch R l → (∀ e ∈ p, isPut e) → Ch R (l ++ p)
  | [], l, hc, _ => by rw [List.append_nil]; exact hc
  | e :: r, l, hc, h => by
    have h1 := Ch_puts hR (p := r) (l := l ++ [e]) (Ch_snoc hc fun y _ => hR y e (h e (List.mem_cons_self ..))) fun x hx => h x (List.mem_cons_of_mem _ hx)
    rw [List.append_assoc] at h1
    exact h1
/-- no put ahead of a drop -/
def NPD (a b : Ed) : Prop := ¬ (a.w = ("put" : Str) ∧ b.w = ("drop" : Str))
theorem npd_put (a b : Ed) (h : isPut b) : NPD a b := by
  cases b with
  | put s => exact fun z => absurd z.2 (by show ¬ ("put" : Str) = "drop"; decide)
  | keep s => exact h.elim
  | drop s => exact h.elim
structure SrtOk (ws : List Ed) (st : List Ed × List Ed) : Prop where
  p : ∀ e ∈ st.2, isPut e
  s : esrc (st.1 ++ st.2) = esrc ws
  d : edst (st.1 ++ st.2) = edst ws
  c : ecst (st.1 ++ st.2) = ecst ws
  k : ekp 0 0 (st.1 ++ st.2) = ekp 0 0 ws
  n : Ch NPD st.1
  l : ∀ y, st.1.getLast? = some y → ¬ isPut y
  m : ∀ e ∈ st.1 ++ st.2, e ∈ ws
theorem srtA_ok (ws : List Ed) : SrtOk ws (srtA ws) := by
  refine foldl_inv srtStep ([], []) SrtOk ⟨fun e h => (List.not_mem_nil h).elim, rfl, rfl, rfl, rfl, trivial, fun y h => (by simp at h), fun e h => (by simp at h)⟩ ?_ ws
  rintro l ⟨f, p⟩ e ⟨h1, h2, h3, h4, h5, h6, h7, h8⟩
  simp only at h1 h2 h3 h4 h5 h6 h7 h8
  cases e with
  | put s =>
    show SrtOk _ (f, p ++ [.put s])
    refine ⟨fun e h => ?_, ?_, ?_, ?_, ?_, h6, h7, fun e h => ?_⟩
    · rcases List.mem_append.mp h with z | z
      · exact h1 e z
      · rw [List.mem_singleton.mp z]; trivial
    · show esrc (f ++ (p ++ [.put s])) = _
      rw [← List.append_assoc, esrc_app, h2, esrc_app]
    · show edst (f ++ (p ++ [.put s])) = _
      rw [← List.append_assoc, edst_app, h3, edst_app]
    · show ecst (f ++ (p ++ [.put s])) = _
      rw [← List.append_assoc, ecst_app, h4, ecst_app]
    · show ekp 0 0 (f ++ (p ++ [.put s])) = _
      rw [← List.append_assoc, ekp_app, h5, ekp_app]
      rfl
    · have h' : e ∈ (f ++ p) ++ [.put s] := by rw [List.append_assoc]; exact h
      rcases List.mem_append.mp h' with z | z
      · exact List.mem_append_left _ (h8 e z)
      · exact List.mem_append_right _ z
  | drop s =>
    show SrtOk _ (f ++ [.drop s], p)
    have hp := puts_src h1
    refine ⟨h1, ?_, ?_, ?_, ?_, Ch_snoc h6 fun y hy z => ?_, fun y hy => ?_, fun e h => ?_⟩
    · show esrc (f ++ [.drop s] ++ p) = _
      rw [esrc_app, esrc_app, esrc_app l, ← h2, esrc_app, hp, List.append_nil, List.append_nil]
    · show edst (f ++ [.drop s] ++ p) = _
      rw [edst_app, edst_app, edst_app l, ← h3, edst_app, show edst [Ed.drop s] = [] from rfl, List.append_nil, List.append_nil]
    · show ecst (f ++ [.drop s] ++ p) = _
      rw [ecst_app, ecst_app, ecst_app l, ← h4, ecst_app]
      omega
    · show ekp 0 0 (f ++ [.drop s] ++ p) = _
      rw [ekp_app, puts_kp _ _ h1, List.append_nil, ekp_app, ekp_app l, ← h5, ekp_app, puts_kp _ _ h1, List.append_nil]
      rfl
    · cases y with
      | put s' => exact h7 _ hy trivial
      | keep s' => exact absurd z.1 (by show ¬ ("keep" : Str) = "put"; decide)
      | drop s' => exact absurd z.1 (by show ¬ ("drop" : Str) = "put"; decide)
    · rw [List.getLast?_append] at hy
      simp at hy
      rw [← hy]
      exact id
    · have h' : e ∈ f ++ [.drop s] ++ p := h
      rcases List.mem_append.mp h' with z | z
      · rcases List.mem_append.mp z with z | z
        · exact List.mem_append_left _ (h8 e (List.mem_append_left _ z))
        · exact List.mem_append_right _ z
      · exact List.mem_append_left _ (h8 e (List.mem_append_right _ z))
  | keep s =>
    show SrtOk _ (f ++ p ++ [.keep s], [])
    refine ⟨fun e h => (List.not_mem_nil h).elim, ?_, ?_, ?_, ?_, Ch_snoc (Ch_puts npd_put h6 h1) fun y _ z => absurd z.2 (by show ¬ ("keep" : Str) = "drop"; decide), fun y hy => ?_, fun e h => ?_⟩
    · show esrc (f ++ p ++ [.keep s] ++ []) = _
      rw [List.append_nil, esrc_app, h2, esrc_app]
    · show edst (f ++ p ++ [.keep s] ++ []) = _
      rw [List.append_nil, edst_app, h3, edst_app]
    · show ecst (f ++ p ++ [.keep s] ++ []) = _
      rw [List.append_nil, ecst_app, h4, ecst_app]
    · show ekp 0 0 (f ++ p ++ [.keep s] ++ []) = _
      rw [List.append_nil, ekp_app, h5, ekp_app, h2, h3]
    · rw [List.getLast?_append] at hy
      simp at hy
      rw [← hy]
      exact id
    · have h' : e ∈ f ++ p ++ [.keep s] ++ [] := h
      rw [List.append_nil] at h'
      rcases List.mem_append.mp h' with z | z
      · exact List.mem_append_left _ (h8 e z)
      · exact List.mem_append_right _ z
theorem srt_src (ws : List Ed) : esrc (srt ws) = esrc ws := (srtA_ok ws).s
theorem srt_dst (ws : List Ed) : edst (srt ws) = edst ws := (srtA_ok ws).d
theorem srt_cst (ws : List Ed) : ecst (srt ws) = ecst ws := (srtA_ok ws).c
theorem srt_kp (ws : List Ed) : ekp 0 0 (srt ws) = ekp 0 0 ws := (srtA_ok ws).k
theorem srt_npd (ws : List Ed) : Ch NPD (srt ws) := Ch_puts npd_put (srtA_ok ws).n (srtA_ok ws).p
theorem srt_mem (ws : List Ed) : ∀ e ∈ srt ws, e ∈ ws := (srtA_ok ws).m
/-! ### groups -/
theorem w_keep (s : Str) : (Ed.keep s).w = "keep" := rfl
/-- groups come of steps -/
structure JnOk (ws : List Ed) (st : List (Str × List Str) × Option (Str × List Str)) : Prop where
  nn : st.2 = none → ws = []
  n1 : st.2 = none → st.1 = []
  w : wOk (jnC st)
  ne : ∀ g ∈ jnC st, g.2 ≠ []
  mem : ∀ g ∈ jnC st, ∀ s ∈ g.2, ∃ e ∈ ws, e.s = s
  s : srcG (jnC st) = esrc ws
  d : dstG (jnC st) = edst ws
  c : cst (jnC st) = ecst ws
  t : tot (jnC st) = ws.length
  k : kgA (jnC st) = ((esrc ws).length, (edst ws).length, ekp 0 0 ws)
  l : ∀ g, st.2 = some g → ∃ e, ws.getLast? = some e ∧ e.w = g.1
  a : Ch NPD ws → Ch (fun a b : Str × List Str => a.1 ≠ b.1 ∧ ¬ (b.1 = "drop" ∧ a.1 = "put")) (jnC st)
theorem tot_app (a b : List (Str × List Str)) : tot (a ++ b) = tot a + tot b := by
  unfold tot
  rw [List.map_append, List.sum_append]
theorem srcG_app (a b : List (Str × List Str)) : srcG (a ++ b) = srcG a ++ srcG b := List.flatMap_append
theorem dstG_app (a b : List (Str × List Str)) : dstG (a ++ b) = dstG a ++ dstG b := List.flatMap_append
theorem cst_app (a b : List (Str × List Str)) : cst (a ++ b) = cst a + cst b := by
  unfold cst
  rw [List.filter_append, List.map_append, List.sum_append]
theorem kgA_snoc (gs : List (Str × List Str)) (g : Str × List Str) : kgA (gs ++ [g]) = kgStep (kgA gs) g := by
  unfold kgA
  rw [List.foldl_append]
  rfl
theorem sG_k (ls : List Str) : sG ("keep", ls) = ls := if_neg (by show ¬ ("keep" : Str) = "put"; decide)
theorem sG_d (ls : List Str) : sG ("drop", ls) = ls := if_neg (by show ¬ ("drop" : Str) = "put"; decide)
theorem sG_p (ls : List Str) : sG ("put", ls) = [] := if_pos rfl
theorem dG_k (ls : List Str) : dG ("keep", ls) = ls := if_neg (by show ¬ ("keep" : Str) = "drop"; decide)
theorem dG_d (ls : List Str) : dG ("drop", ls) = [] := if_pos rfl
theorem dG_p (ls : List Str) : dG ("put", ls) = ls := if_neg (by show ¬ ("put" : Str) = "drop"; decide)
theorem sG_snoc (e : Ed) (ls : List Str) : sG (e.w, ls ++ [e.s]) = sG (e.w, ls) ++ es e := by
  cases e with
  | keep s => exact (sG_k _).trans (by rw [show sG ((Ed.keep s).w, ls) = ls from sG_k ls]; rfl)
  | drop s => exact (sG_d _).trans (by rw [show sG ((Ed.drop s).w, ls) = ls from sG_d ls]; rfl)
  | put s => exact (sG_p _).trans (by rw [show sG ((Ed.put s).w, ls) = [] from sG_p ls]; rfl)
theorem dG_snoc (e : Ed) (ls : List Str) : dG (e.w, ls ++ [e.s]) = dG (e.w, ls) ++ et e := by
  cases e with
  | keep s => exact (dG_k _).trans (by rw [show dG ((Ed.keep s).w, ls) = ls from dG_k ls]; rfl)
  | drop s => exact (dG_d _).trans (by rw [show dG ((Ed.drop s).w, ls) = [] from dG_d ls]; rfl)
  | put s => exact (dG_p _).trans (by rw [show dG ((Ed.put s).w, ls) = ls from dG_p ls]; rfl)
theorem cst_one (w : Str) (ls : List Str) : cst [(w, ls)] = if w = "keep" then 0 else (ls.length : Int) := by
  unfold cst
  by_cases h : w = ("keep" : Str)
  · have : notKeep (w, ls) = false := by unfold notKeep; simp [h]
    rw [List.filter_cons_of_neg (by rw [this]; decide), if_pos h]
    rfl
  · have : notKeep (w, ls) = true := by unfold notKeep; simp [h]
    rw [List.filter_cons_of_pos this, if_neg h]
    simp
theorem cst_snoc (e : Ed) (ls : List Str) : cst [(e.w, ls ++ [e.s])] = cst [(e.w, ls)] + ec e := by
  rw [cst_one, cst_one]
  cases e with
  | keep s => rw [if_pos (show (Ed.keep s).w = "keep" from rfl), if_pos (show (Ed.keep s).w = "keep" from rfl)]; rfl
  | drop s => rw [if_neg (by show ¬ ("drop" : Str) = "keep"; decide), if_neg (by show ¬ ("drop" : Str) = "keep"; decide)]; simp [ec]
  | put s => rw [if_neg (by show ¬ ("put" : Str) = "keep"; decide), if_neg (by show ¬ ("put" : Str) = "keep"; decide)]; simp [ec]
theorem kg_snoc (st : Nat × Nat × List (Nat × Nat)) (e : Ed) (ls : List Str) : kgStep st (e.w, ls ++ [e.s]) = ((kgStep st (e.w, ls)).1 + (es e).length, (kgStep st (e.w, ls)).2.1 + (et e).length, (kgStep st (e.w, ls)).2.2 ++ ekp (kgStep st (e.w, ls)).1 (kgStep st (e.w, ls)).2.1 [e]) := by
  obtain ⟨a, b, acc⟩ := st
  cases e with
  | keep s =>
    show kgStep (a, b, acc) ("keep", ls ++ [s]) = _
    rw [show (Ed.keep s).w = "keep" from rfl, kgStep_keep, kgStep_keep, List.length_append]
    simp [es, et, ekp, List.range_succ, Nat.add_assoc]
  | drop s =>
    have h1 : ¬ ("drop" : Str) = "keep" := by decide
    rw [show (Ed.drop s).w = "drop" from rfl, kgStep_drop h1 rfl, kgStep_drop h1 rfl, List.length_append]
    simp [es, et, ekp, Ed.s, Nat.add_assoc]
  | put s =>
    have h1 : ¬ ("put" : Str) = "keep" := by decide
    have h2 : ¬ ("put" : Str) = "drop" := by decide
    rw [show (Ed.put s).w = "put" from rfl, kgStep_put h1 h2, kgStep_put h1 h2, List.length_append]
    simp [es, et, ekp, Ed.s, Nat.add_assoc]
theorem kg_nil (st : Nat × Nat × List (Nat × Nat)) (w : Str) : kgStep st (w, []) = st := by
  obtain ⟨a, b, acc⟩ := st
  unfold kgStep
  simp
theorem w_cases (e : Ed) : e.w = "keep" ∨ e.w = "drop" ∨ e.w = "put" := by
  cases e with
  | keep s => exact .inl rfl
  | drop s => exact .inr (.inl rfl)
  | put s => exact .inr (.inr rfl)
theorem jnA_ok (ws : List Ed) : JnOk ws (jnA ws) := by
  refine foldl_inv jnStep ([], none) JnOk ⟨fun _ => rfl, fun _ => rfl, fun g h => (List.not_mem_nil h).elim, fun g h => (List.not_mem_nil h).elim, fun g h => (List.not_mem_nil h).elim, rfl, rfl, rfl, rfl, rfl, fun g h => (by cases h), fun _ => trivial⟩ ?_ ws
  rintro l st e h
  -- the groups ahead, and the last one as it was
  obtain ⟨gs, ls, h1, h2, h3⟩ := jnStep_C st e h.n1
  have h2' : jnC st = gs ++ [(e.w, ls)] ∨ jnC st = gs ∧ ls = [] := h2.imp id fun z => ⟨z.1, z.2.1⟩
  have hs : srcG gs ++ sG (e.w, ls) = esrc l := by
    rw [← h.s]
    rcases h2' with z | ⟨z, z2⟩
    · rw [z, srcG_app]
      simp [srcG]
    · rw [z, z2]
      have : sG (e.w, []) = [] := by unfold sG; split <;> rfl
      rw [this, List.append_nil]
  have hd : dstG gs ++ dG (e.w, ls) = edst l := by
    rw [← h.d]
    rcases h2' with z | ⟨z, z2⟩
    · rw [z, dstG_app]
      simp [dstG]
    · rw [z, z2]
      have : dG (e.w, []) = [] := by unfold dG; split <;> rfl
      rw [this, List.append_nil]
  have hc : cst gs + cst [(e.w, ls)] = ecst l := by
    rw [← h.c]
    rcases h2' with z | ⟨z, z2⟩
    · rw [z, cst_app]
    · rw [z, z2, cst_one]
      split <;> simp
  have ht : tot gs + ls.length = l.length := by
    rw [← h.t]
    rcases h2' with z | ⟨z, z2⟩
    · rw [z, tot_app]
      simp [tot]
    · rw [z, z2]
      rfl
  have hk : kgStep (kgA gs) (e.w, ls) = ((esrc l).length, (edst l).length, ekp 0 0 l) := by
    rw [← h.k]
    rcases h2' with z | ⟨z, z2⟩
    · rw [z, kgA_snoc]
    · rw [z, z2, kg_nil]
  have hold : ∀ g ∈ gs, g ∈ jnC st := fun g hg => by
    rcases h2' with z | ⟨z, z2⟩
    · rw [z]
      exact List.mem_append_left _ hg
    · rw [z]
      exact hg
  refine ⟨fun z => ?_, h3, fun g hg => ?_, fun g hg => ?_, fun g hg s hs' => ?_, ?_, ?_, ?_, ?_, ?_, fun g hg => ?_, fun hch => ?_⟩
  · have h3' := h3 z
    generalize jnStep st e = q at h1 z h3'
    obtain ⟨x, y⟩ := q
    have z : y = none := z
    have h3' : x = [] := h3'
    subst z h3'
    simp [jnC] at h1
  · rw [h1] at hg
    rcases List.mem_append.mp hg with z | z
    · exact h.w g (hold g z)
    · rw [List.mem_singleton.mp z]
      exact w_cases e
  · rw [h1] at hg
    rcases List.mem_append.mp hg with z | z
    · exact h.ne g (hold g z)
    · rw [List.mem_singleton.mp z]
      simp
  · rw [h1] at hg
    rcases List.mem_append.mp hg with z | z
    · obtain ⟨x, hx, r⟩ := h.mem g (hold g z) s hs'
      exact ⟨x, List.mem_append_left _ hx, r⟩
    · rw [List.mem_singleton.mp z] at hs'
      rcases List.mem_append.mp hs' with y | y
      · rcases h2' with q | ⟨q, q2⟩
        · obtain ⟨x, hx, r⟩ := h.mem (e.w, ls) (by rw [q]; simp) s y
          exact ⟨x, List.mem_append_left _ hx, r⟩
        · rw [q2] at y
          cases y
      · exact ⟨e, by simp, (List.mem_singleton.mp y).symm⟩
  · rw [h1, srcG_app, esrc_app, ← hs, esrc_one, List.append_assoc, ← sG_snoc]
    simp [srcG]
  · rw [h1, dstG_app, edst_app, ← hd, edst_one, List.append_assoc, ← dG_snoc]
    simp [dstG]
  · rw [h1, cst_app, ecst_app, ← hc, ecst_one, cst_snoc]
    omega
  · rw [h1, tot_app, List.length_append, ← ht]
    simp [tot]
    omega
  · rw [h1, kgA_snoc, kg_snoc, hk, esrc_app, edst_app, ekp_app, esrc_one, edst_one, List.length_append, List.length_append, Nat.zero_add, Nat.zero_add]
  · refine ⟨e, by simp, ?_⟩
    have : jnC (jnStep st e) = (jnStep st e).1 ++ [g] := by
      generalize jnStep st e = q at hg
      obtain ⟨x, y⟩ := q
      have hg : y = some g := hg
      subst hg
      rfl
    rw [h1] at this
    have := List.append_inj_right' this rfl
    simp at this
    rw [← this]
  · have hl := h.a (Ch_pre hch)
    rw [h1]
    rcases h2 with z | ⟨z, z2, z3⟩
    · -- the same words
      rw [z] at hl
      have key : ∀ (gs : List (Str × List Str)) (w : Str) (a b : List Str), Ch (fun a b : Str × List Str => a.1 ≠ b.1 ∧ ¬ (b.1 = "drop" ∧ a.1 = "put")) (gs ++ [(w, a)]) → Ch (fun a b : Str × List Str => a.1 ≠ b.1 ∧ ¬ (b.1 = "drop" ∧ a.1 = "put")) (gs ++ [(w, b)]) := by
        intro gs
        induction gs with
        | nil => intro w a b _; trivial
        | cons x r ih =>
          intro w a b hh
          cases r with
          | nil => exact ⟨hh.1, trivial⟩
          | cons y r => exact ⟨hh.1, ih w a b hh.2⟩
      exact key _ _ _ _ hl
    · rw [z] at hl
      refine Ch_snoc hl fun y hy => ?_
      rcases z3 with z3 | ⟨g', z3, z4⟩
      · rw [z3] at hy
        cases hy
      · rw [hy] at z3
        cases z3
        refine ⟨z4, fun q => ?_⟩
        have hsome : st.2 = some y := by
          have z' := z
          unfold jnC at z'
          obtain ⟨x, o⟩ := st
          cases o with
          | none =>
            have := h.n1 rfl
            simp only at this z'
            rw [← z', this] at hy
            cases hy
          | some g =>
            simp only at z' ⊢
            rw [← z'] at hy
            simp at hy
            rw [hy]
        obtain ⟨e0, he0, hw0⟩ := h.l y hsome
        obtain ⟨l0, rfl⟩ := List.getLast?_eq_some_iff.mp he0
        rw [List.append_assoc] at hch
        have key : ∀ (l : List Ed) (a b : Ed), Ch NPD (l ++ [a, b]) → NPD a b := by
          intro l
          induction l with
          | nil => intro a b hh; exact hh.1
          | cons x r ih =>
            intro a b hh
            cases r with
            | nil => exact hh.2.1
            | cons y r => exact ih a b hh.2
        exact key l0 e0 e hch ⟨by rw [hw0]; exact q.2, q.1⟩
end K84

set_option Elab.async false
set_option linter.all false
set_option pp.maxSteps 300
set_option maxRecDepth 100000
set_option maxHeartbeats 2000000
/-! K17: k84, plain: the least patch, what it keeps -/
namespace K84
open PySem PySem.Spec PyProof.Rows L2 DL
theorem take_getD {l : List Str} {i : Nat} (h : i < l.length) : l.take (i + 1) = l.take i ++ [l.getD i ""] := by rw [take_next h, getD_eq h]
section
variable (one other : List Str)
theorem dd_s_le (i j : Nat) : dd one other (i + 1) j ≤ dd one other i j + 1 := by
  cases j with
  | zero =>
    rw [dd_s0]
    cases i with
    | zero => rw [dd_0]; omega
    | succ i => rw [dd_s0]; omega
  | succ j =>
    rw [dd_ss]
    split <;> omega
theorem dd_le_s (i j : Nat) : dd one other i (j + 1) ≤ dd one other i j + 1 := by
  cases i with
  | zero => rw [dd_0, dd_0]; omega
  | succ i =>
    rw [dd_ss]
    split <;> omega
theorem dd_b2 : ∀ (i j : Nat), dd one other i j ≤ dd one other i (j + 1) + 1
  | 0, j => by rw [dd_0, dd_0]; omega
  | i + 1, j => by
    have h1 := dd_b2 i j
    have h2 := dd_s_le one other i j
    rw [dd_ss]
    split <;> omega
theorem dd_b1 : ∀ (j i : Nat), dd one other i j ≤ dd one other (i + 1) j + 1
  | 0, i => by
    rw [dd_s0]
    cases i with
    | zero => rw [dd_0]; omega
    | succ i => rw [dd_s0]; omega
  | j + 1, i => by
    have h1 := dd_b1 j i
    have h2 := dd_le_s one other i j
    rw [dd_ss]
    split <;> omega
theorem btr_ok : ∀ (i j : Nat), i ≤ one.length → j ≤ other.length → esrc (btr one other i j).reverse = one.take i ∧ edst (btr one other i j).reverse = other.take j ∧ ecst (btr one other i j).reverse = dd one other i j ∧ ∀ e ∈ btr one other i j, e.s ∈ one ∨ e.s ∈ other
  | 0, 0, _, _ => by
    rw [btr, dd_0]
    exact ⟨rfl, rfl, rfl, fun e h => (List.not_mem_nil h).elim⟩
  | 0, j + 1, hi, hj => by
    obtain ⟨h1, h2, h3, h4⟩ := btr_ok 0 j hi (by omega)
    rw [btr_0s, List.reverse_cons, esrc_app, edst_app, ecst_app, h1, h2, h3, take_getD (show j < other.length by omega), dd_0, dd_0]
    refine ⟨by simp [esrc, es], by simp [edst, et], by rw [ecst_one]; rfl, fun e he => ?_⟩
    rcases List.mem_cons.mp he with z | z
    · rw [z]
      exact .inr (by show other.getD j "" ∈ other; rw [getD_eq (by omega)]; exact List.getElem_mem _)
    · exact h4 e z
  | i + 1, 0, hi, hj => by
    obtain ⟨h1, h2, h3, h4⟩ := btr_ok i 0 (by omega) hj
    rw [btr_s0, List.reverse_cons, esrc_app, edst_app, ecst_app, h1, h2, h3, take_getD (show i < one.length by omega), dd_s0]
    refine ⟨by simp [esrc, es], by simp [edst, et], ?_, fun e he => ?_⟩
    · rw [ecst_one]
      cases i with
      | zero => rw [dd_0]; rfl
      | succ i => rw [dd_s0]; show ((i + 1 : Nat) : Int) + 1 = _; omega
    · rcases List.mem_cons.mp he with z | z
      · rw [z]
        exact .inl (by show one.getD i "" ∈ one; rw [getD_eq (by omega)]; exact List.getElem_mem _)
      · exact h4 e z
  | i + 1, j + 1, hi, hj => by
    have m1 : one.getD i "" ∈ one := by rw [getD_eq (show i < one.length by omega)]; exact List.getElem_mem _
    have m2 : other.getD j "" ∈ other := by rw [getD_eq (show j < other.length by omega)]; exact List.getElem_mem _
    rw [btr_ss, dd_ss]
    by_cases he : one.getD i "" = other.getD j ""
    · obtain ⟨h1, h2, h3, h4⟩ := btr_ok i j (by omega) (by omega)
      rw [if_pos he, if_pos he, List.reverse_cons, esrc_app, edst_app, ecst_app, h1, h2, h3, take_getD (show i < one.length by omega), take_getD (show j < other.length by omega)]
      refine ⟨by simp [esrc, es], by rw [← he]; simp [edst, et], ?_, fun e hm => ?_⟩
      · have := dd_b2 one other i j
        have := dd_b1 one other j i
        rw [ecst_one]
        show dd one other i j + 0 = _
        omega
      · rcases List.mem_cons.mp hm with z | z
        · rw [z]
          exact .inl m1
        · exact h4 e z
    · rw [if_neg he, if_neg he]
      by_cases hl : dd one other (i + 1) j < dd one other i (j + 1)
      · obtain ⟨h1, h2, h3, h4⟩ := btr_ok (i + 1) j hi (by omega)
        rw [if_pos hl, List.reverse_cons, esrc_app, edst_app, ecst_app, h1, h2, h3, take_getD (show j < other.length by omega)]
        refine ⟨by simp [esrc, es], by simp [edst, et], ?_, fun e hm => ?_⟩
        · rw [ecst_one]
          show _ + 1 = _
          omega
        · rcases List.mem_cons.mp hm with z | z
          · rw [z]
            exact .inr m2
          · exact h4 e z
      · obtain ⟨h1, h2, h3, h4⟩ := btr_ok i (j + 1) (by omega) hj
        rw [if_neg hl, List.reverse_cons, esrc_app, edst_app, ecst_app, h1, h2, h3, take_getD (show i < one.length by omega)]
        refine ⟨by simp [esrc, es], by simp [edst, et], ?_, fun e hm => ?_⟩
        · rw [ecst_one]
          show _ + 1 = _
          omega
        · rcases List.mem_cons.mp hm with z | z
          · rw [z]
            exact .inl m1
          · exact h4 e z
termination_by i j => i + j
/-- what is kept, from the ends on -/
def bkp : Nat → Nat → List (Nat × Nat)
  | 0, _ => []
  | _ + 1, 0 => []
  | i + 1, j + 1 => if one.getD i "" = other.getD j "" then (i, j) :: bkp i j
    else if dd one other (i + 1) j < dd one other i (j + 1) then bkp (i + 1) j else bkp i (j + 1)
termination_by i j => i + j
theorem bkp_0 (j : Nat) : bkp one other 0 j = [] := by rw [bkp]
theorem bkp_s0 (i : Nat) : bkp one other i 0 = [] := by
  cases i with
  | zero => rw [bkp]
  | succ i => rw [bkp]
theorem bkp_ss (i j : Nat) : bkp one other (i + 1) (j + 1) = if one.getD i "" = other.getD j "" then (i, j) :: bkp one other i j
    else if dd one other (i + 1) j < dd one other i (j + 1) then bkp one other (i + 1) j else bkp one other i (j + 1) := by rw [bkp]
theorem ekp_btr : ∀ (i j : Nat), i ≤ one.length → j ≤ other.length → ekp 0 0 (btr one other i j).reverse = (bkp one other i j).reverse
  | 0, 0, _, _ => by rw [btr, bkp_0]; rfl
  | 0, j + 1, hi, hj => by
    rw [btr_0s, List.reverse_cons, ekp_app, ekp_btr 0 j hi (by omega), bkp_0, bkp_0]
    rfl
  | i + 1, 0, hi, hj => by
    rw [btr_s0, List.reverse_cons, ekp_app, ekp_btr i 0 (by omega) hj, bkp_s0, bkp_s0]
    rfl
  | i + 1, j + 1, hi, hj => by
    rw [btr_ss, bkp_ss]
    by_cases he : one.getD i "" = other.getD j ""
    · obtain ⟨h1, h2, _⟩ := btr_ok one other i j (by omega) (by omega)
      rw [if_pos he, if_pos he, List.reverse_cons, List.reverse_cons, ekp_app, ekp_btr i j (by omega) (by omega), h1, h2, List.length_take, List.length_take, Nat.min_eq_left (by omega), Nat.min_eq_left (by omega), Nat.zero_add, Nat.zero_add]
      rfl
    · rw [if_neg he, if_neg he]
      by_cases hl : dd one other (i + 1) j < dd one other i (j + 1)
      · rw [if_pos hl, if_pos hl, List.reverse_cons, ekp_app, ekp_btr (i + 1) j hi (by omega)]
        exact List.append_nil _
      · rw [if_neg hl, if_neg hl, List.reverse_cons, ekp_app, ekp_btr i (j + 1) (by omega) hj]
        exact List.append_nil _
termination_by i j => i + j
theorem bkp_mem : ∀ (i j : Nat), ∀ p ∈ bkp one other i j, p.1 < i ∧ p.2 < j ∧ one.getD p.1 "" = other.getD p.2 ""
  | 0, j, p, h => by rw [bkp_0] at h; cases h
  | i + 1, 0, p, h => by rw [bkp_s0] at h; cases h
  | i + 1, j + 1, p, h => by
    rw [bkp_ss] at h
    by_cases he : one.getD i "" = other.getD j ""
    · rw [if_pos he] at h
      rcases List.mem_cons.mp h with z | z
      · rw [z]
        exact ⟨Nat.lt_succ_self _, Nat.lt_succ_self _, he⟩
      · obtain ⟨h1, h2, h3⟩ := bkp_mem i j p z
        exact ⟨by omega, by omega, h3⟩
    · rw [if_neg he] at h
      split at h
      · obtain ⟨h1, h2, h3⟩ := bkp_mem (i + 1) j p h
        exact ⟨by omega, by omega, h3⟩
      · obtain ⟨h1, h2, h3⟩ := bkp_mem i (j + 1) p h
        exact ⟨by omega, by omega, h3⟩
termination_by i j => i + j
theorem bkp_down : ∀ (i j : Nat), (bkp one other i j).Pairwise fun p q => q.1 < p.1 ∧ q.2 < p.2
  | 0, j => by rw [bkp_0]; exact .nil
  | i + 1, 0 => by rw [bkp_s0]; exact .nil
  | i + 1, j + 1 => by
    rw [bkp_ss]
    by_cases he : one.getD i "" = other.getD j ""
    · rw [if_pos he]
      exact List.pairwise_cons.mpr ⟨fun q hq => let h := bkp_mem one other i j q hq; ⟨h.1, h.2.1⟩, bkp_down i j⟩
    · rw [if_neg he]
      split
      · exact bkp_down (i + 1) j
      · exact bkp_down i (j + 1)
termination_by i j => i + j
theorem bkp_split : ∀ (i j a b : Nat), (a, b) ∈ bkp one other i j → ∃ pre, bkp one other i j = pre ++ (a, b) :: bkp one other a b
  | 0, j, a, b, h => by rw [bkp_0] at h; cases h
  | i + 1, 0, a, b, h => by rw [bkp_s0] at h; cases h
  | i + 1, j + 1, a, b, h => by
    rw [bkp_ss] at h ⊢
    by_cases he : one.getD i "" = other.getD j ""
    · rw [if_pos he] at h ⊢
      rcases List.mem_cons.mp h with z | z
      · cases z
        exact ⟨[], rfl⟩
      · obtain ⟨pre, e⟩ := bkp_split i j a b z
        exact ⟨(i, j) :: pre, by rw [e]; rfl⟩
    · rw [if_neg he] at h ⊢
      split at h
      · rename_i hl
        rw [if_pos hl]
        exact bkp_split (i + 1) j a b h
      · rename_i hl
        rw [if_neg hl]
        exact bkp_split i (j + 1) a b h
termination_by i j => i + j
/-- as long as the ends are alike they are kept -/
theorem bkp_greedy : ∀ (s i j : Nat), s ≤ i → s ≤ j → (∀ t, t < s → one.getD (i - 1 - t) "" = other.getD (j - 1 - t) "") → ∀ t, t < s → (i - 1 - t, j - 1 - t) ∈ bkp one other i j
  | 0, i, j, _, _, _, t, ht => by omega
  | s + 1, i, j, hi, hj, h, t, ht => by
    obtain ⟨i, rfl⟩ : ∃ i', i = i' + 1 := ⟨i - 1, by omega⟩
    obtain ⟨j, rfl⟩ : ∃ j', j = j' + 1 := ⟨j - 1, by omega⟩
    have h0 := h 0 (by omega)
    simp only [Nat.add_sub_cancel, Nat.sub_zero] at h0
    rw [bkp_ss, if_pos h0]
    cases t with
    | zero =>
      simp only [Nat.add_sub_cancel, Nat.sub_zero]
      exact List.mem_cons_self ..
    | succ t =>
      refine List.mem_cons_of_mem _ ?_
      have := bkp_greedy s i j (by omega) (by omega) (fun u hu => by
        have := h (u + 1) (by omega)
        rw [show i + 1 - 1 - (u + 1) = i - 1 - u by omega, show j + 1 - 1 - (u + 1) = j - 1 - u by omega] at this
        exact this) t (by omega)
      rw [show i + 1 - 1 - (t + 1) = i - 1 - t by omega, show j + 1 - 1 - (t + 1) = j - 1 - t by omega]
      exact this
end
/-! ### the patch -/
def gsf (one other : List Str) : List (Str × List Str) := jn (pt one other)
def kep (one other : List Str) : List (Nat × Nat) := kg (gsf one other)
section
variable {one other : List Str}
theorem pt_src : esrc (pt one other) = one := by
  unfold pt
  rw [srt_src, (btr_ok one other _ _ (Nat.le_refl _) (Nat.le_refl _)).1, List.take_length]
theorem pt_dst : edst (pt one other) = other := by
  unfold pt
  rw [srt_dst, (btr_ok one other _ _ (Nat.le_refl _) (Nat.le_refl _)).2.1, List.take_length]
theorem gsf_src : srcG (gsf one other) = one := ((jnA_ok (pt one other)).s).trans pt_src
theorem gsf_dst : dstG (gsf one other) = other := ((jnA_ok (pt one other)).d).trans pt_dst
theorem gsf_cst : cst (gsf one other) = dd one other one.length other.length := by
  refine ((jnA_ok (pt one other)).c).trans ?_
  unfold pt
  rw [srt_cst, (btr_ok one other _ _ (Nat.le_refl _) (Nat.le_refl _)).2.2.1]
theorem kep_eq : kep one other = (bkp one other one.length other.length).reverse := by
  have h := (jnA_ok (pt one other)).k
  have : kep one other = ekp 0 0 (pt one other) := by
    unfold kep kg gsf jn
    rw [h]
  rw [this]
  unfold pt
  rw [srt_kp, ekp_btr one other _ _ (Nat.le_refl _) (Nat.le_refl _)]
theorem srt_len (ws : List Ed) : (srt ws).length = ws.length := by
  have := srtA_len ws ws.length (Nat.le_refl _)
  rw [List.take_length] at this
  unfold srt
  rw [List.length_append, this]
theorem pt_len : (pt one other).length ≤ one.length + other.length := by
  unfold pt
  rw [srt_len, List.length_reverse]
  exact btr_len one other _ _
theorem gsf_tot : tot (gsf one other) ≤ one.length + other.length := by
  have := (jnA_ok (pt one other)).t
  have h2 := pt_len (one := one) (other := other)
  unfold gsf jn
  omega
theorem pt_mem : ∀ e ∈ pt one other, e.s ∈ one ∨ e.s ∈ other := fun e he => by
  unfold pt at he
  exact (btr_ok one other _ _ (Nat.le_refl _) (Nat.le_refl _)).2.2.2 e (List.mem_reverse.mp (srt_mem _ e he))
theorem gsf_words (h1 : ∀ s ∈ one, s ∈ okW) (h2 : ∀ s ∈ other, s ∈ okW) : ∀ g ∈ gsf one other, ∀ s ∈ g.2, s ∈ okW := fun g hg s hs => by
  obtain ⟨e, he, rfl⟩ := (jnA_ok (pt one other)).mem g hg s hs
  exact (pt_mem e he).elim (h1 _) (h2 _)
theorem le_tot : ∀ {gs : List (Str × List Str)} {g : Str × List Str}, g ∈ gs → g.2.length ≤ tot gs := fun h => le_sum h
theorem srcG_len : ∀ gs : List (Str × List Str), (srcG gs).length ≤ tot gs
  | [] => Nat.le_refl 0
  | g :: r => by
    have ih := srcG_len r
    have h1 : (sG g).length ≤ g.2.length := by unfold sG; split <;> simp
    show (sG g ++ srcG r).length ≤ g.2.length + tot r
    rw [List.length_append]
    omega
theorem mem_len {gs : List (Str × List Str)} {g : Str × List Str} (hw : wOk gs) (hg : g ∈ gs) : g.2.length ≤ (srcG gs).length ∨ g.2.length ≤ (dstG gs).length := by
  obtain ⟨a, b, rfl⟩ := List.append_of_mem hg
  rcases hw g hg with z | z | z
  · left
    rw [srcG_app]
    have : srcG (g :: b) = g.2 ++ srcG b := by
      show sG g ++ srcG b = _
      congr 1
      unfold sG
      rw [if_neg (by rw [z]; decide)]
    rw [this, List.length_append, List.length_append]
    omega
  · left
    rw [srcG_app]
    have : srcG (g :: b) = g.2 ++ srcG b := by
      show sG g ++ srcG b = _
      congr 1
      unfold sG
      rw [if_neg (by rw [z]; decide)]
    rw [this, List.length_append, List.length_append]
    omega
  · right
    rw [dstG_app]
    have : dstG (g :: b) = g.2 ++ dstG b := by
      show dG g ++ dstG b = _
      congr 1
      unfold dG
      rw [if_neg (by rw [z]; decide)]
    rw [this, List.length_append, List.length_append]
    omega
theorem gsf_ok (h1 : Lns one) (h2 : Lns other) : PatOk (gsf one other) := by
  have J := jnA_ok (pt one other)
  refine ⟨J.w, fun g hg => ⟨J.ne g hg, ?_, gsf_words h1.2 h2.2 g hg⟩, fun i a b ha hb => Ch_get (R := fun a b : Str × List Str => a.1 ≠ b.1 ∧ ¬ (b.1 = "drop" ∧ a.1 = "put")) (J.a (srt_npd _)) ha hb⟩
  rcases mem_len J.w hg with z | z
  · have : (srcG (jnC (jnA (pt one other)))).length = one.length := congrArg List.length gsf_src
    have := h1.1
    omega
  · have : (dstG (jnC (jnA (pt one other)))).length = other.length := congrArg List.length gsf_dst
    have := h2.1
    omega
theorem gsf_len : (gsf one other).length ≤ one.length + other.length := by
  have h := sum_ge (l := gsf one other) fun g hg => by
    have := (jnA_ok (pt one other)).ne g hg
    cases q : g.2 with
    | nil => exact absurd q this
    | cons x r => simp
  have := gsf_tot (one := one) (other := other)
  unfold tot at this
  omega
/-! ### what is kept -/
theorem kep_rise2 : (kep one other).Pairwise fun p q => p.1 < q.1 ∧ p.2 < q.2 := by
  rw [kep_eq, List.pairwise_reverse]
  exact bkp_down one other _ _
theorem kep_rise : Rise (kep one other) := by
  unfold Rise
  rw [List.pairwise_map]
  exact kep_rise2.imp fun h => h.1
theorem kep_mem {p : Nat × Nat} (h : p ∈ kep one other) : p.1 < one.length ∧ p.2 < other.length ∧ one.getD p.1 "" = other.getD p.2 "" := by
  rw [kep_eq, List.mem_reverse] at h
  exact bkp_mem one other _ _ p h
theorem lk_in : ∀ {h : List (Nat × Nat)} {a b : Nat}, lk h a = some b → (a, b) ∈ h
  | (x, y) :: r, a, b, e => by
    rw [lk] at e
    by_cases q : x = a
    · rw [if_pos q] at e
      cases e
      rw [q]
      exact List.mem_cons_self ..
    · rw [if_neg q] at e
      exact List.mem_cons_of_mem _ (lk_in e)
theorem kep_lk {a b : Nat} : lk (kep one other) a = some b ↔ (a, b) ∈ kep one other := ⟨lk_in, fun h => lk_mem kep_rise h⟩
theorem kep_fact {a b : Nat} (h : lk (kep one other) a = some b) : a < one.length ∧ b < other.length ∧ one.getD a "" = other.getD b "" := kep_mem (kep_lk.mp h)
theorem pair_lt {h : List (Nat × Nat)} (hp : h.Pairwise fun p q => p.1 < q.1 ∧ p.2 < q.2) {p q : Nat × Nat} (h1 : p ∈ h) (h2 : q ∈ h) (hl : p.1 < q.1) : p.2 < q.2 := by
  induction h with
  | nil => cases h1
  | cons x r ih =>
    obtain ⟨hx, hr⟩ := List.pairwise_cons.mp hp
    rcases List.mem_cons.mp h1 with z1 | z1
    · rcases List.mem_cons.mp h2 with z2 | z2
      · rw [z1, z2] at hl
        omega
      · rw [z1]
        exact (hx q z2).2
    · rcases List.mem_cons.mp h2 with z2 | z2
      · have := (hx p z1).1
        rw [z2] at hl
        omega
      · exact ih hr z1 z2
theorem kep_mono {a b a' b' : Nat} (h1 : lk (kep one other) a = some b) (h2 : lk (kep one other) a' = some b') (hl : a < a') : b < b' := pair_lt kep_rise2 (kep_lk.mp h1) (kep_lk.mp h2) hl
/-- ahead of a kept place, or of the ends, what is alike is kept -/
theorem kep_back {a b s : Nat} (h : lk (kep one other) a = some b ∨ a = one.length ∧ b = other.length) (ha : s ≤ a) (hb : s ≤ b) (he : ∀ t, t < s → one.getD (a - 1 - t) "" = other.getD (b - 1 - t) "") : ∀ t, t < s → lk (kep one other) (a - 1 - t) = some (b - 1 - t) := fun t ht => by
  rw [kep_lk, kep_eq, List.mem_reverse]
  have g := bkp_greedy one other s a b ha hb he t ht
  rcases h with h | ⟨rfl, rfl⟩
  · rw [kep_lk, kep_eq, List.mem_reverse] at h
    obtain ⟨pre, e⟩ := bkp_split one other _ _ a b h
    rw [e]
    exact List.mem_append_right _ (List.mem_cons_of_mem _ g)
  · exact g
theorem kep_len : (kep one other).length ≤ one.length := by
  have key : ∀ (h : List (Nat × Nat)) (lo hi : Nat), (∀ p ∈ h, lo ≤ p.1 ∧ p.1 < hi) → (h.Pairwise fun p q => p.1 < q.1 ∧ p.2 < q.2) → lo ≤ hi → h.length ≤ hi - lo := by
    intro h
    induction h with
    | nil => intro lo hi _ _ _; exact Nat.zero_le _
    | cons x r ih =>
      intro lo hi h1 h2 h3
      obtain ⟨hx, hr⟩ := List.pairwise_cons.mp h2
      have := h1 x (List.mem_cons_self ..)
      have := ih (x.1 + 1) hi (fun p hp => ⟨(hx p hp).1, (h1 p (List.mem_cons_of_mem _ hp)).2⟩) hr (by omega)
      rw [List.length_cons]
      omega
  have := key (kep one other) 0 one.length (fun p hp => ⟨Nat.zero_le _, (kep_mem hp).1⟩) kep_rise2 (Nat.zero_le _)
  omega
end
end K84

set_option Elab.async false
set_option linter.all false
set_option pp.maxSteps 300
set_option maxRecDepth 100000
set_option maxHeartbeats 2000000
/-! M1: k82, the walk: is_integer, rows of lines, of any thing -/
namespace K84
open PySem PySem.Spec PyProof.Rows L2 DL
def isI : D → Bool
  | .int _ => true
  | _ => false
theorem atI_str {l : List Str} {i : Nat} {z : Int} (e : z = (i : Int)) (h : i < l.length) : atI (l.map D.str) z = some (.str (l.getD i "")) := by
  rw [getD_eq h]
  exact atI_map e h
theorem bl_eq {b : Bool} {p : Prop} [Decidable p] (h : b = true ↔ p) : b = decide p := by
  by_cases q : p
  · rw [decide_eq_true q]
    exact h.mpr q
  · rw [decide_eq_false q]
    cases b with
    | false => rfl
    | true => exact absurd (h.mp rfl) q
theorem tup_no {x : D} (h : ∀ l, x ≠ .tup l) : ∃ t, tyD (.im x) = t ∧ t ≠ "" ∧ kitB t "tuple" = some false := by
  cases x with
  | int n => exact ⟨"int", rfl, by decide, by decide +kernel⟩
  | bl n => exact ⟨"bool", rfl, by decide, by decide +kernel⟩
  | non => exact ⟨"NoneType", rfl, by decide, by decide +kernel⟩
  | str n => exact ⟨"str", rfl, by decide, by decide +kernel⟩
  | tup n => exact absurd rfl (h n)
  | lst n => exact ⟨"list", rfl, by decide, by decide +kernel⟩
  | dct ks n => exact ⟨"dict", rfl, by decide, by decide +kernel⟩
theorem take_all {l : List D} {p : D → Bool} {i : Nat} (h : i < l.length) (h1 : (l.take i).all p = true) (h2 : p l[i] = true) : (l.take (i + 1)).all p = true := by
  rw [take_next h, List.all_append, h1]
  simp [h2]
theorem all_no {l : List D} {p : D → Bool} {i : Nat} (h : i < l.length) (h2 : p l[i] = false) : l.all p = false := by
  cases e : l.all p with
  | false => rfl
  | true =>
    have := List.all_eq_true.mp e l[i] (List.getElem_mem h)
    rw [h2] at this
    cases this
/-- no line feed -/
def nlB (s : Str) : Bool := (Builtin.Str.occurrences s "\n" 0 s.length 1).isEmpty
def lineB : D → Bool
  | .str s => nlB s
  | _ => false
/-- whether a thing is a row of lines -/
def alB : D → Bool
  | .tup l => decide (l.length ≤ 200) && l.all lineB
  | _ => false
section
variable {P : Program} {w : World} {K : PySem.W.Frag} {mg : Str → Option Value} {base : Heap} {f : Addr} {fd : FuncData} {k : Nat}
abbrev sIntP : Stmt := topS 6
theorem scIntP : FnScope ["thing"] ["thing"] (defScope sIntP) := ⟨rfl, rfl, rfl, by decide +kernel, rfl, by decide +kernel, by decide +kernel⟩
theorem ok_intP (m : M mg) {x : D} (d : Df K mg "is_integer" sIntP ["thing"]) : Fn P w K mg base (k + 1) "is_integer" [x] (.im (.bl (isI x))) := by
  refine fn_mk d scIntP rfl (by simp) rfl fun f cdv A outer s H E c hr => ?_
  show WPs _ _ _ [.im x] _
  refine wps_cons <| wst_ret <| wp_and <| wp_isi m.isi m.int PyProof.Rows.boot_int <| wp_name 0 rfl rfl ?_
  cases x with
  | int n => exact ⟨"int", true, rfl, by decide, by decide +kernel, true, rfl, fun _ => wp_one <| wp_not <| wp_isi m.isi m.bool PyProof.Rows.boot_bool <| wp_name 0 rfl rfl <| ⟨"int", false, rfl, by decide, by decide +kernel, false, rfl, rfl⟩, fun z => absurd z (by decide)⟩
  | bl n => exact ⟨"bool", true, rfl, by decide, by decide +kernel, true, rfl, fun _ => wp_one <| wp_not <| wp_isi m.isi m.bool PyProof.Rows.boot_bool <| wp_name 0 rfl rfl <| ⟨"bool", true, rfl, by decide, by decide +kernel, true, rfl, rfl⟩, fun z => absurd z (by decide)⟩
  | non => exact ⟨"NoneType", false, rfl, by decide, by decide +kernel, false, rfl, fun z => absurd z (by decide), fun _ => rfl⟩
  | str n => exact ⟨"str", false, rfl, by decide, by decide +kernel, false, rfl, fun z => absurd z (by decide), fun _ => rfl⟩
  | tup n => exact ⟨"tuple", false, rfl, by decide, by decide +kernel, false, rfl, fun z => absurd z (by decide), fun _ => rfl⟩
  | lst n => exact ⟨"list", false, rfl, by decide, by decide +kernel, false, rfl, fun z => absurd z (by decide), fun _ => rfl⟩
  | dct ks n => exact ⟨"dict", false, rfl, by decide, by decide +kernel, false, rfl, fun z => absurd z (by decide), fun _ => rfl⟩
theorem ok_isIntD (m : M mg) {x : D} (d : Df K mg "_law_is_int" sIsInt ["thing"]) : Fn P w K mg base (k + 1) "_law_is_int" [x] (.im (.bl (isI x))) := by
  refine fn_mk d scIsInt rfl (by simp) rfl fun f cdv A outer s H E c hr => ?_
  show WPs _ _ _ [.im x] _
  refine wps_cons <| wst_ret <| wp_and <| wp_isi m.isi m.int PyProof.Rows.boot_int <| wp_name 0 rfl rfl ?_
  cases x with
  | int n => exact ⟨"int", true, rfl, by decide, by decide +kernel, true, rfl, fun _ => wp_one <| wp_not <| wp_isi m.isi m.bool PyProof.Rows.boot_bool <| wp_name 0 rfl rfl <| ⟨"int", false, rfl, by decide, by decide +kernel, false, rfl, rfl⟩, fun z => absurd z (by decide)⟩
  | bl n => exact ⟨"bool", true, rfl, by decide, by decide +kernel, true, rfl, fun _ => wp_one <| wp_not <| wp_isi m.isi m.bool PyProof.Rows.boot_bool <| wp_name 0 rfl rfl <| ⟨"bool", true, rfl, by decide, by decide +kernel, true, rfl, rfl⟩, fun z => absurd z (by decide)⟩
  | non => exact ⟨"NoneType", false, rfl, by decide, by decide +kernel, false, rfl, fun z => absurd z (by decide), fun _ => rfl⟩
  | str n => exact ⟨"str", false, rfl, by decide, by decide +kernel, false, rfl, fun z => absurd z (by decide), fun _ => rfl⟩
  | tup n => exact ⟨"tuple", false, rfl, by decide, by decide +kernel, false, rfl, fun z => absurd z (by decide), fun _ => rfl⟩
  | lst n => exact ⟨"list", false, rfl, by decide, by decide +kernel, false, rfl, fun z => absurd z (by decide), fun _ => rfl⟩
  | dct ks n => exact ⟨"dict", false, rfl, by decide, by decide +kernel, false, rfl, fun z => absurd z (by decide), fun _ => rfl⟩
theorem ok_AreG (m : M mg) {x : D} (d : Df K mg "are_lines" sAre ["thing"]) : Fn P w K mg base (k + 1) "are_lines" [x] (.im (.bl (alB x))) := by
  refine fn_mk d scAre rfl (by simp) rfl fun f cdv A outer s H E c hr => ?_
  have nd := scAre.nd
  obtain ⟨tm, hM⟩ := m.most
  show WPs _ _ _ [.im x, .any] _
  by_cases ht : ∃ l, x = .tup l
  case neg =>
    obtain ⟨t, e1, e2, e3⟩ := tup_no (x := x) fun l e => ht ⟨l, e⟩
    have e0 : alB x = false := by
      cases x with
      | tup l => exact absurd ⟨l, rfl⟩ ht
      | _ => rfl
    exact wps_cons <| wst_if <| wpt_or2 (x := true) (y := true) (wpt_not <| wpt_val <| wp_isi m.isi m.tup PyProof.Rows.boot_tuple <| wp_name 0 rfl rfl <| ⟨t, false, e1, e2, e3, false, rfl, rfl⟩) (fun z => absurd z (by decide)) ⟨fun _ => wps_cons <| wst_ret <| wp_bl (by rw [e0]), fun z => absurd z (by decide)⟩
  obtain ⟨l, rfl⟩ := ht
  refine wps_cons <| wst_if <| wpt_or2 (x := false) (y := decide ((200 : Int) < (l.length : Nat))) (wpt_not <| wpt_val <| wp_isi m.isi m.tup PyProof.Rows.boot_tuple <| wp_name 0 rfl rfl <| ⟨"tuple", true, rfl, by decide, by decide +kernel, true, rfl, rfl⟩)
    (fun _ => wpt_cmp <| wp_callB m.len PySem.boot_len <| wpa_cons <| wp_name 0 rfl rfl <| wpa_nil <| cd_len rfl <| wp_gint rfl hM <| od_gt ⟨_, rfl, rfl⟩) ⟨fun hz => wps_cons <| wst_ret <| wp_bl ?_, fun hz => wps_nil ?_⟩
  · have hz : (200 : Int) < (l.length : Nat) := by simpa using hz
    show Sl.im _ = Sl.im _
    rw [show alB (.tup l) = (decide (l.length ≤ 200) && l.all lineB) from rfl, decide_eq_false (by omega)]
    rfl
  have hz : ¬ (200 : Int) < (l.length : Nat) := by simpa using hz
  refine wps_cons <| wst_ret <| wp_callB m.all PyProof.Rows.boot_all <| wpa_cons <| wp_lc (own := [("line", 1)]) (fun i acc => acc = (l.take i).map fun y => .bl (lineB y)) rfl nd (blk_of (N' := ["thing", "line"]) (sc' := defScope sAre) (by decide +kernel)) (by rfl) <| wpi_tup <| wp_name 0 rfl rfl <| ⟨_, rfl, rfl, fun F1 H1 i acc hi hj Y hY => ?_, fun acc hj => ?_⟩
  · obtain ⟨s', H', C, cl, fp, rfl⟩ := hY
    refine gtc_name 1 nd fun Y hY => ⟨fun _ Y hY => ?_, fun z => absurd z (by decide)⟩
    obtain ⟨s', H', C, cl, fp, rfl⟩ := hY
    have sz : acc.length < sizeLine := by
      rw [hj, List.length_map, List.length_take]
      exact Nat.lt_of_lt_of_le (show _ < 1000 by omega) (by decide)
    have nx : ∀ b, b = lineB l[i] → acc ++ [D.bl b] = (l.take (i + 1)).map fun y => .bl (lineB y) := fun b hb => by
      rw [hj, take_next hi, List.map_append, hb]
      rfl
    show WPe _ _ _ [.im (.tup l), .im (l.getD i .non)] _
    rw [show l.getD i .non = l[i] by simp [hi]]
    generalize l[i] = y at nx
    refine wp_and <| wp_isi m.isi m.str PyProof.Rows.boot_str <| wp_name 1 rfl rfl ?_
    cases y with
    | str t => exact ⟨"str", true, rfl, by decide, by decide +kernel, true, rfl, fun _ => wp_one <| wp_cmp <| wp_str <| wp_name 1 rfl rfl <| od_notInStr (z := nlB t) rfl ⟨_, rfl, sz, nx _ rfl⟩, fun z => absurd z (by decide)⟩
    | int t => exact ⟨"int", false, rfl, by decide, by decide +kernel, false, rfl, fun z => absurd z (by decide), fun _ => ⟨_, rfl, sz, nx _ rfl⟩⟩
    | bl t => exact ⟨"bool", false, rfl, by decide, by decide +kernel, false, rfl, fun z => absurd z (by decide), fun _ => ⟨_, rfl, sz, nx _ rfl⟩⟩
    | non => exact ⟨"NoneType", false, rfl, by decide, by decide +kernel, false, rfl, fun z => absurd z (by decide), fun _ => ⟨_, rfl, sz, nx _ rfl⟩⟩
    | tup t => exact ⟨"tuple", false, rfl, by decide, by decide +kernel, false, rfl, fun z => absurd z (by decide), fun _ => ⟨_, rfl, sz, nx _ rfl⟩⟩
    | lst t => exact ⟨"list", false, rfl, by decide, by decide +kernel, false, rfl, fun z => absurd z (by decide), fun _ => ⟨_, rfl, sz, nx _ rfl⟩⟩
    | dct ks t => exact ⟨"dict", false, rfl, by decide, by decide +kernel, false, rfl, fun z => absurd z (by decide), fun _ => ⟨_, rfl, sz, nx _ rfl⟩⟩
  · refine wpa_nil (cd_all (bs := l.map lineB) rfl ?_ ?_)
    · rw [hj, List.take_length, List.map_map]
      rfl
    · show Sl.im _ = Sl.im _
      rw [show alB (.tup l) = (decide (l.length ≤ 200) && l.all lineB) from rfl, decide_eq_true (show l.length ≤ 200 by omega), List.all_map]
      rfl
theorem ok_LAreG (m : M mg) {x : D} (d : Df K mg "_law_are_lines" sLAre ["thing"]) : Fn P w K mg base (k + 1) "_law_are_lines" [x] (.im (.bl (alB x))) := by
  refine fn_mk d scLAre rfl (by simp) rfl fun f cdv A outer s H E c hr => ?_
  have nd := scLAre.nd
  show WPs _ _ _ [.im x, .any] _
  by_cases ht : ∃ l, x = .tup l
  case neg =>
    obtain ⟨t, e1, e2, e3⟩ := tup_no (x := x) fun l e => ht ⟨l, e⟩
    have e0 : alB x = false := by
      cases x with
      | tup l => exact absurd ⟨l, rfl⟩ ht
      | _ => rfl
    exact wps_cons <| wst_if <| wpt_or2 (x := true) (y := true) (wpt_not <| wpt_val <| wp_isi m.isi m.tup PyProof.Rows.boot_tuple <| wp_name 0 rfl rfl <| ⟨t, false, e1, e2, e3, false, rfl, rfl⟩) (fun z => absurd z (by decide)) ⟨fun _ => wps_cons <| wst_ret <| wp_bl (by rw [e0]), fun z => absurd z (by decide)⟩
  obtain ⟨l, rfl⟩ := ht
  refine wps_cons <| wst_if <| wpt_or2 (x := false) (y := decide ((200 : Int) < (l.length : Nat))) (wpt_not <| wpt_val <| wp_isi m.isi m.tup PyProof.Rows.boot_tuple <| wp_name 0 rfl rfl <| ⟨"tuple", true, rfl, by decide, by decide +kernel, true, rfl, rfl⟩)
    (fun _ => wpt_cmp <| wp_callB m.len PySem.boot_len <| wpa_cons <| wp_name 0 rfl rfl <| wpa_nil <| cd_len rfl <| wp_int <| od_gt ⟨_, rfl, rfl⟩) ⟨fun hz => wps_cons <| wst_ret <| wp_bl ?_, fun hz => wps_nil ?_⟩
  · have hz : (200 : Int) < (l.length : Nat) := by simpa using hz
    show Sl.im _ = Sl.im _
    rw [show alB (.tup l) = (decide (l.length ≤ 200) && l.all lineB) from rfl, decide_eq_false (by omega)]
    rfl
  have hz : ¬ (200 : Int) < (l.length : Nat) := by simpa using hz
  refine wps_cons <| wst_ret <| wp_callB m.all PyProof.Rows.boot_all <| wpa_cons <| wp_lc (own := [("line", 1)]) (fun i acc => acc = (l.take i).map fun y => .bl (lineB y)) rfl nd (blk_of (N' := ["thing", "line"]) (sc' := defScope sLAre) (by decide +kernel)) (by rfl) <| wpi_tup <| wp_name 0 rfl rfl <| ⟨_, rfl, rfl, fun F1 H1 i acc hi hj Y hY => ?_, fun acc hj => ?_⟩
  · obtain ⟨s', H', C, cl, fp, rfl⟩ := hY
    refine gtc_name 1 nd fun Y hY => ⟨fun _ Y hY => ?_, fun z => absurd z (by decide)⟩
    obtain ⟨s', H', C, cl, fp, rfl⟩ := hY
    have sz : acc.length < sizeLine := by
      rw [hj, List.length_map, List.length_take]
      exact Nat.lt_of_lt_of_le (show _ < 1000 by omega) (by decide)
    have nx : ∀ b, b = lineB l[i] → acc ++ [D.bl b] = (l.take (i + 1)).map fun y => .bl (lineB y) := fun b hb => by
      rw [hj, take_next hi, List.map_append, hb]
      rfl
    show WPe _ _ _ [.im (.tup l), .im (l.getD i .non)] _
    rw [show l.getD i .non = l[i] by simp [hi]]
    generalize l[i] = y at nx
    refine wp_and <| wp_isi m.isi m.str PyProof.Rows.boot_str <| wp_name 1 rfl rfl ?_
    cases y with
    | str t => exact ⟨"str", true, rfl, by decide, by decide +kernel, true, rfl, fun _ => wp_one <| wp_cmp <| wp_str <| wp_name 1 rfl rfl <| od_notInStr (z := nlB t) rfl ⟨_, rfl, sz, nx _ rfl⟩, fun z => absurd z (by decide)⟩
    | int t => exact ⟨"int", false, rfl, by decide, by decide +kernel, false, rfl, fun z => absurd z (by decide), fun _ => ⟨_, rfl, sz, nx _ rfl⟩⟩
    | bl t => exact ⟨"bool", false, rfl, by decide, by decide +kernel, false, rfl, fun z => absurd z (by decide), fun _ => ⟨_, rfl, sz, nx _ rfl⟩⟩
    | non => exact ⟨"NoneType", false, rfl, by decide, by decide +kernel, false, rfl, fun z => absurd z (by decide), fun _ => ⟨_, rfl, sz, nx _ rfl⟩⟩
    | tup t => exact ⟨"tuple", false, rfl, by decide, by decide +kernel, false, rfl, fun z => absurd z (by decide), fun _ => ⟨_, rfl, sz, nx _ rfl⟩⟩
    | lst t => exact ⟨"list", false, rfl, by decide, by decide +kernel, false, rfl, fun z => absurd z (by decide), fun _ => ⟨_, rfl, sz, nx _ rfl⟩⟩
    | dct ks t => exact ⟨"dict", false, rfl, by decide, by decide +kernel, false, rfl, fun z => absurd z (by decide), fun _ => ⟨_, rfl, sz, nx _ rfl⟩⟩
  · refine wpa_nil (cd_all (bs := l.map lineB) rfl ?_ ?_)
    · rw [hj, List.take_length, List.map_map]
      rfl
    · show Sl.im _ = Sl.im _
      rw [show alB (.tup l) = (decide (l.length ≤ 200) && l.all lineB) from rfl, decide_eq_true (show l.length ≤ 200 by omega), List.all_map]
      rfl
end
end K84

set_option Elab.async false
set_option linter.all false
set_option pp.maxSteps 300
set_option maxRecDepth 100000
set_option maxHeartbeats 2000000
/-! M2: k82, the walk: patches, of any thing -/
namespace K84
open PySem PySem.Spec PyProof.Rows L2 DL
def posI : D → Bool
  | .int n => decide (0 < n)
  | _ => false
def lenP : D → Bool
  | .tup l => decide (0 < l.length)
  | _ => false
/-- whether a thing is a step -/
def sB : D → Bool
  | .tup [.str w, p] => if w = "keep" then posI p else decide (w ∈ (["drop", "put"] : List Str)) && (alB p && lenP p)
  | _ => false
def wd : D → Str
  | .tup (.str w :: _) => w
  | _ => ""
def bad (a b : Str) : Bool := decide (a = b) || (decide (a = "put") && decide (b = "drop"))
def badAt (xs : List D) (i : Nat) : Bool := bad (wd (xs.getD i .non)) (wd (xs.getD (i + 1) .non))
def patL (xs : List D) : Bool := xs.all sB && decide (∀ i, i < xs.length - 1 → badAt xs i = false)
/-- whether a thing is a patch -/
def patB : D → Bool
  | .tup xs => patL xs
  | _ => false
theorem sB_two (w : Str) (p : D) : sB (.tup [.str w, p]) = if w = "keep" then posI p else decide (w ∈ (["drop", "put"] : List Str)) && (alB p && lenP p) := rfl
theorem str_no {x : D} (h : ∀ l, x ≠ .str l) : ∃ t, tyD (.im x) = t ∧ t ≠ "" ∧ kitB t "str" = some false := by
  cases x with
  | int n => exact ⟨"int", rfl, by decide, by decide +kernel⟩
  | bl n => exact ⟨"bool", rfl, by decide, by decide +kernel⟩
  | non => exact ⟨"NoneType", rfl, by decide, by decide +kernel⟩
  | str n => exact absurd rfl (h n)
  | tup n => exact ⟨"tuple", rfl, by decide, by decide +kernel⟩
  | lst n => exact ⟨"list", rfl, by decide, by decide +kernel⟩
  | dct ks n => exact ⟨"dict", rfl, by decide, by decide +kernel⟩
/-- a step's shape: no tuple; a tuple of another length; two things, the first no text; a word and a part -/
theorem step_cases (x : D) : ((∀ l, x ≠ .tup l) ∧ sB x = false) ∨ (∃ l, x = .tup l ∧ l.length ≠ 2 ∧ sB x = false) ∨ (∃ a b, x = .tup [a, b] ∧ (∀ s, a ≠ .str s) ∧ sB x = false) ∨ ∃ w p, x = .tup [.str w, p] := by
  cases x with
  | tup l =>
    match l with
    | [] => exact .inr (.inl ⟨_, rfl, by simp, rfl⟩)
    | [a] => exact .inr (.inl ⟨_, rfl, by simp, by cases a <;> rfl⟩)
    | a :: b :: c :: r => exact .inr (.inl ⟨_, rfl, by simp, by cases a <;> rfl⟩)
    | [a, b] =>
      cases a with
      | str w => exact .inr (.inr (.inr ⟨w, b, rfl⟩))
      | _ => exact .inr (.inr (.inl ⟨_, _, rfl, fun s z => by (cases z), rfl⟩))
  | _ => exact .inl ⟨fun l z => by (cases z), rfl⟩
theorem isI_cases (p : D) : (∃ n, p = .int n) ∨ (isI p = false ∧ posI p = false) := by
  cases p with
  | int n => exact .inl ⟨n, rfl⟩
  | _ => exact .inr ⟨rfl, rfl⟩
theorem alB_cases (p : D) : (∃ l, p = .tup l) ∨ alB p = false := by
  cases p with
  | tup l => exact .inl ⟨l, rfl⟩
  | _ => exact .inr rfl
section
variable {P : Program} {w : World} {K : PySem.W.Frag} {mg : Str → Option Value} {base : Heap} {f : Addr} {fd : FuncData} {k : Nat}
abbrev sStep : Stmt := topS 14
theorem scStep : FnScope ["thing"] ["thing"] (defScope sStep) := ⟨rfl, rfl, rfl, by decide +kernel, rfl, by decide +kernel, by decide +kernel⟩
theorem ok_stepG (m : M mg) {x : D} (Gi : ∀ y : D, Fn P w K mg base k "is_integer" [y] (.im (.bl (isI y)))) (Ga : ∀ y : D, Fn P w K mg base k "are_lines" [y] (.im (.bl (alB y)))) (d : Df K mg "is_step" sStep ["thing"]) :
    Fn P w K mg base (k + 1) "is_step" [x] (.im (.bl (sB x))) := by
  refine fn_mk d scStep rfl (by simp) rfl fun f cdv A outer s H E c hr => ?_
  have nd := scStep.nd
  obtain ⟨tk, hK⟩ := m.keep
  obtain ⟨td, hD⟩ := m.drop
  obtain ⟨tp, hP⟩ := m.put
  show WPs _ _ _ [.im x] _
  rcases step_cases x with ⟨h, e0⟩ | ⟨l, rfl, h, e0⟩ | ⟨a, b, rfl, h, e0⟩ | ⟨wd, p, rfl⟩
  · obtain ⟨t, e1, e2, e3⟩ := tup_no h
    exact wps_cons <| wst_if <| wpt_or3 (x := true) (y := true) (z := true) (wpt_not <| wpt_val <| wp_isi m.isi m.tup PyProof.Rows.boot_tuple <| wp_name 0 rfl rfl <| ⟨t, false, e1, e2, e3, false, rfl, rfl⟩) (fun z => absurd z (by decide)) (fun z => absurd z (by decide)) ⟨fun _ => wps_cons <| wst_ret <| wp_bl (by rw [e0]), fun z => absurd z (by decide)⟩
  · exact wps_cons <| wst_if <| wpt_or3 (x := false) (y := true) (z := true) (wpt_not <| wpt_val <| wp_isi m.isi m.tup PyProof.Rows.boot_tuple <| wp_name 0 rfl rfl <| ⟨"tuple", true, rfl, by decide, by decide +kernel, true, rfl, rfl⟩)
      (fun _ => wpt_cmp <| wp_callB m.len PySem.boot_len <| wpa_cons <| wp_name 0 rfl rfl <| wpa_nil <| cd_len rfl <| wp_int <| od_neI ⟨_, rfl, by rw [decide_eq_false (by omega)]; rfl⟩) (fun _ z => absurd z (by decide)) ⟨fun _ => wps_cons <| wst_ret <| wp_bl (by rw [e0]), fun z => absurd z (by decide)⟩
  · obtain ⟨t, e1, e2, e3⟩ := str_no h
    exact wps_cons <| wst_if <| wpt_or3 (x := false) (y := false) (z := true) (wpt_not <| wpt_val <| wp_isi m.isi m.tup PyProof.Rows.boot_tuple <| wp_name 0 rfl rfl <| ⟨"tuple", true, rfl, by decide, by decide +kernel, true, rfl, rfl⟩)
      (fun _ => wpt_cmp <| wp_callB m.len PySem.boot_len <| wpa_cons <| wp_name 0 rfl rfl <| wpa_nil <| cd_len rfl <| wp_int <| od_neI ⟨_, rfl, rfl⟩)
      (fun _ _ => wpt_not <| wpt_val <| wp_isi m.isi m.str PyProof.Rows.boot_str <| wp_ix <| wp_name 0 rfl rfl <| wp_int <| xd_seq rfl rfl <| ⟨t, false, e1, e2, e3, false, rfl, rfl⟩) ⟨fun _ => wps_cons <| wst_ret <| wp_bl (by rw [e0]), fun z => absurd z (by decide)⟩
  rw [sB_two]
  refine wps_cons <| wst_if <| wpt_or3 (x := false) (y := false) (z := false) (wpt_not <| wpt_val <| wp_isi m.isi m.tup PyProof.Rows.boot_tuple <| wp_name 0 rfl rfl <| ⟨"tuple", true, rfl, by decide, by decide +kernel, true, rfl, rfl⟩)
    (fun _ => wpt_cmp <| wp_callB m.len PySem.boot_len <| wpa_cons <| wp_name 0 rfl rfl <| wpa_nil <| cd_len rfl <| wp_int <| od_neI ⟨_, rfl, rfl⟩)
    (fun _ _ => wpt_not <| wpt_val <| wp_isi m.isi m.str PyProof.Rows.boot_str <| wp_ix <| wp_name 0 rfl rfl <| wp_int <| xd_seq rfl rfl <| ⟨"str", true, rfl, by decide, by decide +kernel, true, rfl, rfl⟩) ⟨fun z => absurd z (by decide), fun _ => wps_nil ?_⟩
  refine wps_cons <| wst_if <| wpt_cmp <| wp_ix <| wp_name 0 rfl rfl <| wp_int <| xd_seq rfl rfl <| wp_gstr rfl hK <| od_eqS ⟨_, rfl, fun hx => ?_, fun hx => wps_nil ?_⟩
  · rw [if_pos (of_decide_eq_true hx)]
    refine wps_cons <| wst_ret <| wp_and <| wp_fn (Gi p) hr <| wpa_cons <| wp_ix <| wp_name 0 rfl rfl <| wp_int <| xd_seq rfl rfl <| wpa_nil ⟨rfl, isI p, rfl, fun hi => ?_, fun hi => ?_⟩
    · rcases isI_cases p with ⟨n, rfl⟩ | ⟨e, _⟩
      · exact wp_one <| wp_cmp <| wp_ix <| wp_name 0 rfl rfl <| wp_int <| xd_seq rfl rfl <| wp_int <| od_gt rfl
      · rw [e] at hi
        cases hi
    · rcases isI_cases p with ⟨n, rfl⟩ | ⟨_, e⟩
      · cases hi
      · rw [e]
  · rw [if_neg (of_decide_eq_false hx)]
    refine wps_cons <| wst_ret <| wp_and <| wp_cmp <| wp_ix <| wp_name 0 rfl rfl <| wp_int <| xd_seq rfl rfl <| wp_tup <| wpa_cons <| wp_gstr rfl hD <| wpa_cons <| wp_gstr rfl hP <| wpa_nil <| ⟨(["drop", "put"] : List Str).map D.str, rfl, Le rfl, od_inS (l := ["drop", "put"]) rfl ⟨_, rfl, fun hw => ?_, fun hw => ?_⟩⟩
    · rw [hw]
      refine wp_and <| wp_fn (Ga p) hr <| wpa_cons <| wp_ix <| wp_name 0 rfl rfl <| wp_int <| xd_seq rfl rfl <| wpa_nil ⟨rfl, alB p, rfl, fun ha => ?_, fun ha => ?_⟩
      · rcases alB_cases p with ⟨l, rfl⟩ | e
        · refine wp_one <| wp_cmp <| wp_callB m.len PySem.boot_len <| wpa_cons <| wp_ix <| wp_name 0 rfl rfl <| wp_int <| xd_seq rfl rfl <| wpa_nil <| cd_len rfl <| wp_int <| od_gt ?_
          show Sl.im _ = Sl.im _
          rw [ha]
          show Sl.im (.bl _) = Sl.im (.bl (decide (0 < l.length)))
          congr 2
          exact decide_eq_decide.mpr ⟨fun z => by omega, fun z => by omega⟩
        · rw [e] at ha
          cases ha
      · rw [ha]
        rfl
    · rw [hw]
      rfl
abbrev sPch : Stmt := topS 15
theorem scPch : FnScope ["thing", "step", "one", "other"] ["thing"] (defScope sPch) := ⟨rfl, rfl, rfl, by decide +kernel, rfl, by decide +kernel, by decide +kernel⟩
theorem sB_shape {x : D} (h : sB x = true) : ∃ p, x = .tup [.str (wd x), p] := by
  rcases step_cases x with ⟨_, e0⟩ | ⟨l, _, _, e0⟩ | ⟨a, b, _, _, e0⟩ | ⟨w, p, rfl⟩
  · rw [e0] at h; cases h
  · rw [e0] at h; cases h
  · rw [e0] at h; cases h
  · exact ⟨p, rfl⟩
theorem ok_pchG (m : M mg) {x : D} (hl : ∀ l, x = .tup l → l.length ≤ 900) (Gs : ∀ y : D, Fn P w K mg base k "is_step" [y] (.im (.bl (sB y)))) (d : Df K mg "is_patch" sPch ["thing"]) :
    Fn P w K mg base (k + 1) "is_patch" [x] (.im (.bl (patB x))) := by
  refine fn_mk d scPch rfl (by simp) rfl fun f cdv A outer s H E c hr => ?_
  have nd := scPch.nd
  obtain ⟨td, hD⟩ := m.drop
  obtain ⟨tp, hP⟩ := m.put
  show WPs _ _ _ [.im x, .any, .any, .any] _
  by_cases ht : ∃ l, x = .tup l
  case neg =>
    obtain ⟨t, e1, e2, e3⟩ := tup_no (x := x) fun l e => ht ⟨l, e⟩
    have e0 : patB x = false := by
      cases x with
      | tup l => exact absurd ⟨l, rfl⟩ ht
      | _ => rfl
    exact wps_cons <| wst_if <| wpt_or2 (x := true) (y := true) (wpt_not <| wpt_val <| wp_isi m.isi m.tup PyProof.Rows.boot_tuple <| wp_name 0 rfl rfl <| ⟨t, false, e1, e2, e3, false, rfl, rfl⟩) (fun z => absurd z (by decide)) ⟨fun _ => wps_cons <| wst_ret <| wp_bl (by rw [e0]), fun z => absurd z (by decide)⟩
  obtain ⟨xs, rfl⟩ := ht
  have hl := hl xs rfl
  show WPs _ _ _ [.im (.tup xs), .any, .any, .any] { nx := fun _ => Sl.im .non = Sl.im (.bl (patL xs)), rt := fun r => r = Sl.im (.bl (patL xs)) }
  refine wps_cons <| wst_if <| wpt_or2 (x := false) (y := !xs.all sB) (wpt_not <| wpt_val <| wp_isi m.isi m.tup PyProof.Rows.boot_tuple <| wp_name 0 rfl rfl <| ⟨"tuple", true, rfl, by decide, by decide +kernel, true, rfl, rfl⟩) (fun _ => ?_) ⟨fun hz => wps_cons <| wst_ret <| wp_bl ?_, fun hz => wps_nil ?_⟩
  · refine wpt_not <| wpt_val <| wp_callB m.all PyProof.Rows.boot_all <| wpa_cons <| wp_lc (own := [("step", 1)]) (fun i acc => acc = (xs.take i).map fun y => .bl (sB y)) rfl nd (blk_of (N' := ["thing", "step", "one", "other"]) (sc' := defScope sPch) (by decide +kernel)) (by rfl) <| wpi_tup <| wp_name 0 rfl rfl <| ⟨_, rfl, rfl, fun F1 H1 i acc hi hj Y hY => ?_, fun acc hj => ?_⟩
    · obtain ⟨s', H', C, cl, fp, rfl⟩ := hY
      refine gtc_name 1 nd fun Y hY => ⟨fun _ Y hY => ?_, fun z => absurd z (by decide)⟩
      obtain ⟨s', H', C, cl, fp, rfl⟩ := hY
      show WPe _ _ _ [.im (.tup xs), .im (xs.getD i .non), .any, .any] _
      rw [show xs.getD i .non = xs[i] by simp [hi]]
      refine wp_fn (Gs xs[i]) hr <| wpa_cons <| wp_name 1 rfl rfl <| wpa_nil ⟨rfl, _, rfl, ?_, ?_⟩
      · rw [hj, List.length_map, List.length_take]
        exact Nat.lt_of_lt_of_le (show _ < 1000 by omega) (by decide)
      · rw [hj, take_next hi, List.map_append]
        rfl
    · refine wpa_nil (cd_all (bs := xs.map sB) rfl ?_ ⟨_, rfl, ?_⟩)
      · rw [hj, List.take_length, List.map_map]
        rfl
      · rw [List.all_map]
        rfl
  · have hz : xs.all sB = false := by simpa using hz
    unfold patL
    rw [hz]
    rfl
  have hall : xs.all sB = true := by simpa using hz
  have sh : ∀ i, i < xs.length → ∃ p, xs.getD i .non = .tup [.str (wd (xs.getD i .non)), p] := fun i hi => by
    refine sB_shape ?_
    rw [show xs.getD i .non = xs[i] by simp [hi]]
    exact List.all_eq_true.mp hall _ (List.getElem_mem hi)
  have e0 : patL xs = decide (∀ i, i < xs.length - 1 → badAt xs i = false) := by
    unfold patL
    rw [hall]
    rfl
  have etl : cutD xs (some 1) none = xs.tail := by
    have e := cutD_map id xs (some 1) none
    rw [List.map_id, List.map_id, cut1] at e
    exact e
  refine wps_cons <| wst_for (fun i Γ => (∀ j, j < i → badAt xs j = false) ∧ ∃ s2 s3, Γ = [.im (.tup xs), .any, s2, s3]) <| wpi_zipT m.zip <| wpa_cons <| wp_name 0 rfl rfl <| wpa_cons <| wp_sliceT <| wp_name 0 rfl rfl <| ⟨_, rfl, wpo_some <| wp_int <| ⟨_, rfl, wpo_none <| wpa_nil ⟨xs, xs.tail, by rw [etl]; rfl, ⟨fun j z => absurd z (Nat.not_lt_zero _), _, _, rfl⟩, fun F1 i Γ' hi hj => ?_, fun Γ' hj => ?_⟩⟩⟩
  · obtain ⟨hp, s2, s3, rfl⟩ := hj
    rw [List.length_tail] at hi
    obtain ⟨a, ea⟩ := sh i (by omega)
    obtain ⟨b, eb⟩ := sh (i + 1) (by omega)
    have e2 : xs.tail.getD i .non = xs.getD (i + 1) .non := by simp [List.getD_eq_getElem?_getD]
    have hb : badAt xs i = bad (wd (xs.getD i .non)) (wd (xs.getD (i + 1) .non)) := rfl
    show GtD _ _ _ (.im (.tup [xs.getD i .non, xs.tail.getD i .non])) _ _
    rw [e2, ea, eb]
    generalize wd (xs.getD i .non) = w1 at hb
    generalize wd (xs.getD (i + 1) .non) = w2 at hb
    refine gt_tup2 2 3 rfl nd ?_
    show WPs _ _ _ [.im (.tup xs), .any, .im (.tup [.str w1, a]), .im (.tup [.str w2, b])] _
    refine wps_cons <| wst_if <| wpt_or2 (x := decide (w1 = w2)) (y := decide (w1 = "put") && decide (w2 = "drop")) (wpt_cmp <| wp_ix <| wp_name 2 rfl rfl <| wp_int <| xd_seq rfl rfl <| wp_ix <| wp_name 3 rfl rfl <| wp_int <| xd_seq rfl rfl <| od_eqS ⟨_, rfl, rfl⟩)
      (fun _ => wpt_and2 (wpt_cmp <| wp_ix <| wp_name 2 rfl rfl <| wp_int <| xd_seq rfl rfl <| wp_gstr rfl hP <| od_eqS ⟨_, rfl, rfl⟩) (fun _ => wpt_cmp <| wp_ix <| wp_name 3 rfl rfl <| wp_int <| xd_seq rfl rfl <| wp_gstr rfl hD <| od_eqS ⟨_, rfl, rfl⟩) rfl) ⟨fun hz => wps_cons <| wst_ret <| wp_bl ?_, fun hz => wps_nil (wps_nil ⟨fun j hj => ?_, _, _, rfl⟩)⟩
    · have hz : badAt xs i = true := hb.trans hz
      rw [e0, decide_eq_false]
      intro z
      rw [z i (by omega)] at hz
      cases hz
    · rcases Nat.lt_succ_iff_lt_or_eq.mp hj with z | z
      · exact hp j z
      · rw [z]
        exact hb.trans hz
  · obtain ⟨hp, s2, s3, rfl⟩ := hj
    refine wps_cons <| wst_ret <| wp_bl ?_
    rw [e0, decide_eq_true]
    intro i hi
    refine hp i ?_
    rw [List.length_tail]
    omega
abbrev sCpt : Stmt := topS 16
theorem scCpt : FnScope ["thing"] ["thing"] (defScope sCpt) := ⟨rfl, rfl, rfl, by decide +kernel, rfl, by decide +kernel, by decide +kernel⟩
theorem ok_cpt {gs : List (Str × List Str)} (G : Fn P w K mg base k "is_patch" [eP gs] (.im (.bl true))) (d : Df K mg "check_patch" sCpt ["thing"]) : Fn P w K mg base (k + 1) "check_patch" [eP gs] (.im .non) := by
  refine fn_mk d scCpt rfl (by simp) rfl fun f cdv A outer s H E c hr => ?_
  show WPs _ _ _ [.im (eP gs)] _
  exact wps_cons <| wst_if <| wpt_not <| wpt_val <| wp_fn G hr <| wpa_cons <| wp_name 0 rfl rfl <| wpa_nil ⟨rfl, true, rfl, fun z => absurd z (by decide), fun _ => wps_nil (wps_nil rfl)⟩
theorem ok_isPG (m : M mg) {x : D} (Gi : ∀ y : D, Fn P w K mg base k "_law_is_int" [y] (.im (.bl (isI y)))) (Ga : ∀ y : D, Fn P w K mg base k "_law_are_lines" [y] (.im (.bl (alB y)))) (d : Df K mg "_law_is_patch" sIsP ["thing"]) :
    Fn P w K mg base (k + 1) "_law_is_patch" [x] (.im (.bl (patB x))) := by
  refine fn_mk d scIsP rfl (by simp) rfl fun f cdv A outer s H E c hr => ?_
  have nd := scIsP.nd
  show WPs _ _ _ [.im x, .any, .any] _
  by_cases ht : ∃ l, x = .tup l
  case neg =>
    obtain ⟨t, e1, e2, e3⟩ := tup_no (x := x) fun l e => ht ⟨l, e⟩
    have e0 : patB x = false := by
      cases x with
      | tup l => exact absurd ⟨l, rfl⟩ ht
      | _ => rfl
    exact wps_cons <| wst_if <| wpt_not <| wpt_val <| wp_isi m.isi m.tup PyProof.Rows.boot_tuple <| wp_name 0 rfl rfl <| ⟨t, false, e1, e2, e3, false, rfl, fun _ => wps_cons <| wst_ret <| wp_bl (by rw [e0]), fun z => absurd z (by decide)⟩
  obtain ⟨xs, rfl⟩ := ht
  show WPs _ _ _ [.im (.tup xs), .any, .any] { nx := fun _ => Sl.im .non = Sl.im (.bl (patL xs)), rt := fun r => r = Sl.im (.bl (patL xs)) }
  refine wps_cons <| wst_if <| wpt_not <| wpt_val <| wp_isi m.isi m.tup PyProof.Rows.boot_tuple <| wp_name 0 rfl rfl <| ⟨"tuple", true, rfl, by decide, by decide +kernel, true, rfl, fun z => absurd z (by decide), fun _ => wps_nil ?_⟩
  refine wps_cons <| wst_set 1 nd <| wp_str ⟨rfl, ?_⟩
  refine wps_cons <| wst_for (fun i Γ => (xs.take i).all sB = true ∧ (∀ j, j < i - 1 → badAt xs j = false) ∧ ∃ s2, Γ = [.im (.tup xs), .im (.str (if i = 0 then "" else wd (xs.getD (i - 1) .non))), s2]) <| wpi_tup <| wp_name 0 rfl rfl <| ⟨_, rfl, ⟨rfl, fun j z => absurd z (Nat.not_lt_zero _), _, rfl⟩, fun F1 i Γ' hi hj => ?_, fun Γ' hj => ?_⟩
  · obtain ⟨hs, hb, s2, rfl⟩ := hj
    have ex : xs.getD i .non = xs[i] := by simp [hi]
    have no1 : sB xs[i] = false → Sl.im (.bl false) = Sl.im (.bl (patL xs)) := fun z => by
      unfold patL
      rw [all_no hi z]
      rfl
    have no2 : i ≠ 0 → badAt xs (i - 1) = true → Sl.im (.bl false) = Sl.im (.bl (patL xs)) := fun z z2 => by
      unfold patL
      rw [decide_eq_false, Bool.and_false]
      intro q
      rw [q (i - 1) (by omega)] at z2
      cases z2
    have go : sB xs[i] = true → (i ≠ 0 → badAt xs (i - 1) = false) → (xs.take (i + 1)).all sB = true ∧ ∀ j, j < i + 1 - 1 → badAt xs j = false := fun z z2 => by
      refine ⟨take_all hi hs z, fun j hj => ?_⟩
      by_cases e : j = i - 1
      · rw [e]
        exact z2 (by omega)
      · exact hb j (by omega)
    have ebad : i ≠ 0 → badAt xs (i - 1) = bad (wd (xs.getD (i - 1) .non)) (wd xs[i]) := fun z => by
      unfold badAt
      rw [Nat.sub_add_cancel (by omega), ex]
    have elast : i ≠ 0 → (if i = 0 then ("" : Str) else wd (xs.getD (i - 1) .non)) = wd (xs.getD (i - 1) .non) := fun z => if_neg z
    have elast0 : i = 0 → (if i = 0 then ("" : Str) else wd (xs.getD (i - 1) .non)) = "" := fun z => if_pos z
    have enext : (if i + 1 = 0 then ("" : Str) else wd (xs.getD (i + 1 - 1) .non)) = wd xs[i] := by
      rw [if_neg (by omega), Nat.add_sub_cancel, ex]
    rw [enext]
    generalize (if i = 0 then ("" : Str) else wd (xs.getD (i - 1) .non)) = lw at elast elast0
    show GtD _ _ _ (.im (xs.getD i .non)) _ _
    rw [ex]
    refine gt_name 2 rfl nd ?_
    generalize xs[i] = x at no1 go ebad
    show WPs _ _ _ [.im (.tup xs), .im (.str lw), .im x] _
    rcases step_cases x with ⟨h, e0⟩ | ⟨l, rfl, h, e0⟩ | ⟨a, b, rfl, h, e0⟩ | ⟨w0, p, rfl⟩
    · obtain ⟨t, e1, e2, e3⟩ := tup_no h
      exact wps_cons <| wst_if <| wpt_or3 (x := true) (y := true) (z := true) (wpt_not <| wpt_val <| wp_isi m.isi m.tup PyProof.Rows.boot_tuple <| wp_name 2 rfl rfl <| ⟨t, false, e1, e2, e3, false, rfl, rfl⟩) (fun z => absurd z (by decide)) (fun z => absurd z (by decide)) ⟨fun _ => wps_cons <| wst_ret <| wp_bl (no1 e0), fun z => absurd z (by decide)⟩
    · exact wps_cons <| wst_if <| wpt_or3 (x := false) (y := true) (z := true) (wpt_not <| wpt_val <| wp_isi m.isi m.tup PyProof.Rows.boot_tuple <| wp_name 2 rfl rfl <| ⟨"tuple", true, rfl, by decide, by decide +kernel, true, rfl, rfl⟩)
        (fun _ => wpt_cmp <| wp_callB m.len PySem.boot_len <| wpa_cons <| wp_name 2 rfl rfl <| wpa_nil <| cd_len rfl <| wp_int <| od_neI ⟨_, rfl, by rw [decide_eq_false (by omega)]; rfl⟩) (fun _ z => absurd z (by decide)) ⟨fun _ => wps_cons <| wst_ret <| wp_bl (no1 e0), fun z => absurd z (by decide)⟩
    · obtain ⟨t, e1, e2, e3⟩ := str_no h
      exact wps_cons <| wst_if <| wpt_or3 (x := false) (y := false) (z := true) (wpt_not <| wpt_val <| wp_isi m.isi m.tup PyProof.Rows.boot_tuple <| wp_name 2 rfl rfl <| ⟨"tuple", true, rfl, by decide, by decide +kernel, true, rfl, rfl⟩)
        (fun _ => wpt_cmp <| wp_callB m.len PySem.boot_len <| wpa_cons <| wp_name 2 rfl rfl <| wpa_nil <| cd_len rfl <| wp_int <| od_neI ⟨_, rfl, rfl⟩)
        (fun _ _ => wpt_not <| wpt_val <| wp_isi m.isi m.str PyProof.Rows.boot_str <| wp_ix <| wp_name 2 rfl rfl <| wp_int <| xd_seq rfl rfl <| ⟨t, false, e1, e2, e3, false, rfl, rfl⟩) ⟨fun _ => wps_cons <| wst_ret <| wp_bl (no1 e0), fun z => absurd z (by decide)⟩
    rw [sB_two] at no1 go
    have ew : wd (.tup [.str w0, p]) = w0 := rfl
    rw [ew] at ebad
    rw [ew]
    refine wps_cons <| wst_if <| wpt_or3 (x := false) (y := false) (z := false) (wpt_not <| wpt_val <| wp_isi m.isi m.tup PyProof.Rows.boot_tuple <| wp_name 2 rfl rfl <| ⟨"tuple", true, rfl, by decide, by decide +kernel, true, rfl, rfl⟩)
      (fun _ => wpt_cmp <| wp_callB m.len PySem.boot_len <| wpa_cons <| wp_name 2 rfl rfl <| wpa_nil <| cd_len rfl <| wp_int <| od_neI ⟨_, rfl, rfl⟩)
      (fun _ _ => wpt_not <| wpt_val <| wp_isi m.isi m.str PyProof.Rows.boot_str <| wp_ix <| wp_name 2 rfl rfl <| wp_int <| xd_seq rfl rfl <| ⟨"str", true, rfl, by decide, by decide +kernel, true, rfl, rfl⟩) ⟨fun z => absurd z (by decide), fun _ => wps_nil ?_⟩
    refine wps_cons <| wst_if <| wpt_or2 (x := !decide (w0 ∈ (["keep", "drop", "put"] : List Str))) (y := decide (w0 = lw)) (wpt_cmp <| wp_ix <| wp_name 2 rfl rfl <| wp_int <| xd_seq rfl rfl <| wp_tup <| wpa_cons <| wp_str <| wpa_cons <| wp_str <| wpa_cons <| wp_str <| wpa_nil <| ⟨(["keep", "drop", "put"] : List Str).map D.str, rfl, Le rfl, od_notInS (l := ["keep", "drop", "put"]) rfl ⟨_, rfl, rfl⟩⟩)
      (fun _ => wpt_cmp <| wp_ix <| wp_name 2 rfl rfl <| wp_int <| xd_seq rfl rfl <| wp_name 1 rfl rfl <| od_eqS ⟨_, rfl, rfl⟩) ⟨fun hz => wps_cons <| wst_ret <| wp_bl ?_, fun hz => wps_nil ?_⟩
    · by_cases hin : w0 ∈ (["keep", "drop", "put"] : List Str)
      · have e : w0 = lw := by
          rw [decide_eq_true hin] at hz
          simpa using hz
        have i0 : i ≠ 0 := fun z => by
          rw [e, elast0 z] at hin
          exact absurd hin (by decide)
        refine no2 i0 ?_
        rw [ebad i0, ← elast i0, ← e]
        unfold bad
        rw [decide_eq_true rfl]
        rfl
      · refine no1 ?_
        have n1 : w0 ≠ "keep" := fun z => hin (by rw [z]; decide)
        have n2 : ¬ w0 ∈ (["drop", "put"] : List Str) := fun z => hin (List.mem_cons_of_mem _ z)
        rw [if_neg n1, decide_eq_false n2]
        rfl
    have hin : w0 ∈ (["keep", "drop", "put"] : List Str) := by
      by_cases q : w0 ∈ (["keep", "drop", "put"] : List Str)
      · exact q
      · rw [decide_eq_false q] at hz
        simp at hz
    have hnl : w0 ≠ lw := by
      intro q
      rw [decide_eq_true q, Bool.or_true] at hz
      cases hz
    refine wps_cons <| wst_if <| wpt_and2 (x := decide (w0 = "drop")) (y := decide (lw = "put")) (wpt_cmp <| wp_ix <| wp_name 2 rfl rfl <| wp_int <| xd_seq rfl rfl <| wp_str <| od_eqS ⟨_, rfl, rfl⟩) (fun _ => wpt_cmp <| wp_name 1 rfl rfl <| wp_str <| od_eqS ⟨_, rfl, rfl⟩) ⟨fun hy => wps_cons <| wst_ret <| wp_bl ?_, fun hy => wps_nil ?_⟩
    · simp only [Bool.and_eq_true, decide_eq_true_eq] at hy
      have i0 : i ≠ 0 := fun z => by
        have := elast0 z
        rw [hy.2] at this
        exact absurd this (by decide)
      refine no2 i0 ?_
      rw [ebad i0, ← elast i0, hy.1, hy.2]
      decide
    have nb : i ≠ 0 → badAt xs (i - 1) = false := fun i0 => by
      rw [ebad i0, ← elast i0]
      unfold bad
      rw [decide_eq_false (fun e => hnl e.symm), Bool.false_or]
      rw [Bool.and_comm]
      exact hy
    have fin : sB (.tup [.str w0, p]) = true → _ := fun z => go z nb
    refine wps_seq (fun Γ => Γ = [.im (.tup xs), .im (.str lw), .im (.tup [.str w0, p])] ∧ (if w0 = "keep" then posI p else decide (w0 ∈ (["drop", "put"] : List Str)) && (alB p && lenP p)) = true) ?_ ?_
    · refine wst_if <| wpt_cmp <| wp_ix <| wp_name 2 rfl rfl <| wp_int <| xd_seq rfl rfl <| wp_str <| od_eqS ⟨_, rfl, fun hx => ?_, fun hx => ?_⟩
      · have hk : w0 = "keep" := of_decide_eq_true hx
        rw [if_pos hk] at no1 ⊢
        rcases isI_cases p with ⟨n, rfl⟩ | ⟨e1, e2⟩
        · refine wps_cons <| wst_if <| wpt_or2 (x := false) (y := decide (n < 1)) (wpt_not <| wpt_val <| wp_fn (Gi (.int n)) hr <| wpa_cons <| wp_ix <| wp_name 2 rfl rfl <| wp_int <| xd_seq rfl rfl <| wpa_nil ⟨rfl, true, rfl, rfl⟩)
            (fun _ => wpt_cmp <| wp_ix <| wp_name 2 rfl rfl <| wp_int <| xd_seq rfl rfl <| wp_int <| od_lt ⟨_, rfl, rfl⟩) ⟨fun hq => wps_cons <| wst_ret <| wp_bl (no1 ?_), fun hq => wps_nil (wps_nil ⟨rfl, ?_⟩)⟩
          · have : n < 1 := by simpa using hq
            exact decide_eq_false (by omega)
          · have : ¬ n < 1 := by simpa using hq
            exact decide_eq_true (by omega)
        · refine wps_cons <| wst_if <| wpt_or2 (x := true) (y := true) (wpt_not <| wpt_val <| wp_fn (Gi p) hr <| wpa_cons <| wp_ix <| wp_name 2 rfl rfl <| wp_int <| xd_seq rfl rfl <| wpa_nil ⟨rfl, _, rfl, by rw [e1]; rfl⟩) (fun z => absurd z (by decide)) ⟨fun _ => wps_cons <| wst_ret <| wp_bl (no1 e2), fun z => absurd z (by decide)⟩
      · have hk : ¬ w0 = "keep" := of_decide_eq_false hx
        have hdp : w0 ∈ (["drop", "put"] : List Str) := by
          rcases List.mem_cons.mp hin with z | z
          · exact absurd z hk
          · exact z
        rw [if_neg hk, decide_eq_true hdp] at no1 ⊢
        rw [Bool.true_and] at no1 ⊢
        cases ha : alB p with
        | false =>
          rw [ha] at no1
          exact wps_cons <| wst_if <| wpt_or2 (x := true) (y := true) (wpt_not <| wpt_val <| wp_fn (Ga p) hr <| wpa_cons <| wp_ix <| wp_name 2 rfl rfl <| wp_int <| xd_seq rfl rfl <| wpa_nil ⟨rfl, _, rfl, by rw [ha]; rfl⟩) (fun z => absurd z (by decide)) ⟨fun _ => wps_cons <| wst_ret <| wp_bl (no1 rfl), fun z => absurd z (by decide)⟩
        | true =>
          rcases alB_cases p with ⟨l, rfl⟩ | e
          · rw [ha] at no1
            refine wps_cons <| wst_if <| wpt_or2 (x := false) (y := decide ((l.length : Int) = 0)) (wpt_not <| wpt_val <| wp_fn (Ga (.tup l)) hr <| wpa_cons <| wp_ix <| wp_name 2 rfl rfl <| wp_int <| xd_seq rfl rfl <| wpa_nil ⟨rfl, _, rfl, by rw [ha]; rfl⟩)
              (fun _ => wpt_cmp <| wp_callB m.len PySem.boot_len <| wpa_cons <| wp_ix <| wp_name 2 rfl rfl <| wp_int <| xd_seq rfl rfl <| wpa_nil <| cd_len rfl <| wp_int <| od_eqI ⟨_, rfl, rfl⟩) ⟨fun hq => wps_cons <| wst_ret <| wp_bl (no1 ?_), fun hq => wps_nil (wps_nil ⟨rfl, ?_⟩)⟩
            · have : (l.length : Int) = 0 := by simpa using hq
              exact decide_eq_false (by omega)
            · have : ¬ (l.length : Int) = 0 := by simpa using hq
              exact decide_eq_true (by omega)
          · rw [ha] at e
            cases e
    · rintro Γ ⟨rfl, ok⟩
      obtain ⟨g1, g2⟩ := go ok nb
      exact wps_cons <| wst_set 1 nd <| wp_ix <| wp_name 2 rfl rfl <| wp_int <| xd_seq rfl rfl ⟨rfl, wps_nil ⟨g1, g2, _, rfl⟩⟩
  · obtain ⟨hs, hb, s2, rfl⟩ := hj
    rw [List.take_length] at hs
    refine wps_cons <| wst_ret <| wp_bl ?_
    unfold patL
    rw [hs, decide_eq_true hb]
    rfl
end
end K84

set_option Elab.async false
set_option linter.all false
set_option pp.maxSteps 300
set_option maxRecDepth 100000
set_option maxHeartbeats 2000000
/-! M4: k82, plain: what _law_joined makes of steps; no patch has fewer lines -/
namespace K84
open PySem PySem.Spec PyProof.Rows L2 DL
theorem eT_ix (g : Str × List Str) : ∃ v2, eT g = .tup [.str g.1, v2] := by
  unfold eT
  split
  · exact ⟨_, rfl⟩
  · exact ⟨_, rfl⟩
abbrev Gs := List (Str × List Str)
def RG (a b : Str × List Str) : Prop := a.1 ≠ b.1 ∧ ¬ (b.1 = "drop" ∧ a.1 = "put")
/-- lines of one kind put behind, if there are some -/
def fl (gs : Gs) (w : Str) (l : List Str) : Gs := if l = [] then gs else gs ++ [(w, l)]
def fls (st : Gs × List Str × List Str) : Gs := fl (fl st.1 "drop" st.2.1) "put" st.2.2
/-- a kept line put behind -/
def kadd (gs : Gs) (s : Str) : Gs := match gs.getLast? with
  | some g => if g.1 = "keep" then gs.dropLast ++ [(("keep" : Str), g.2 ++ [s])] else gs ++ [(("keep" : Str), [s])]
  | none => gs ++ [(("keep" : Str), [s])]
def jdStep (st : Gs × List Str × List Str) : Ed → Gs × List Str × List Str
  | .drop s => (st.1, st.2.1 ++ [s], st.2.2)
  | .put s => (st.1, st.2.1, st.2.2 ++ [s])
  | .keep s => (kadd (fls st) s, [], [])
def jdA (ws : List Ed) : Gs × List Str × List Str := ws.foldl jdStep ([], [], [])
def jd (ws : List Ed) : Gs := fls (jdA ws)
theorem jdA_next {ws : List Ed} {i : Nat} (h : i < ws.length) : jdA (ws.take (i + 1)) = jdStep (jdA (ws.take i)) ws[i] := by
  unfold jdA
  rw [take_next h, List.foldl_append]
  rfl
structure GOk (ws : List Ed) (gs : Gs) (ds ps : List Str) : Prop where
  s : srcG gs ++ ds = esrc ws
  d : dstG gs ++ ps = edst ws
  c : cst gs + ds.length + ps.length = ecst ws
  t : tot gs + ds.length + ps.length = ws.length
  w : wOk gs
  n : ∀ g ∈ gs, g.2 ≠ []
  m : ∀ g ∈ gs, ∀ s ∈ g.2, ∃ e ∈ ws, e.s = s
  md : ∀ s ∈ ds, ∃ e ∈ ws, e.s = s
  mp : ∀ s ∈ ps, ∃ e ∈ ws, e.s = s
  ch : Ch RG gs
theorem tot_one (g : Str × List Str) : tot [g] = g.2.length := by
  unfold tot
  simp
theorem srcG_one (g : Str × List Str) : srcG [g] = sG g := by simp [srcG]
theorem dstG_one (g : Str × List Str) : dstG [g] = dG g := by simp [dstG]
theorem fl_drop {ws : List Ed} {gs : Gs} {ds ps : List Str} (h : GOk ws gs ds ps) (hl : ∀ g, gs.getLast? = some g → g.1 = "keep") : GOk ws (fl gs "drop" ds) [] ps ∧ (∀ g, (fl gs "drop" ds).getLast? = some g → g.1 = "keep" ∨ g.1 = "drop") := by
  unfold fl
  by_cases q : ds = []
  · subst q
    rw [if_pos rfl]
    exact ⟨h, fun g hg => .inl (hl g hg)⟩
  · rw [if_neg q]
    refine ⟨⟨?_, ?_, ?_, ?_, fun g hg => ?_, fun g hg => ?_, fun g hg s hs => ?_, fun s hs => (List.not_mem_nil hs).elim, h.mp, ?_⟩, fun g hg => ?_⟩
    · rw [srcG_app, srcG_one, sG_drop, List.append_nil]
      exact h.s
    · rw [dstG_app, dstG_one, dG_drop, List.append_nil]
      exact h.d
    · rw [cst_app, cst_one, if_neg (by decide), ← h.c]
      simp
    · rw [tot_app, tot_one, ← h.t]
      simp
    · rcases List.mem_append.mp hg with z | z
      · exact h.w g z
      · rw [List.mem_singleton.mp z]
        exact .inr (.inl rfl)
    · rcases List.mem_append.mp hg with z | z
      · exact h.n g z
      · rw [List.mem_singleton.mp z]
        exact q
    · rcases List.mem_append.mp hg with z | z
      · exact h.m g z s hs
      · rw [List.mem_singleton.mp z] at hs
        exact h.md s hs
    · refine Ch_snoc h.ch fun y hy => ?_
      have hk := hl y hy
      exact ⟨by rw [hk]; show ¬ ("keep" : Str) = "drop"; decide, fun z => by rw [hk] at z; exact absurd z.2 (by decide)⟩
    · have : (("drop" : Str), ds) = g := by simpa using hg
      rw [← this]
      exact .inr rfl
theorem fl_put {ws : List Ed} {gs : Gs} {ps : List Str} (h : GOk ws gs [] ps) (hl : ∀ g, gs.getLast? = some g → g.1 = "keep" ∨ g.1 = "drop") : GOk ws (fl gs "put" ps) [] [] := by
  unfold fl
  by_cases q : ps = []
  · subst q
    rw [if_pos rfl]
    exact h
  · rw [if_neg q]
    refine ⟨?_, ?_, ?_, ?_, fun g hg => ?_, fun g hg => ?_, fun g hg s hs => ?_, fun s hs => (List.not_mem_nil hs).elim, fun s hs => (List.not_mem_nil hs).elim, ?_⟩
    · rw [srcG_app, srcG_one, sG_put, List.append_nil]
      exact h.s
    · rw [dstG_app, dstG_one, dG_put, List.append_nil]
      exact h.d
    · rw [cst_app, cst_one, if_neg (by decide), ← h.c]
      simp
    · rw [tot_app, tot_one, ← h.t]
      simp
    · rcases List.mem_append.mp hg with z | z
      · exact h.w g z
      · rw [List.mem_singleton.mp z]
        exact .inr (.inr rfl)
    · rcases List.mem_append.mp hg with z | z
      · exact h.n g z
      · rw [List.mem_singleton.mp z]
        exact q
    · rcases List.mem_append.mp hg with z | z
      · exact h.m g z s hs
      · rw [List.mem_singleton.mp z] at hs
        exact h.mp s hs
    · refine Ch_snoc h.ch fun y hy => ?_
      rcases hl y hy with hk | hk
      · exact ⟨by rw [hk]; show ¬ ("keep" : Str) = "put"; decide, fun z => absurd z.1 (by show ¬ ("put" : Str) = "drop"; decide)⟩
      · exact ⟨by rw [hk]; show ¬ ("drop" : Str) = "put"; decide, fun z => absurd z.1 (by show ¬ ("put" : Str) = "drop"; decide)⟩
theorem fls_ok {ws : List Ed} {st : Gs × List Str × List Str} (h : GOk ws st.1 st.2.1 st.2.2) (hl : ∀ g, st.1.getLast? = some g → g.1 = "keep") : GOk ws (fls st) [] [] :=
  fl_put (fl_drop h hl).1 (fl_drop h hl).2
theorem GOk.snoc {ws : List Ed} {gs : Gs} (h : GOk ws gs [] []) (s : Str) : GOk (ws ++ [.keep s]) (kadd gs s) [] [] ∧ (∀ g, (kadd gs s).getLast? = some g → g.1 = "keep") := by
  have h1 : esrc (ws ++ [.keep s]) = esrc ws ++ [s] := by rw [esrc_app, esrc_one]; rfl
  have h2 : edst (ws ++ [.keep s]) = edst ws ++ [s] := by rw [edst_app, edst_one]; rfl
  have h3 : ecst (ws ++ [.keep s]) = ecst ws := by rw [ecst_app, ecst_one]; show _ + 0 = _; omega
  have hs := h.s
  have hd := h.d
  have hc := h.c
  have ht := h.t
  rw [List.append_nil] at hs hd
  simp only [List.length_nil, Nat.add_zero] at ht
  have hc : cst gs = ecst ws := by simpa using hc
  have hm : ∀ g ∈ gs, ∀ s' ∈ g.2, ∃ e ∈ ws ++ [Ed.keep s], e.s = s' := fun g hg s' hs' => by
    obtain ⟨e, he, e2⟩ := h.m g hg s' hs'
    exact ⟨e, List.mem_append_left _ he, e2⟩
  have new : (∀ y, gs.getLast? = some y → y.1 ≠ "keep") → GOk (ws ++ [.keep s]) (gs ++ [(("keep" : Str), [s])]) [] [] ∧ (∀ g, (gs ++ [(("keep", [s]) : Str × List Str)]).getLast? = some g → g.1 = "keep") := fun hne => by
    refine ⟨⟨?_, ?_, ?_, ?_, fun g hg => ?_, fun g hg => ?_, fun g hg s' hs' => ?_, fun s hs => (List.not_mem_nil hs).elim, fun s hs => (List.not_mem_nil hs).elim, ?_⟩, fun g hg => ?_⟩
    · rw [srcG_app, srcG_one, sG_keep, List.append_nil, h1, hs]
    · rw [dstG_app, dstG_one, dG_keep, List.append_nil, h2, hd]
    · rw [cst_app, cst_one, if_pos rfl, h3, hc]
      simp
    · rw [tot_app, tot_one, ht]
      simp
    · rcases List.mem_append.mp hg with z | z
      · exact h.w g z
      · rw [List.mem_singleton.mp z]
        exact .inl rfl
    · rcases List.mem_append.mp hg with z | z
      · exact h.n g z
      · rw [List.mem_singleton.mp z]
        simp
    · rcases List.mem_append.mp hg with z | z
      · exact hm g z s' hs'
      · rw [List.mem_singleton.mp z] at hs'
        exact ⟨.keep s, by simp, (List.mem_singleton.mp hs').symm⟩
    · refine Ch_snoc h.ch fun y hy => ?_
      exact ⟨hne y hy, fun z => absurd z.1 (by show ¬ ("keep" : Str) = "drop"; decide)⟩
    · have : (("keep", [s]) : Str × List Str) = g := by simpa using hg
      rw [← this]
  unfold kadd
  cases e : gs.getLast? with
  | none => exact new fun y hy => by rw [e] at hy; cases hy
  | some g =>
    by_cases q : g.1 = "keep"
    · show GOk _ (if g.1 = "keep" then _ else _) _ _ ∧ ∀ g', (if g.1 = "keep" then _ else _ : Gs).getLast? = some g' → _
      rw [if_pos q]
      obtain ⟨g0, rfl⟩ : ∃ g0, gs = g0 ++ [g] := List.getLast?_eq_some_iff.mp e
      rw [List.dropLast_concat]
      obtain ⟨w, ls⟩ := g
      have q : w = "keep" := q
      subst q
      rw [srcG_app, srcG_one, sG_keep] at hs
      rw [dstG_app, dstG_one, dG_keep] at hd
      rw [cst_app, cst_one, if_pos rfl] at hc
      rw [tot_app, tot_one] at ht
      refine ⟨⟨?_, ?_, ?_, ?_, fun g hg => ?_, fun g hg => ?_, fun g hg s' hs' => ?_, fun s hs => (List.not_mem_nil hs).elim, fun s hs => (List.not_mem_nil hs).elim, ?_⟩, fun g hg => ?_⟩
      · rw [srcG_app, srcG_one, sG_keep, List.append_nil, h1, ← hs, List.append_assoc]
      · rw [dstG_app, dstG_one, dG_keep, List.append_nil, h2, ← hd, List.append_assoc]
      · rw [cst_app, cst_one, if_pos rfl, h3, ← hc]
        simp
      · rw [tot_app, tot_one]
        simp only [List.length_append, List.length_singleton, List.length_nil] at ht ⊢
        omega
      · rcases List.mem_append.mp hg with z | z
        · exact h.w g (List.mem_append_left _ z)
        · rw [List.mem_singleton.mp z]
          exact .inl rfl
      · rcases List.mem_append.mp hg with z | z
        · exact h.n g (List.mem_append_left _ z)
        · rw [List.mem_singleton.mp z]
          simp
      · rcases List.mem_append.mp hg with z | z
        · exact hm g (List.mem_append_left _ z) s' hs'
        · rw [List.mem_singleton.mp z] at hs'
          rcases List.mem_append.mp hs' with z | z
          · exact hm ("keep", ls) (by simp) s' z
          · exact ⟨.keep s, by simp, (List.mem_singleton.mp z).symm⟩
      · refine Ch_snoc (Ch_pre h.ch) fun y hy => ?_
        obtain ⟨g1, rfl⟩ : ∃ g1, g0 = g1 ++ [y] := List.getLast?_eq_some_iff.mp hy
        have := Ch_get (i := g1.length) (a := y) (b := ("keep", ls)) h.ch (by simp) (by simp)
        exact this
      · have : (("keep", ls ++ [s]) : Str × List Str) = g := by simpa using hg
        rw [← this]
    · show GOk _ (if g.1 = "keep" then _ else _) _ _ ∧ ∀ g', (if g.1 = "keep" then _ else _ : Gs).getLast? = some g' → _
      rw [if_neg q]
      exact new fun y hy => by rw [e] at hy; cases hy; exact q
theorem jdA_ok (ws : List Ed) : GOk ws (jdA ws).1 (jdA ws).2.1 (jdA ws).2.2 ∧ ∀ g, (jdA ws).1.getLast? = some g → g.1 = "keep" := by
  refine foldl_inv jdStep ([], [], []) (fun ws st => GOk ws st.1 st.2.1 st.2.2 ∧ ∀ g, st.1.getLast? = some g → g.1 = "keep") ⟨⟨rfl, rfl, rfl, rfl, fun g h => (List.not_mem_nil h).elim, fun g h => (List.not_mem_nil h).elim, fun g h => (List.not_mem_nil h).elim, fun g h => (List.not_mem_nil h).elim, fun g h => (List.not_mem_nil h).elim, trivial⟩, fun g hg => by cases hg⟩ ?_ ws
  rintro l ⟨gs, ds, ps⟩ e ⟨h, hl⟩
  have up : ∀ {s : Str}, (∃ x ∈ l, x.s = s) → ∃ x ∈ l ++ [e], x.s = s := fun ⟨x, hx, q⟩ => ⟨x, List.mem_append_left _ hx, q⟩
  cases e with
  | keep s => exact (fls_ok h hl).snoc s
  | drop s =>
    refine ⟨⟨?_, ?_, ?_, ?_, h.w, h.n, fun g hg s hs => up (h.m g hg s hs), fun s' hs => ?_, fun s hs => up (h.mp s hs), h.ch⟩, hl⟩
    · show srcG gs ++ (ds ++ [s]) = _
      rw [esrc_app, esrc_one, ← h.s, List.append_assoc]
      rfl
    · show dstG gs ++ ps = _
      rw [edst_app, edst_one, ← h.d]
      show _ = _ ++ []
      rw [List.append_nil]
    · show cst gs + ((ds ++ [s]).length : Nat) + (ps.length : Nat) = _
      rw [ecst_app, ecst_one, ← h.c, List.length_append]
      show _ = _ + 1
      simp only [List.length_singleton]
      omega
    · show tot gs + (ds ++ [s]).length + ps.length = _
      have := h.t
      simp only [List.length_append, List.length_singleton] at this ⊢
      omega
    · rcases List.mem_append.mp hs with z | z
      · exact up (h.md s' z)
      · exact ⟨.drop s, by simp, (List.mem_singleton.mp z).symm⟩
  | put s =>
    refine ⟨⟨?_, ?_, ?_, ?_, h.w, h.n, fun g hg s hs => up (h.m g hg s hs), fun s hs => up (h.md s hs), fun s' hs => ?_, h.ch⟩, hl⟩
    · show srcG gs ++ ds = _
      rw [esrc_app, esrc_one, ← h.s]
      show _ = _ ++ []
      rw [List.append_nil]
    · show dstG gs ++ (ps ++ [s]) = _
      rw [edst_app, edst_one, ← h.d, List.append_assoc]
      rfl
    · show cst gs + (ds.length : Nat) + ((ps ++ [s]).length : Nat) = _
      rw [ecst_app, ecst_one, ← h.c, List.length_append]
      show _ = _ + 1
      simp only [List.length_singleton]
      omega
    · show tot gs + ds.length + (ps ++ [s]).length = _
      have := h.t
      simp only [List.length_append, List.length_singleton] at this ⊢
      omega
    · rcases List.mem_append.mp hs with z | z
      · exact up (h.mp s' z)
      · exact ⟨.put s, by simp, (List.mem_singleton.mp z).symm⟩
theorem jd_ok (ws : List Ed) : GOk ws (jd ws) [] [] := fls_ok (jdA_ok ws).1 (jdA_ok ws).2
theorem gs_len {ws : List Ed} {gs : Gs} {ds ps : List Str} (h : GOk ws gs ds ps) : gs.length + ds.length + ps.length ≤ ws.length := by
  have h1 := sum_ge (l := gs) fun g hg => List.length_pos_iff.mpr (h.n g hg)
  have h2 := h.t
  unfold tot at h2
  omega
/-- the patch that steps make -/
theorem jd_pat {ws : List Ed} (hl : ws.length ≤ 200) (hw : ∀ e ∈ ws, e.s ∈ okW) : PatOk (jd ws) := by
  have h := jd_ok ws
  refine ⟨h.w, fun g hg => ⟨h.n g hg, ?_, fun s hs => ?_⟩, fun i a b ha hb => Ch_get (R := RG) h.ch ha hb⟩
  · have h1 := le_sum hg
    have h2 := h.t
    unfold tot at h2
    simp only [List.length_nil] at h2
    omega
  · obtain ⟨e, he, rfl⟩ := h.m g hg s hs
    exact hw e he
/-! ### the least lines -/
theorem dd_diag {one other : List Str} {i j : Nat} (h : one.getD i "" = other.getD j "") : dd one other (i + 1) (j + 1) ≤ dd one other i j := by
  rw [dd_ss, if_pos h]
  omega
theorem take_snoc {l : List Str} {i : Nat} {a : List Str} {s : Str} (hi : i ≤ l.length) (h : a ++ [s] = l.take i) : ∃ j, i = j + 1 ∧ a = l.take j ∧ l.getD j "" = s := by
  cases i with
  | zero => simp at h
  | succ j =>
    rw [take_getD (show j < l.length by omega)] at h
    obtain ⟨h1, h2⟩ := List.append_inj' h rfl
    exact ⟨j, rfl, h1, by simpa using h2.symm⟩
theorem snoc_ind {α : Type} {p : List α → Prop} (h0 : p []) (hs : ∀ l a, p l → p (l ++ [a])) : ∀ l, p l := fun l => by
  have : ∀ r : List α, p r.reverse := by
    intro r
    induction r with
    | nil => exact h0
    | cons a r ih => rw [List.reverse_cons]; exact hs _ _ ih
  have h := this l.reverse
  rwa [List.reverse_reverse] at h
theorem dd_le {one other : List Str} : ∀ (ws : List Ed) (i j : Nat), i ≤ one.length → j ≤ other.length → esrc ws = one.take i → edst ws = other.take j → dd one other i j ≤ ecst ws := by
  refine snoc_ind ?_ ?_
  · intro i j hi hj h1 h2
    have e1 : i = 0 := by
      have : (one.take i).length = 0 := by rw [← h1]; rfl
      rw [List.length_take] at this
      omega
    have e2 : j = 0 := by
      have : (other.take j).length = 0 := by rw [← h2]; rfl
      rw [List.length_take] at this
      omega
    rw [e1, e2, dd_0]
    exact Int.le_refl _
  · intro ws e ih i j hi hj h1 h2
    rw [esrc_app, esrc_one] at h1
    rw [edst_app, edst_one] at h2
    rw [ecst_app, ecst_one]
    cases e with
    | keep s =>
      obtain ⟨i', rfl, a1, a2⟩ := take_snoc hi h1
      obtain ⟨j', rfl, b1, b2⟩ := take_snoc hj h2
      have := ih i' j' (by omega) (by omega) a1 b1
      have := dd_diag (one := one) (other := other) (i := i') (j := j') (a2.trans b2.symm)
      show _ ≤ _ + 0
      omega
    | drop s =>
      obtain ⟨i', rfl, a1, a2⟩ := take_snoc hi h1
      have h2 : edst ws ++ [] = other.take j := h2
      rw [List.append_nil] at h2
      have := ih i' j (by omega) hj a1 h2
      have := dd_s_le one other i' j
      show _ ≤ _ + 1
      omega
    | put s =>
      obtain ⟨j', rfl, b1, b2⟩ := take_snoc hj h2
      have h1 : esrc ws ++ [] = one.take i := h1
      rw [List.append_nil] at h1
      have := ih i j' hi (by omega) h1 b1
      have := dd_le_s one other i j'
      show _ ≤ _ + 1
      omega
theorem dd_swap (one other : List Str) : ∀ (i j : Nat), dd other one j i = dd one other i j
  | 0, 0 => by rw [dd_0, dd_0]
  | 0, j + 1 => by rw [dd_0, dd_s0]
  | i + 1, 0 => by rw [dd_0, dd_s0]
  | i + 1, j + 1 => by
    rw [dd_ss, dd_ss, dd_swap one other (i + 1) j, dd_swap one other i (j + 1), dd_swap one other i j, Int.min_comm (dd one other (i + 1) j)]
    by_cases q : one.getD i "" = other.getD j ""
    · rw [if_pos q, if_pos q.symm]
    · rw [if_neg q, if_neg fun e => q e.symm]
termination_by i j => i + j
end K84

set_option Elab.async false
set_option linter.all false
set_option pp.maxSteps 300
set_option maxRecDepth 100000
set_option maxHeartbeats 2000000
/-! M5: k82, the walk: _law_joined, _law_walk -/
namespace K84
open PySem PySem.Spec PyProof.Rows L2 DL
def oS (l : List Str) : O := .nd .lst ((l.map D.str).map O.im)
def gp (ds ps : List Str) : O := .nd (.dct [.inr "drop", .inr "put"]) [oS ds, oS ps]
theorem kx0 : kIx [.inr "drop", .inr "put"] (.inr ("drop" : Str)) = some 0 := by decide +kernel
theorem kx1 : kIx [.inr "drop", .inr "put"] (.inr ("put" : Str)) = some 1 := by decide +kernel
theorem kxn : ([.inr "drop", .inr "put"] : List Key).Nodup := by decide +kernel
theorem gp_sub0 (ds ps : List Str) : (gp ds ps).sub [0] = some (oS ds) := by
  unfold gp
  rw [sub_cons (o := oS ds) rfl, sub_nil]
theorem gp_sub1 (ds ps : List Str) : (gp ds ps).sub [1] = some (oS ps) := by
  unfold gp
  rw [sub_cons (o := oS ps) rfl, sub_nil]
theorem oS_snoc (l : List Str) (s : Str) : O.nd .lst ((l.map D.str).map O.im ++ [O.im (.str s)]) = oS (l ++ [s]) := by
  unfold oS
  simp
theorem gp_put0 (ds ps : List Str) (t : O) : (gp ds ps).put [0] t = .nd (.dct [.inr "drop", .inr "put"]) [t, oS ps] := by
  unfold gp
  rw [put_cons (o := oS ds) rfl, put_nil]
  rfl
theorem gp_put1 (ds ps : List Str) (t : O) : (gp ds ps).put [1] t = .nd (.dct [.inr "drop", .inr "put"]) [oS ds, t] := by
  unfold gp
  rw [put_cons (o := oS ps) rfl, put_nil]
  rfl
theorem fl_len (gs : Gs) (w : Str) (l : List Str) : (fl gs w l).length ≤ gs.length + 1 := by
  unfold fl
  split
  · omega
  · simp
theorem kadd_new {gs : Gs} {s : Str} (h : ∀ g, gs.getLast? = some g → g.1 ≠ "keep") : kadd gs s = gs ++ [(("keep" : Str), [s])] := by
  unfold kadd
  cases e : gs.getLast? with
  | none => rfl
  | some g => exact if_neg (h g e)
theorem kadd_old {gs : Gs} {ls : List Str} {s : Str} : kadd (gs ++ [(("keep" : Str), ls)]) s = gs ++ [(("keep" : Str), ls ++ [s])] := by
  unfold kadd
  rw [List.getLast?_concat, List.dropLast_concat]
  exact if_pos rfl
def fK (gs : Gs) (ds ps : List Str) : Nat → Gs
  | 0 => gs
  | 1 => fl gs "drop" ds
  | _ => fls (gs, ds, ps)
def gK (ds ps : List Str) : Nat → O
  | 0 => gp ds ps
  | 1 => gp [] ps
  | _ => gp [] []
section
variable {P : Program} {w : World} {K : PySem.W.Frag} {mg : Str → Option Value} {base : Heap} {f : Addr} {fd : FuncData} {k : Nat}
abbrev sJnd : Stmt := topS 40
theorem scJnd : FnScope ["words", "found", "gap", "word", "line", "kind"] ["words"] (defScope sJnd) := ⟨rfl, rfl, rfl, by decide +kernel, rfl, by decide +kernel, by decide +kernel⟩
theorem ok_jnd (m : M mg) {ws : List Ed} (hl : ws.length ≤ 400) (d : Df K mg "_law_joined" sJnd ["words"]) : Fn P w K mg base (k + 1) "_law_joined" [.lst (ws.map eS)] (.im (eP (jd ws))) := by
  refine fn_mk d scJnd rfl (by simp) rfl fun f cdv A outer s H E c hr => ?_
  have nd := scJnd.nd
  have hu := hu1 hr
  have szl : ∀ n : Nat, n ≤ 900 → n < sizeLine := fun n hn => Nat.lt_of_lt_of_le (show n < 1000 by omega) (by decide)
  show WPs _ _ _ [.im (.lst (ws.map eS)), .any, .any, .any, .any, .any] _
  refine wps_cons ?_
  refine wst_par 1 2 ?q1 ?q2 ?q3 (hw := ?hw) (hs := ?hs) (hsa := ?hsa) (hsb := ?hsb) (hx := ?hx) (hy := ?hy) (hi := ?hi) (hj := ?hj) (hl := ?hl) (hl2 := ?hl2) ?main
  case q1 => exact rfl
  case q2 => exact nd
  case q3 => decide
  case hx => exact rfl
  case hy => exact rfl
  case hi => exact rfl
  case hj => exact rfl
  case hl => exact Nat.le_of_ble_eq_true rfl
  case hl2 => exact Nat.le_of_ble_eq_true rfl
  case hsa => exact rfl
  case hsb => exact rfl
  case hw => exact rfl
  case hs => exact rfl
  refine wp_lst <| wpa_nil ⟨[], rfl, Le rfl, ?_⟩
  refine wp_dctO2 (by decide) ?_
  intro v
  refine ⟨rfl, rfl, ?_⟩
  show WPs _ _ _ [.im (.lst (ws.map eS)), .own (.lst (([] : Gs).map eT)), .deep v (gp [] []), .any, .any, .any] _
  refine wps_cons <| wst_for (fun i Γ => ∃ s3 s4 s5, ((i ≤ ws.length ∧ Γ = [.im (.lst (ws.map eS)), .own (.lst ((jdA (ws.take i)).1.map eT)), .deep v (gp (jdA (ws.take i)).2.1 (jdA (ws.take i)).2.2), s3, s4, s5]) ∨ (i = ws.length + 1 ∧ Γ = [.im (.lst (ws.map eS)), .own (.lst ((jd ws).map eT)), .deep v (gp [] []), s3, s4, s5]))) <|
    wpi_list <| wp_binop <| wp_name 0 rfl rfl <| wp_lst <| wpa_cons <| wp_tup <| wpa_cons <| wp_str <| wpa_cons <| wp_str <| wpa_nil ⟨[.str "end", .str ""], rfl, Le rfl, wpa_nil ⟨[.tup [.str "end", .str ""]], rfl, Le rfl, od_cat rfl rfl (Nat.le_of_lt (szl _ (by rw [List.length_map]; simp; omega))) ⟨_, rfl, ⟨_, _, _, .inl ⟨Nat.zero_le _, rfl⟩⟩, fun F1 i Γ' hi hj => ?_, fun Γ' hj => ?_⟩⟩⟩
  · have hi2 : i < ws.length + 1 := by simpa using hi
    obtain ⟨s3, s4, s5, ⟨hi3, rfl⟩ | ⟨hi3, _⟩⟩ := hj
    case inr => omega
    have okA := (jdA_ok (ws.take i))
    have gl := gs_len okA.1
    rw [List.length_take] at gl
    generalize hst : jdA (ws.take i) = st at okA gl
    obtain ⟨gs, ds, ps⟩ := st
    simp only at gl okA
    obtain ⟨wd, ln, gs', ds', ps', hwd, hit, hcase, hnext⟩ : ∃ wd ln : Str, ∃ gs' : Gs, ∃ ds' ps' : List Str, (wd = "drop" ∨ wd = "put" ∨ wd = "keep" ∨ wd = "end") ∧ (ws.map eS ++ [D.tup [.str "end", .str ""]]).getD i .non = .tup [.str wd, .str ln] ∧
        ((wd = "drop" ∧ gs = gs' ∧ ds' = ds ++ [ln] ∧ ps = ps') ∨ (wd = "put" ∧ gs = gs' ∧ ds = ds' ∧ ps' = ps ++ [ln]) ∨ (wd = "keep" ∧ gs' = kadd (fls (gs, ds, ps)) ln ∧ ds' = [] ∧ ps' = []) ∨ (wd = "end" ∧ gs' = fls (gs, ds, ps) ∧ ds' = [] ∧ ps' = [])) ∧
        ∀ s3 s4 s5 : Sl, ∃ t3 t4 t5, ((i + 1 ≤ ws.length ∧ ([.im (.lst (ws.map eS)), .own (.lst (gs'.map eT)), .deep v (gp ds' ps'), s3, s4, s5] : List Sl) = [.im (.lst (ws.map eS)), .own (.lst ((jdA (ws.take (i + 1))).1.map eT)), .deep v (gp (jdA (ws.take (i + 1))).2.1 (jdA (ws.take (i + 1))).2.2), t3, t4, t5]) ∨ (i + 1 = ws.length + 1 ∧ ([.im (.lst (ws.map eS)), .own (.lst (gs'.map eT)), .deep v (gp ds' ps'), s3, s4, s5] : List Sl) = [.im (.lst (ws.map eS)), .own (.lst ((jd ws).map eT)), .deep v (gp [] []), t3, t4, t5])) := by
      by_cases hlt : i < ws.length
      · have hg : (ws.map eS ++ [D.tup [.str "end", .str ""]]).getD i .non = eS ws[i] := by
          rw [List.getD_eq_getElem?_getD, List.getElem?_append_left (by rw [List.length_map]; exact hlt), List.getElem?_map, List.getElem?_eq_getElem hlt]
          rfl
        have hn := jdA_next hlt
        rw [hst] at hn
        rw [hg, hn]
        cases ws[i] with
        | keep s => exact ⟨"keep", s, _, _, _, .inr (.inr (.inl rfl)), rfl, .inr (.inr (.inl ⟨rfl, rfl, rfl, rfl⟩)), fun s3 s4 s5 => ⟨s3, s4, s5, .inl ⟨hlt, rfl⟩⟩⟩
        | drop s => exact ⟨"drop", s, _, _, _, .inl rfl, rfl, .inl ⟨rfl, rfl, rfl, rfl⟩, fun s3 s4 s5 => ⟨s3, s4, s5, .inl ⟨hlt, rfl⟩⟩⟩
        | put s => exact ⟨"put", s, _, _, _, .inr (.inl rfl), rfl, .inr (.inl ⟨rfl, rfl, rfl, rfl⟩), fun s3 s4 s5 => ⟨s3, s4, s5, .inl ⟨hlt, rfl⟩⟩⟩
      · have e : i = ws.length := by omega
        subst e
        rw [List.take_length] at hst
        have hg : (ws.map eS ++ [D.tup [.str "end", .str ""]]).getD ws.length .non = .tup [.str "end", .str ""] := by simp
        rw [hg]
        refine ⟨"end", "", _, _, _, .inr (.inr (.inr rfl)), rfl, .inr (.inr (.inr ⟨rfl, rfl, rfl, rfl⟩)), fun s3 s4 s5 => ⟨s3, s4, s5, .inr ⟨rfl, ?_⟩⟩⟩
        unfold jd
        rw [hst]
    clear hst
    show GtD _ _ _ (.im ((ws.map eS ++ [D.tup [.str "end", .str ""]]).getD i .non)) _ _
    rw [hit]
    refine gt_tup2 3 4 rfl nd ?_
    show WPs _ _ _ [.im (.lst (ws.map eS)), .own (.lst (gs.map eT)), .deep v (gp ds ps), .im (.str wd), .im (.str ln), s5] _
    refine wps_cons <| wst_if <| wpt_cmp <| wp_name 3 rfl rfl <| wp_tup <| wpa_cons <| wp_str <| wpa_cons <| wp_str <| wpa_nil ⟨(["drop", "put"] : List Str).map D.str, rfl, Le rfl, od_inS (l := ["drop", "put"]) rfl ⟨_, rfl, fun hx => ?_, fun hx => wps_nil ?_⟩⟩
    · have hx : wd ∈ (["drop", "put"] : List Str) := of_decide_eq_true hx
      rcases hcase with ⟨rfl, rfl, rfl, rfl⟩ | ⟨rfl, rfl, rfl, rfl⟩ | ⟨rfl, _⟩ | ⟨rfl, _⟩
      · refine wps_cons <| wst_appendT 2 rfl <| wp_dgetO hu <| wp_name 2 rfl rfl <| wp_name 3 rfl rfl <| ⟨v, [], _, _, .inr "drop", 0, oS ds, rfl, rfl, kx0, rfl, ⟨[0], _, rfl, gp_sub0 _ _, szl _ (by simp; omega), wp_name 4 rfl rfl <| ⟨.im (.str ln), rfl, ?_⟩⟩⟩
        rw [oS_snoc, gp_put0]
        exact wps_cons <| wst_continue <| hnext _ _ _
      · refine wps_cons <| wst_appendT 2 rfl <| wp_dgetO hu <| wp_name 2 rfl rfl <| wp_name 3 rfl rfl <| ⟨v, [], _, _, .inr "put", 1, oS ps, rfl, rfl, kx1, rfl, ⟨[1], _, rfl, gp_sub1 _ _, szl _ (by simp; omega), wp_name 4 rfl rfl <| ⟨.im (.str ln), rfl, ?_⟩⟩⟩
        rw [oS_snoc, gp_put1]
        exact wps_cons <| wst_continue <| hnext _ _ _
      · exact absurd hx (by decide)
      · exact absurd hx (by decide)
    have hx : ¬ wd ∈ (["drop", "put"] : List Str) := of_decide_eq_false hx
    have hcase : (wd = "keep" ∧ gs' = kadd (fls (gs, ds, ps)) ln ∧ ds' = [] ∧ ps' = []) ∨ (wd = "end" ∧ gs' = fls (gs, ds, ps) ∧ ds' = [] ∧ ps' = []) := by
      rcases hcase with z | z | z | z
      · exact absurd (by rw [z.1]; decide) hx
      · exact absurd (by rw [z.1]; decide) hx
      · exact .inl z
      · exact .inr z
    refine wps_cons <| wst_for (fun t Γ => ∃ s5, Γ = [.im (.lst (ws.map eS)), .own (.lst ((fK gs ds ps t).map eT)), .deep v (gK ds ps t), .im (.str wd), .im (.str ln), s5]) <| wpi_tup <| wp_tup <| wpa_cons <| wp_str <| wpa_cons <| wp_str <| wpa_nil ⟨[.str "drop", .str "put"], rfl, Le rfl, ⟨_, rfl, ⟨_, rfl⟩, fun F2 t Γ' ht hJ => ?_, fun Γ' hJ => ?_⟩⟩
    · obtain ⟨s5, rfl⟩ := hJ
      have ht2 : t = 0 ∨ t = 1 := by
        have : t < 2 := ht
        omega
      have l1 := fl_len gs "drop" ds
      rcases ht2 with rfl | rfl
      · -- drop
        refine gt_name 5 rfl nd ?_
        show WPs _ _ _ [.im (.lst (ws.map eS)), .own (.lst ((gs).map eT)), .deep v (gp ds ps), .im (.str wd), .im (.str ln), .im (.str "drop")] _
        refine wps_cons <| wst_if <| wpt_cmp <| wp_callB m.len PySem.boot_len <| wpa_cons <| wp_dgetO hu <| wp_name 2 rfl rfl <| wp_name 5 rfl rfl <| ⟨v, [], _, _, .inr "drop", 0, oS ds, rfl, rfl, kx0, rfl, wpa_nil <| cd_lenVo <| wp_int <| od_gt ⟨_, rfl, fun hx => ?_, fun hx => ?_⟩⟩
        · have hne : ds ≠ [] := fun q => by
            rw [q] at hx
            exact absurd hx (by decide)
          have ef : (gs).map eT ++ [D.tup [.str "drop", eL ds]] = (fl (gs) "drop" ds).map eT := by
            unfold fl
            rw [if_neg hne, List.map_append]
            congr 2
          refine wps_cons <| wst_append 1 rfl (szl _ (by rw [List.length_map]; omega)) <| wp_tup <| wpa_cons <| wp_name 5 rfl rfl <| wpa_cons <| wp_callTy m.tup PyProof.Rows.boot_tuple <| wpa_cons <| wp_dgetO hu <| wp_name 2 rfl rfl <| wp_name 5 rfl rfl <| ⟨v, [], _, _, .inr "drop", 0, oS ds, rfl, rfl, kx0, rfl, wpa_nil <| cd_tupleVo (l := ds.map D.str) <| wpa_nil ⟨[.str "drop", eL ds], rfl, Le rfl, _, rfl, ?_⟩⟩
          rw [ef]
          refine wps_cons <| wst_dputT 2 hu rfl <| wp_lst <| wpa_nil ⟨[], rfl, Le rfl, .nd .lst [], rfl, wp_name 2 rfl rfl <| ⟨[], _, _, rfl, sub_nil _, kxn, szl _ (show 2 ≤ 900 by decide), wp_name 5 rfl rfl <| ⟨.inr "drop", 0, rfl, kx0, ?_⟩⟩⟩
          rw [put_nil]
          exact wps_nil <| wps_nil ⟨_, rfl⟩
        · have hne : ds = [] := by
            cases e : ds with
            | nil => rfl
            | cons a r =>
              rw [e] at hx
              simp at hx

          refine wps_nil <| wps_nil ⟨.im (.str "drop"), ?_⟩
          show _ = [Sl.im (.lst (ws.map eS)), .own (.lst ((fl (gs) "drop" ds).map eT)), .deep v (gp [] ps), .im (.str wd), .im (.str ln), .im (.str "drop")]
          rw [show fl (gs) "drop" ds = gs from if_pos hne, hne]
      · -- put
        refine gt_name 5 rfl nd ?_
        show WPs _ _ _ [.im (.lst (ws.map eS)), .own (.lst ((fl gs "drop" ds).map eT)), .deep v (gp [] ps), .im (.str wd), .im (.str ln), .im (.str "put")] _
        refine wps_cons <| wst_if <| wpt_cmp <| wp_callB m.len PySem.boot_len <| wpa_cons <| wp_dgetO hu <| wp_name 2 rfl rfl <| wp_name 5 rfl rfl <| ⟨v, [], _, _, .inr "put", 1, oS ps, rfl, rfl, kx1, rfl, wpa_nil <| cd_lenVo <| wp_int <| od_gt ⟨_, rfl, fun hx => ?_, fun hx => ?_⟩⟩
        · have hne : ps ≠ [] := fun q => by
            rw [q] at hx
            exact absurd hx (by decide)
          have ef : (fl gs "drop" ds).map eT ++ [D.tup [.str "put", eL ps]] = (fl (fl gs "drop" ds) "put" ps).map eT := by
            unfold fl
            rw [if_neg hne, List.map_append]
            congr 2
          refine wps_cons <| wst_append 1 rfl (szl _ (by rw [List.length_map]; omega)) <| wp_tup <| wpa_cons <| wp_name 5 rfl rfl <| wpa_cons <| wp_callTy m.tup PyProof.Rows.boot_tuple <| wpa_cons <| wp_dgetO hu <| wp_name 2 rfl rfl <| wp_name 5 rfl rfl <| ⟨v, [], _, _, .inr "put", 1, oS ps, rfl, rfl, kx1, rfl, wpa_nil <| cd_tupleVo (l := ps.map D.str) <| wpa_nil ⟨[.str "put", eL ps], rfl, Le rfl, _, rfl, ?_⟩⟩
          rw [ef]
          refine wps_cons <| wst_dputT 2 hu rfl <| wp_lst <| wpa_nil ⟨[], rfl, Le rfl, .nd .lst [], rfl, wp_name 2 rfl rfl <| ⟨[], _, _, rfl, sub_nil _, kxn, szl _ (show 2 ≤ 900 by decide), wp_name 5 rfl rfl <| ⟨.inr "put", 1, rfl, kx1, ?_⟩⟩⟩
          rw [put_nil]
          exact wps_nil <| wps_nil ⟨_, rfl⟩
        · have hne : ps = [] := by
            cases e : ps with
            | nil => rfl
            | cons a r =>
              rw [e] at hx
              simp at hx

          refine wps_nil <| wps_nil ⟨.im (.str "put"), ?_⟩
          show _ = [Sl.im (.lst (ws.map eS)), .own (.lst ((fl (fl gs "drop" ds) "put" ps).map eT)), .deep v (gp [] []), .im (.str wd), .im (.str ln), .im (.str "put")]
          rw [show fl (fl gs "drop" ds) "put" ps = fl gs "drop" ds from if_pos hne, hne]
    obtain ⟨s5, rfl⟩ := hJ
    show WPs _ _ _ [.im (.lst (ws.map eS)), .own (.lst ((fls (gs, ds, ps)).map eT)), .deep v (gp [] []), .im (.str wd), .im (.str ln), s5] _
    have hG : (fls (gs, ds, ps)).length ≤ 900 := by
      have l1 := fl_len gs "drop" ds
      have l2 := fl_len (fl gs "drop" ds) "put" ps
      show (fl (fl gs "drop" ds) "put" ps).length ≤ 900
      omega
    generalize fls (gs, ds, ps) = G at hG hcase
    rcases hcase with ⟨rfl, rfl, rfl, rfl⟩ | ⟨rfl, rfl, rfl, rfl⟩
    · -- a kept line
      have sub1 : ∀ {y z : Bool}, G.getLast? = none → y = decide ((0 : Int) < ((G.map eT).length : Nat)) → y = false := fun {y z} e q => by
        rw [List.getLast?_eq_none_iff.mp e] at q
        exact q
      cases e : G.getLast? with
      | none =>
        have eG : G = [] := List.getLast?_eq_none_iff.mp e
        subst eG
        refine wps_cons <| wst_if <| wpt_and3 (x := true) (y := false) (z := false) (wpt_cmp <| wp_name 3 rfl rfl <| wp_str <| od_eqS ⟨_, rfl, rfl⟩) (fun _ => wpt_cmp <| wp_callB m.len PySem.boot_len <| wpa_cons <| wp_name 1 rfl rfl <| wpa_nil <| cd_len rfl <| wp_int <| od_gt ⟨_, rfl, rfl⟩) (fun _ z => absurd z (by decide)) ⟨fun z => absurd z (by decide), fun _ => ?_⟩
        refine wps_cons <| wst_if <| wpt_cmp <| wp_name 3 rfl rfl <| wp_str <| od_eqS ⟨_, rfl, fun _ => ?_, fun z => absurd z (by decide)⟩
        refine wps_cons <| wst_append 1 rfl (szl _ (by simp)) <| wp_tup <| wpa_cons <| wp_str <| wpa_cons <| wp_int <| wpa_nil ⟨[.str "keep", .int 1], rfl, Le rfl, _, rfl, wps_nil <| wps_nil <| wps_nil <| hnext _ _ _⟩
      | some g =>
        obtain ⟨G0, rfl⟩ : ∃ G0, G = G0 ++ [g] := List.getLast?_eq_some_iff.mp e
        obtain ⟨v2, eg⟩ := eT_ix g
        have aL : atI ((G0 ++ [g]).map eT) (-1) = some (.tup [.str g.1, v2]) := by
          rw [List.map_append, ← eg]
          exact atI_last _ _
        have ll : decide ((0 : Int) < (((G0 ++ [g]).map eT).length : Nat)) = true := decide_eq_true (by rw [List.length_map, List.length_append, List.length_singleton]; omega)
        have c2 : ∀ {X : Cx} {c : C0} {Γ : List Sl}, True := trivial
        by_cases q : g.1 = "keep"
        · obtain ⟨w1, ls⟩ := g
          have q : w1 = "keep" := q
          subst q
          have ev : v2 = .int ls.length := by
            have e : eT ("keep", ls) = .tup [.str "keep", .int ls.length] := if_pos rfl
            rw [eg] at e
            injection e with e
            injection e with _ e
            injection e
          subst ev
          refine wps_cons <| wst_if <| wpt_and3 (x := true) (y := true) (z := true) (wpt_cmp <| wp_name 3 rfl rfl <| wp_str <| od_eqS ⟨_, rfl, rfl⟩) (fun _ => wpt_cmp <| wp_callB m.len PySem.boot_len <| wpa_cons <| wp_name 1 rfl rfl <| wpa_nil <| cd_len rfl <| wp_int <| od_gt ⟨_, rfl, ll⟩)
            (fun _ _ => wpt_cmp <| wp_ix <| wp_ix <| wp_name 1 rfl rfl <| wp_unop <| wp_int <| ud_neg <| xd_seq rfl aL <| wp_int <| xd_seq rfl rfl <| wp_str <| od_eqS ⟨_, rfl, rfl⟩) ⟨fun _ => ?_, fun z => absurd z (by decide)⟩
          refine wps_cons <| wst_lputN 1 rfl <| wp_tup <| wpa_cons <| wp_str <| wpa_cons <| wp_binop <| wp_ix <| wp_ix <| wp_name 1 rfl rfl <| wp_unop <| wp_int <| ud_neg <| xd_seq rfl aL <| wp_int <| xd_seq rfl rfl <| wp_int <| od_add <| wpa_nil ⟨[.str "keep", .int ((ls.length : Nat) + 1)], rfl, Le rfl, _, rfl, wp_unop <| wp_int <| ud_neg ⟨-1, G0.length, rfl, ?_, ?_⟩⟩
          · unfold ixN
            rw [if_neg (by decide), if_pos (by simp; omega)]
            congr 1
            simp
            omega
          · have e2 : ((G0 ++ [(("keep" : Str), ls)]).map eT).set G0.length (D.tup [.str "keep", .int ((ls.length : Nat) + 1)]) = (kadd (G0 ++ [(("keep" : Str), ls)]) ln).map eT := by
              rw [kadd_old, List.map_append, List.map_append, List.set_append_right _ _ (by simp)]
              rw [List.length_map, Nat.sub_self]
              show _ ++ [_] = _ ++ [_]
              congr 2
              have e : eT ("keep", ls ++ [ln]) = .tup [.str "keep", .int (ls ++ [ln]).length] := if_pos rfl
              rw [e, List.length_append]
              rfl
            show WPs _ _ _ [.im (.lst (ws.map eS)), .own (.lst (((G0 ++ [(("keep" : Str), ls)]).map eT).set G0.length (D.tup [.str "keep", .int ((ls.length : Nat) + 1)]))), .deep v (gp [] []), _, _, _] _
            rw [e2]
            exact wps_nil <| wps_nil <| hnext _ _ _
        · refine wps_cons <| wst_if <| wpt_and3 (x := true) (y := true) (z := false) (wpt_cmp <| wp_name 3 rfl rfl <| wp_str <| od_eqS ⟨_, rfl, rfl⟩) (fun _ => wpt_cmp <| wp_callB m.len PySem.boot_len <| wpa_cons <| wp_name 1 rfl rfl <| wpa_nil <| cd_len rfl <| wp_int <| od_gt ⟨_, rfl, ll⟩)
            (fun _ _ => wpt_cmp <| wp_ix <| wp_ix <| wp_name 1 rfl rfl <| wp_unop <| wp_int <| ud_neg <| xd_seq rfl aL <| wp_int <| xd_seq rfl rfl <| wp_str <| od_eqS ⟨_, rfl, decide_eq_false q⟩) ⟨fun z => absurd z (by decide), fun _ => ?_⟩
          have e2 : (G0 ++ [g]).map eT ++ [D.tup [.str "keep", .int 1]] = (kadd (G0 ++ [g]) ln).map eT := by
            rw [kadd_new (fun y hy => by rw [List.getLast?_concat] at hy; cases hy; exact q), List.map_append (l₁ := G0 ++ [g])]
            rfl
          refine wps_cons <| wst_if <| wpt_cmp <| wp_name 3 rfl rfl <| wp_str <| od_eqS ⟨_, rfl, fun _ => ?_, fun z => absurd z (by decide)⟩
          refine wps_cons <| wst_append 1 rfl (szl _ (by rw [List.length_map]; exact hG)) <| wp_tup <| wpa_cons <| wp_str <| wpa_cons <| wp_int <| wpa_nil ⟨[.str "keep", .int 1], rfl, Le rfl, _, rfl, ?_⟩
          rw [e2]
          exact wps_nil <| wps_nil <| wps_nil <| hnext _ _ _
    · -- the end
      refine wps_cons <| wst_if <| wpt_and3 (x := false) (y := true) (z := true) (wpt_cmp <| wp_name 3 rfl rfl <| wp_str <| od_eqS ⟨_, rfl, rfl⟩) (fun z => absurd z (by decide)) (fun z => absurd z (by decide)) ⟨fun z => absurd z (by decide), fun _ => ?_⟩
      exact wps_cons <| wst_if <| wpt_cmp <| wp_name 3 rfl rfl <| wp_str <| od_eqS ⟨_, rfl, fun z => absurd z (by decide), fun _ => wps_nil <| wps_nil <| wps_nil <| hnext _ _ _⟩
  · obtain ⟨s3, s4, s5, ⟨hi3, rfl⟩ | ⟨hi3, rfl⟩⟩ := hj
    · simp at hi3
      omega
    · exact wps_cons <| wst_ret <| wp_callTy m.tup PyProof.Rows.boot_tuple <| wpa_cons <| wp_name 1 rfl rfl <| wpa_nil <| cd_tuple rfl rfl
end
end K84

set_option Elab.async false
set_option linter.all false
set_option pp.maxSteps 300
set_option maxRecDepth 100000
set_option maxHeartbeats 2000000
/-! M6: k82, the walk: _law_walk -/
namespace K84
open PySem PySem.Spec PyProof.Rows L2 DL
theorem eqv_strs0 (l : List Str) : PyData.eqv (py (.tup (l.map D.str))) (py (.tup [])) = decide (l = []) := eqv_strs l []
/-- what a drawn patch is -/
def Wlk (one other : List Str) (r : Sl) : Prop := ∃ gs : Gs, r = .im (eP gs) ∧ PatOk gs ∧ srcG gs = one ∧ dstG gs = other ∧ tot gs ≤ 200 ∧ gs.length ≤ 200 ∧ (∀ g ∈ gs, ∀ s ∈ g.2, s ∈ okW) ∧ dd one other one.length other.length ≤ cst gs
theorem lineAt_lt {l : List Str} {n : Nat} (h : n < l.length) : lineAt l n = [l.getD n ""] := by
  unfold lineAt
  rw [if_pos (by omega)]
  rfl
theorem lineAt_ge {l : List Str} {n : Nat} (h : l.length ≤ n) : lineAt l n = [] := by
  unfold lineAt
  rw [if_neg (by omega)]
section
variable {P : Program} {w : World} {K : PySem.W.Frag} {mg : Str → Option Value} {base : Heap} {f : Addr} {fd : FuncData} {k : Nat}
abbrev sWlk : Stmt := topS 41
theorem scWlk : FnScope ["hand", "one", "other", "at", "there", "words", "is_like"] ["hand", "one", "other"] (defScope sWlk) := ⟨rfl, rfl, rfl, by decide +kernel, rfl, by decide +kernel, by decide +kernel⟩
theorem ok_wlk (m : M mg) {one other : List Str} (h1 : Lns one) (h2 : Lns other) (l1 : one.length ≤ 90) (l2 : other.length ≤ 90) (Gd : ∀ n : Nat, 0 < n → n ≤ 1000 → FnH P w K mg base k "_law_draw" [.int (n : Nat)] (digit n))
    (Gj : ∀ ws : List Ed, ws.length ≤ 400 → Fn P w K mg base k "_law_joined" [.lst (ws.map eS)] (.im (eP (jd ws)))) (d : Df K mg "_law_walk" sWlk ["hand", "one", "other"]) :
    FnH P w K mg base (k + 1) "_law_walk" [eL one, eL other] (Wlk one other) := by
  refine fnH_mk d scWlk rfl fun f cdv A outer s H E c hr hcd => ?_
  have nd := scWlk.nd
  have hu64 := hr.units
  have szl : ∀ n : Nat, n ≤ 900 → n < sizeLine := fun n hn => Nat.lt_of_lt_of_le (show n < 1000 by omega) (by decide)
  show WPs _ _ _ [.hand, .im (eL one), .im (eL other), .any, .any, .any, .any] _
  refine wps_cons <| wst_par3 3 4 5 rfl nd (by decide) (by decide) (by decide) <| wp_int <| wp_int <| wp_lst <| wpa_nil <| ⟨[], rfl, Le rfl, rfl, rfl, rfl, ?_⟩
  refine wps_cons <| wst_while (fun mm Γ => ∃ (a b : Nat) (ws : List Ed) (s6 : Sl), Γ = [.hand, .im (eL one), .im (eL other), .im (.int (a : Nat)), .im (.int (b : Nat)), .own (.lst (ws.map eS)), s6] ∧ a ≤ one.length ∧ b ≤ other.length ∧ esrc ws = one.take a ∧ edst ws = other.take b ∧ ws.length ≤ a + b ∧ (∀ e ∈ ws, e.s ∈ one ∨ e.s ∈ other) ∧ mm = (one.length - a) + (other.length - b)) (one.length + other.length) ⟨0, 0, [], _, rfl, Nat.zero_le _, Nat.zero_le _, rfl, rfl, Nat.le_refl _, fun e he => (List.not_mem_nil he).elim, rfl⟩ fun mm Γ' hJ => ?_
  obtain ⟨a, b, ws, s6, rfl, ha, hb, hs, hd, hl, hm, rfl⟩ := hJ
  refine wpt_or2 (x := decide ((a : Int) < (one.length : Nat))) (y := decide ((b : Int) < (other.length : Nat))) (wpt_cmp <| wp_name 3 rfl rfl <| wp_callB m.len PySem.boot_len <| wpa_cons <| wp_name 1 rfl rfl <| wpa_nil <| cd_len rfl <| od_lt ⟨_, rfl, by rw [List.length_map]⟩) (fun _ => wpt_cmp <| wp_name 4 rfl rfl <| wp_callB m.len PySem.boot_len <| wpa_cons <| wp_name 2 rfl rfl <| wpa_nil <| cd_len rfl <| od_lt ⟨_, rfl, by rw [List.length_map]⟩) ⟨fun hx => ?_, fun hx => ?_⟩
  · have hx : a < one.length ∨ b < other.length := by
      simp only [Bool.or_eq_true, decide_eq_true_eq] at hx
      omega
    -- the next steps
    have mkeep : a < one.length → b < other.length → one.getD a "" = other.getD b "" → ∀ s6 : Sl, ∃ m', m' < (one.length - a) + (other.length - b) ∧ ∃ (a' b' : Nat) (ws' : List Ed) (s6' : Sl), ([.hand, .im (eL one), .im (eL other), .im (.int ((a + 1 : Nat) : Int)), .im (.int ((b + 1 : Nat) : Int)), .own (.lst ((ws ++ [Ed.keep (one.getD a "")]).map eS)), s6] : List Sl) = [.hand, .im (eL one), .im (eL other), .im (.int (a' : Nat)), .im (.int (b' : Nat)), .own (.lst (ws'.map eS)), s6'] ∧ a' ≤ one.length ∧ b' ≤ other.length ∧ esrc ws' = one.take a' ∧ edst ws' = other.take b' ∧ ws'.length ≤ a' + b' ∧ (∀ e ∈ ws', e.s ∈ one ∨ e.s ∈ other) ∧ m' = (one.length - a') + (other.length - b') := fun q1 q2 q3 s6 => by
      refine ⟨_, ?_, a + 1, b + 1, _, s6, rfl, q1, q2, ?_, ?_, ?_, fun e he => ?_, rfl⟩
      · omega
      · rw [esrc_app, esrc_one, hs, take_getD q1]
        rfl
      · rw [edst_app, edst_one, hd, take_getD q2, ← q3]
        rfl
      · rw [List.length_append, List.length_singleton]
        omega
      · rcases List.mem_append.mp he with z | z
        · exact hm e z
        · rw [List.mem_singleton.mp z]
          exact .inl (by show one.getD a "" ∈ one; rw [getD_eq q1]; exact List.getElem_mem _)
    have mdrop : a < one.length → ∀ s6 : Sl, ∃ m', m' < (one.length - a) + (other.length - b) ∧ ∃ (a' b' : Nat) (ws' : List Ed) (s6' : Sl), ([.hand, .im (eL one), .im (eL other), .im (.int ((a + 1 : Nat) : Int)), .im (.int (b : Nat)), .own (.lst ((ws ++ [Ed.drop (one.getD a "")]).map eS)), s6] : List Sl) = [.hand, .im (eL one), .im (eL other), .im (.int (a' : Nat)), .im (.int (b' : Nat)), .own (.lst (ws'.map eS)), s6'] ∧ a' ≤ one.length ∧ b' ≤ other.length ∧ esrc ws' = one.take a' ∧ edst ws' = other.take b' ∧ ws'.length ≤ a' + b' ∧ (∀ e ∈ ws', e.s ∈ one ∨ e.s ∈ other) ∧ m' = (one.length - a') + (other.length - b') := fun q1 s6 => by
      refine ⟨_, ?_, a + 1, b, _, s6, rfl, q1, hb, ?_, ?_, ?_, fun e he => ?_, rfl⟩
      · omega
      · rw [esrc_app, esrc_one, hs, take_getD q1]
        rfl
      · rw [edst_app, edst_one, hd]
        exact List.append_nil _
      · rw [List.length_append, List.length_singleton]
        omega
      · rcases List.mem_append.mp he with z | z
        · exact hm e z
        · rw [List.mem_singleton.mp z]
          exact .inl (by show one.getD a "" ∈ one; rw [getD_eq q1]; exact List.getElem_mem _)
    have mput : b < other.length → ∀ s6 : Sl, ∃ m', m' < (one.length - a) + (other.length - b) ∧ ∃ (a' b' : Nat) (ws' : List Ed) (s6' : Sl), ([.hand, .im (eL one), .im (eL other), .im (.int (a : Nat)), .im (.int ((b + 1 : Nat) : Int)), .own (.lst ((ws ++ [Ed.put (other.getD b "")]).map eS)), s6] : List Sl) = [.hand, .im (eL one), .im (eL other), .im (.int (a' : Nat)), .im (.int (b' : Nat)), .own (.lst (ws'.map eS)), s6'] ∧ a' ≤ one.length ∧ b' ≤ other.length ∧ esrc ws' = one.take a' ∧ edst ws' = other.take b' ∧ ws'.length ≤ a' + b' ∧ (∀ e ∈ ws', e.s ∈ one ∨ e.s ∈ other) ∧ m' = (one.length - a') + (other.length - b') := fun q1 s6 => by
      refine ⟨_, ?_, a, b + 1, _, s6, rfl, ha, q1, ?_, ?_, ?_, fun e he => ?_, rfl⟩
      · omega
      · rw [esrc_app, esrc_one, hs]
        exact List.append_nil _
      · rw [edst_app, edst_one, hd, take_getD q1]
        rfl
      · rw [List.length_append, List.length_singleton]
        omega
      · rcases List.mem_append.mp he with z | z
        · exact hm e z
        · rw [List.mem_singleton.mp z]
          exact .inr (by show other.getD b "" ∈ other; rw [getD_eq q1]; exact List.getElem_mem _)
    have hws : ∀ e : Ed, (ws.map eS) ++ [eS e] = (ws ++ [e]).map eS := fun e => by rw [List.map_append]; rfl
    have hsz : (ws.map eS).length < sizeLine := by
      rw [List.length_map]
      exact szl _ (by omega)
    have cast1 : ∀ n : Nat, (n : Int) + 1 = ((n + 1 : Nat) : Int) := fun n => by omega
    have cutA : cutD (one.map D.str) (some (a : Int)) (some ((a : Int) + 1)) = (lineAt one a).map D.str := by rw [cutD_map, cut_line]
    have cutB : cutD (other.map D.str) (some (b : Int)) (some ((b : Int) + 1)) = (lineAt other b).map D.str := by rw [cutD_map, cut_line]
    have memA : ∀ x ∈ lineAt one a, x ∈ okW := fun x hx => by
      by_cases q : a < one.length
      · rw [lineAt_lt q] at hx
        rw [List.mem_singleton.mp hx, getD_eq q]
        exact h1.2 _ (List.getElem_mem _)
      · rw [lineAt_ge (by omega)] at hx
        cases hx
    have memB : ∀ x ∈ lineAt other b, x ∈ okW := fun x hx => by
      by_cases q : b < other.length
      · rw [lineAt_lt q] at hx
        rw [List.mem_singleton.mp hx, getD_eq q]
        exact h2.2 _ (List.getElem_mem _)
      · rw [lineAt_ge (by omega)] at hx
        cases hx
    have hslA := shaped_strs (strsOk_of memA)
    have hslB := shaped_strs (strsOk_of memB)
    have hsl0 : SeqAt.shaped (py (.tup [])) = true := shaped_strs (l := []) (strsOk_of fun s hs => (List.not_mem_nil hs).elim)
    refine wps_seq (fun Γ => Γ = [.hand, .im (eL one), .im (eL other), .im (.int (a : Nat)), .im (.int (b : Nat)), .own (.lst (ws.map eS)), .im (.bl (decide (lineAt one a = lineAt other b) && !decide (lineAt other b = [])))]) ?_ ?_
    · refine wst_set 6 nd <| wp_cmp2 <| wp_sliceT <| wp_name 1 rfl rfl <| ⟨_, rfl, wpo_some <| wp_name 3 rfl rfl ⟨_, rfl, wpo_some <| wp_binop <| wp_name 3 rfl rfl <| wp_int <| od_add ⟨_, rfl, ?_⟩⟩⟩
      refine wp_sliceT <| wp_name 2 rfl rfl <| ⟨_, rfl, wpo_some <| wp_name 4 rfl rfl ⟨_, rfl, wpo_some <| wp_binop <| wp_name 4 rfl rfl <| wp_int <| od_add ⟨_, rfl, ?_⟩⟩⟩
      refine ⟨.tup ((lineAt one a).map D.str), .tup ((lineAt other b).map D.str), by rw [cutA]; rfl, by rw [cutB]; rfl, od_eqD hu64 hslA hslB ⟨_, rfl, fun hx => ?_, fun hx => ?_⟩⟩
      · rw [eqv_strs] at hx
        refine wp_tup <| wpa_nil ⟨[], rfl, Le rfl, od_neD hu64 hslB hsl0 ⟨rfl, ?_⟩⟩
        rw [hx, eqv_strs0]
        rfl
      · rw [eqv_strs] at hx
        rw [hx]
        exact ⟨rfl, rfl⟩
    rintro Γ rfl
    refine wps_cons <| wst_if <| WPt.mono (KB := fun x => x = true → a < one.length ∧ b < other.length ∧ one.getD a "" = other.getD b "") ?_ fun x hx => ⟨fun z => ?_, fun z => ?_⟩
    · refine wpt_w <| wpw_and <| wpt_val <| wp_name 6 rfl rfl ⟨_, rfl, fun hy => ?_, fun hy z => by cases z⟩
      refine wpw_and1 <| wpt_cmp <| wp_fnH (Gd 5 (by decide) (by decide)) hr <| wpa_cons <| wp_name 0 rfl rfl <| wpa_cons <| wp_int <| wpa_nil ⟨rfl, fun r hv hp => ?_⟩
      obtain ⟨j, _, rfl⟩ := hp
      refine wp_int <| od_gt ⟨_, rfl, fun _ => ?_⟩
      simp only [Bool.and_eq_true, decide_eq_true_eq, Bool.not_eq_true', decide_eq_false_iff_not] at hy
      obtain ⟨y1, y2⟩ := hy
      have q2 : b < other.length := by
        by_cases q : b < other.length
        · exact q
        · exact absurd (lineAt_ge (by omega)) y2
      rw [lineAt_lt q2] at y1
      have q1 : a < one.length := by
        by_cases q : a < one.length
        · exact q
        · rw [lineAt_ge (by omega)] at y1
          cases y1
      rw [lineAt_lt q1] at y1
      exact ⟨q1, q2, by simpa using y1⟩
    · obtain ⟨q1, q2, q3⟩ := hx z
      refine wps_cons <| wst_append 5 rfl hsz <| wp_tup <| wpa_cons <| wp_str <| wpa_cons <| wp_ix <| wp_name 1 rfl rfl <| wp_name 3 rfl rfl <| xd_seq rfl (atI_str rfl q1) <| wpa_nil ⟨[.str "keep", .str (one.getD a "")], rfl, Le rfl, _, rfl, ?_⟩
      refine wps_cons <| wst_par 3 4 rfl nd (by decide) <| wp_binop <| wp_name 3 rfl rfl <| wp_int <| od_add <| wp_binop <| wp_name 4 rfl rfl <| wp_int <| od_add ⟨rfl, rfl, ?_⟩
      show WPs _ _ _ [.hand, .im (eL one), .im (eL other), .im (.int ((a : Int) + 1)), .im (.int ((b : Int) + 1)), .own (.lst (ws.map eS ++ [eS (.keep (one.getD a ""))])), _] _
      rw [hws, cast1, cast1]
      exact wps_nil <| wps_nil <| mkeep q1 q2 q3 _
    · refine wps_cons <| wst_if <| WPt.mono (KB := fun x => (x = true → a < one.length) ∧ (x = false → b < other.length)) ?_ fun x hx => ⟨fun z => ?_, fun z => ?_⟩
      · refine wpt_w <| wpw_or <| wpt_cmp <| wp_name 4 rfl rfl <| wp_callB m.len PySem.boot_len <| wpa_cons <| wp_name 2 rfl rfl <| wpa_nil <| cd_len rfl <| od_eqI ⟨_, rfl, fun hy => ⟨fun _ => ?_, fun z => absurd z (by decide)⟩, fun hy => ?_⟩
        · have := of_decide_eq_true hy
          rw [List.length_map] at this
          omega
        have hy := of_decide_eq_false hy
        rw [List.length_map] at hy
        refine wpw_or1 <| wpt_w <| wpw_and <| wpt_cmp <| wp_name 3 rfl rfl <| wp_callB m.len PySem.boot_len <| wpa_cons <| wp_name 1 rfl rfl <| wpa_nil <| cd_len rfl <| od_lt ⟨_, rfl, fun hz => ?_, fun hz => ⟨fun z => absurd z (by decide), fun _ => by omega⟩⟩
        have hz := of_decide_eq_true hz
        rw [List.length_map] at hz
        refine wpw_and1 <| wpt_cmp <| wp_fnH (Gd 2 (by decide) (by decide)) hr <| wpa_cons <| wp_name 0 rfl rfl <| wpa_cons <| wp_int <| wpa_nil ⟨rfl, fun r hv hp => ?_⟩
        obtain ⟨j, _, rfl⟩ := hp
        exact wp_int <| od_eqI ⟨_, rfl, fun _ => by omega, fun _ => by omega⟩
      · have q1 := hx.1 z
        refine wps_cons <| wst_append 5 rfl hsz <| wp_tup <| wpa_cons <| wp_str <| wpa_cons <| wp_ix <| wp_name 1 rfl rfl <| wp_name 3 rfl rfl <| xd_seq rfl (atI_str rfl q1) <| wpa_nil ⟨[.str "drop", .str (one.getD a "")], rfl, Le rfl, _, rfl, ?_⟩
        refine wps_cons <| wst_set 3 nd <| wp_binop <| wp_name 3 rfl rfl <| wp_int <| od_add ⟨rfl, ?_⟩
        show WPs _ _ _ [.hand, .im (eL one), .im (eL other), .im (.int ((a : Int) + 1)), .im (.int (b : Nat)), .own (.lst (ws.map eS ++ [eS (.drop (one.getD a ""))])), _] _
        rw [hws, cast1]
        exact wps_nil <| wps_nil <| wps_nil <| mdrop q1 _
      · have q1 := hx.2 z
        refine wps_cons <| wst_append 5 rfl hsz <| wp_tup <| wpa_cons <| wp_str <| wpa_cons <| wp_ix <| wp_name 2 rfl rfl <| wp_name 4 rfl rfl <| xd_seq rfl (atI_str rfl q1) <| wpa_nil ⟨[.str "put", .str (other.getD b "")], rfl, Le rfl, _, rfl, ?_⟩
        refine wps_cons <| wst_set 4 nd <| wp_binop <| wp_name 4 rfl rfl <| wp_int <| od_add ⟨rfl, ?_⟩
        show WPs _ _ _ [.hand, .im (eL one), .im (eL other), .im (.int (a : Nat)), .im (.int ((b : Int) + 1)), .own (.lst (ws.map eS ++ [eS (.put (other.getD b ""))])), _] _
        rw [hws, cast1]
        exact wps_nil <| wps_nil <| wps_nil <| mput q1 _
  · have hx : a = one.length ∧ b = other.length := by
      simp only [Bool.or_eq_false_iff, decide_eq_false_iff_not] at hx
      omega
    obtain ⟨rfl, rfl⟩ := hx
    rw [List.take_length] at hs hd
    have J := jd_ok ws
    have wk : ∀ e ∈ ws, e.s ∈ okW := fun e he => (hm e he).elim (fun z => h1.2 _ z) fun z => h2.2 _ z
    refine wps_freeze 5 rfl ?_
    refine wps_cons <| wst_ret <| wp_fn (Gj ws (by omega)) hr <| wpa_cons <| wp_name 5 rfl rfl <| wpa_nil ⟨rfl, rfl, jd ws, rfl, jd_pat (by omega) wk, ?_, ?_, ?_, ?_, ?_, ?_⟩
    · rw [← hs, ← J.s, List.append_nil]
    · rw [← hd, ← J.d, List.append_nil]
    · have := J.t
      simp only [List.length_nil] at this
      omega
    · have := gs_len J
      simp only [List.length_nil] at this
      omega
    · intro g hg s hs'
      obtain ⟨e, he, rfl⟩ := J.m g hg s hs'
      exact wk e he
    · have := dd_le (one := one) (other := other) ws one.length other.length (Nat.le_refl _) (Nat.le_refl _) (by rw [hs, List.take_length]) (by rw [hd, List.take_length])
      have h3 := J.c
      simp only [List.length_nil] at h3
      omega
end
end K84

set_option Elab.async false
set_option linter.all false
set_option pp.maxSteps 300
set_option maxRecDepth 100000
set_option maxHeartbeats 2000000
/-! M3: k82: what a patch leads to, if it fits -/
namespace K84
open PySem PySem.Spec PyProof.Rows L2 DL
/-- bounds of a thing that may be a patch -/
def WDx (x : D) : Prop := ∀ w p, x = .tup [.str w, p] → (∀ n, p = .int n → n ≤ 200) ∧ ∀ l, p = .tup l → ∀ s, D.str s ∈ l → s ∈ okW ∨ nlB s = false
def WD (d : D) : Prop := ∀ xs, d = .tup xs → xs.length ≤ 900 ∧ ∀ x ∈ xs, WDx x
theorem strs_of : ∀ {l : List D}, l.all lineB = true → (∀ s, D.str s ∈ l → s ∈ okW ∨ nlB s = false) → ∃ ls : List Str, l = ls.map D.str ∧ ∀ s ∈ ls, s ∈ okW
  | [], _, _ => ⟨[], rfl, fun s h => (List.not_mem_nil h).elim⟩
  | x :: r, h, hw => by
    rw [List.all_cons, Bool.and_eq_true] at h
    obtain ⟨ls, e, k⟩ := strs_of h.2 fun s hs => hw s (List.mem_cons_of_mem _ hs)
    cases x with
    | str s =>
      have h1 : nlB s = true := h.1
      have h2 : s ∈ okW := (hw s (List.mem_cons_self ..)).elim id fun z => by rw [h1] at z; cases z
      refine ⟨s :: ls, by rw [e]; rfl, fun t ht => ?_⟩
      rcases List.mem_cons.mp ht with z | z
      · rw [z]
        exact h2
      · exact k t z
    | _ => cases h.1
/-- a group told well -/
def GrOk (g : Str × List Str) : Prop := (g.1 = "keep" ∨ g.1 = "drop" ∨ g.1 = "put") ∧ g.2 ≠ [] ∧ Lns g.2
theorem step_of {x : D} (h : sB x = true) (hw : WDx x) : ∃ g : Str × List Str, x = eT g ∧ GrOk g := by
  obtain ⟨p, e⟩ := sB_shape h
  generalize wd x = w at e
  subst e
  obtain ⟨h1, h2⟩ := hw w p rfl
  rw [sB_two] at h
  by_cases hk : w = "keep"
  · rw [if_pos hk] at h
    subst hk
    rcases isI_cases p with ⟨n, rfl⟩ | ⟨_, z⟩
    · have hn : 0 < n := of_decide_eq_true h
      have hn2 := h1 n rfl
      refine ⟨("keep", List.replicate n.toNat ""), ?_, .inl rfl, ?_, ?_, fun s hs => ?_⟩
      · have e : eT ("keep", List.replicate n.toNat "") = .tup [.str "keep", .int (List.replicate n.toNat ("" : Str)).length] := if_pos rfl
        rw [e, List.length_replicate, Int.toNat_of_nonneg (by omega)]
      · intro z
        have := congrArg List.length z
        rw [List.length_replicate] at this
        simp at this
        omega
      · rw [List.length_replicate]
        omega
      · rw [List.eq_of_mem_replicate hs]
        decide +kernel
    · rw [z] at h
      cases h
  · rw [if_neg hk, Bool.and_eq_true, Bool.and_eq_true] at h
    obtain ⟨hin, ha, hp⟩ := h
    have hin : w ∈ (["drop", "put"] : List Str) := of_decide_eq_true hin
    rcases alB_cases p with ⟨l, rfl⟩ | z
    · have ha : (decide (l.length ≤ 200) && l.all lineB) = true := ha
      rw [Bool.and_eq_true, decide_eq_true_eq] at ha
      have hp : 0 < l.length := of_decide_eq_true hp
      obtain ⟨ls, rfl, k⟩ := strs_of ha.2 (h2 l rfl)
      rw [List.length_map] at ha hp
      refine ⟨(w, ls), (if_neg hk).symm, ?_, List.length_pos_iff.mp hp, ha.1, k⟩
      simp only [List.mem_cons, List.not_mem_nil, or_false] at hin
      exact .inr hin
    · rw [z] at ha
      cases ha
theorem wd_eT (g : Str × List Str) : wd (eT g) = g.1 := by
  obtain ⟨v, e⟩ := eT_ix g
  rw [e]
  rfl
theorem gs_of {d : D} (h : patB d = true) (hw : WD d) : ∃ gs : Gs, d = eP gs ∧ PatOk gs ∧ gs.length ≤ 900 := by
  cases d with
  | tup xs =>
    have h : patL xs = true := h
    unfold patL at h
    rw [Bool.and_eq_true, decide_eq_true_eq] at h
    obtain ⟨h1, h2⟩ := h
    obtain ⟨w1, w2⟩ := hw xs rfl
    have key : ∀ {ys : List D}, ys.all sB = true → (∀ x ∈ ys, WDx x) → ∃ gs : Gs, ys = gs.map eT ∧ ∀ g ∈ gs, GrOk g := by
      intro ys
      induction ys with
      | nil => exact fun _ _ => ⟨[], rfl, fun g hg => (List.not_mem_nil hg).elim⟩
      | cons y r ih =>
        intro ha hx
        rw [List.all_cons, Bool.and_eq_true] at ha
        obtain ⟨g, e1, e2⟩ := step_of ha.1 (hx y (List.mem_cons_self ..))
        obtain ⟨gs, e3, e4⟩ := ih ha.2 fun x hm => hx x (List.mem_cons_of_mem _ hm)
        refine ⟨g :: gs, by rw [e1, e3]; rfl, fun t ht => ?_⟩
        rcases List.mem_cons.mp ht with z | z
        · rw [z]
          exact e2
        · exact e4 t z
    obtain ⟨gs, rfl, k⟩ := key h1 w2
    rw [List.length_map] at w1
    refine ⟨gs, rfl, ⟨fun g hg => (k g hg).1, fun g hg => (k g hg).2, fun i a b ha hb => ?_⟩, w1⟩
    have hi : i + 1 < gs.length := (List.getElem?_eq_some_iff.mp hb).1
    have hz := h2 i (by rw [List.length_map]; omega)
    have ea : (gs.map eT).getD i .non = eT a := by
      rw [List.getD_eq_getElem?_getD, List.getElem?_map, ha]
      rfl
    have eb : (gs.map eT).getD (i + 1) .non = eT b := by
      rw [List.getD_eq_getElem?_getD, List.getElem?_map, hb]
      rfl
    unfold badAt at hz
    rw [ea, eb, wd_eT, wd_eT] at hz
    unfold bad at hz
    rw [Bool.or_eq_false_iff, decide_eq_false_iff_not, Bool.and_eq_false_iff, decide_eq_false_iff_not, decide_eq_false_iff_not] at hz
    exact ⟨hz.1, fun z => hz.2.elim (fun y => y z.2) fun y => y z.1⟩
  | _ => cases h
theorem patB_eP {gs : Gs} (h : PatOk gs) : patB (eP gs) = true := by
  obtain ⟨h1, h2, h3⟩ := h
  show patL (gs.map eT) = true
  unfold patL
  rw [Bool.and_eq_true, decide_eq_true_eq]
  refine ⟨List.all_eq_true.mpr fun x hx => ?_, fun i hi => ?_⟩
  · obtain ⟨g, hg, rfl⟩ := List.mem_map.mp hx
    have a := h1 g hg
    obtain ⟨b, c⟩ := h2 g hg
    have hp := List.length_pos_iff.mpr b
    by_cases hk : g.1 = "keep"
    · have e : eT g = .tup [.str g.1, .int g.2.length] := if_pos hk
      rw [e, sB_two, if_pos hk]
      exact decide_eq_true (by omega)
    · have e : eT g = .tup [.str g.1, eL g.2] := if_neg hk
      rw [e, sB_two, if_neg hk]
      have hin : g.1 ∈ (["drop", "put"] : List Str) := by
        rcases a with z | z | z
        · exact absurd z hk
        · rw [z]; simp
        · rw [z]; simp
      rw [decide_eq_true hin, Bool.true_and, Bool.and_eq_true]
      refine ⟨?_, decide_eq_true (by rw [List.length_map]; exact hp)⟩
      show (decide ((g.2.map D.str).length ≤ 200) && (g.2.map D.str).all lineB) = true
      rw [Bool.and_eq_true, decide_eq_true_eq, List.length_map]
      refine ⟨c.1, List.all_eq_true.mpr fun y hy => ?_⟩
      obtain ⟨s, hs, rfl⟩ := List.mem_map.mp hy
      exact okW_nl s (c.2 s hs)
  · rw [List.length_map] at hi
    unfold badAt
    have i1 : i < gs.length := by omega
    have i2 : i + 1 < gs.length := by omega
    rw [getD_map eT i1, getD_map eT i2, wd_eT, wd_eT]
    obtain ⟨n1, n2⟩ := h3 i gs[i] gs[i + 1] (List.getElem?_eq_getElem i1) (List.getElem?_eq_getElem i2)
    unfold bad
    rw [decide_eq_false n1, Bool.false_or, Bool.and_eq_false_iff]
    by_cases q : gs[i].1 = "put"
    · right
      exact decide_eq_false fun z => n2 ⟨z, q⟩
    · left
      exact decide_eq_false q
/-! ### led -/
def ledStep (one : List Str) : Option (Nat × List Str) → (Str × List Str) → Option (Nat × List Str)
  | none, _ => none
  | some (a, f), g => if g.1 = "put" then some (a, f ++ g.2) else if g.1 = "drop" then (if cutG one (some (a : Int)) (some ((a : Int) + (g.2.length : Int))) = g.2 then some (a + g.2.length, f) else none)
    else (if a + g.2.length ≤ one.length then some (a + g.2.length, f ++ cutG one (some (a : Int)) (some ((a : Int) + (g.2.length : Int)))) else none)
def ledA (one : List Str) (gs : Gs) : Option (Nat × List Str) := gs.foldl (ledStep one) (some (0, []))
def ledS (one : List Str) (gs : Gs) : Option (List Str) := match ledA one gs with
  | some (a, f) => if a = one.length then some f else none
  | none => none
def eO : Option (List Str) → D
  | some l => eL l
  | none => .non
theorem ledA_next {one : List Str} {gs : Gs} {i : Nat} (h : i < gs.length) : ledA one (gs.take (i + 1)) = ledStep one (ledA one (gs.take i)) gs[i] := by
  unfold ledA
  rw [take_next h, List.foldl_append]
  rfl
theorem led_none (one : List Str) : ∀ gs : Gs, gs.foldl (ledStep one) none = none
  | [] => rfl
  | g :: r => led_none one r
theorem ledA_none {one : List Str} {gs : Gs} {i : Nat} (h : ledA one (gs.take i) = none) : ledS one gs = none := by
  have e : ledA one gs = none := by
    unfold ledA at h ⊢
    rw [← List.take_append_drop i gs, List.foldl_append, h]
    exact led_none one _
  unfold ledS
  rw [e]
theorem cutG_len {one : List Str} {a n : Nat} : (cutG one (some (a : Int)) (some ((a : Int) + (n : Int)))).length ≤ one.length - a ∧ (cutG one (some (a : Int)) (some ((a : Int) + (n : Int)))).length ≤ n := by
  unfold cutG
  rw [show (a : Int) + (n : Int) = ((a + n : Nat) : Int) by omega, HT.sIx_nat, HT.sIx_nat, List.length_take, List.length_drop]
  omega
theorem cutG_sub {one : List Str} {a b : Option Int} {s : Str} (h : s ∈ cutG one a b) : s ∈ one := by
  unfold cutG at h
  exact List.mem_of_mem_drop (List.mem_of_mem_take h)
/-- what is led to stands well -/
theorem ledA_ok {one : List Str} (h1 : Lns one) : ∀ (gs : Gs), PatOk gs → ∀ (i : Nat), i ≤ gs.length → ∀ a f, ledA one (gs.take i) = some (a, f) → a ≤ one.length ∧ f.length ≤ 200 * i ∧ ∀ s ∈ f, s ∈ okW
  | gs, hp, 0, _, a, f, h => by
    cases h
    exact ⟨Nat.zero_le _, Nat.le_refl _, fun s hs => (List.not_mem_nil hs).elim⟩
  | gs, hp, i + 1, hi, a, f, h => by
    rw [ledA_next (by omega)] at h
    obtain ⟨hne, hl⟩ := hp.2.1 gs[i] (List.getElem_mem _)
    cases e : ledA one (gs.take i) with
    | none => rw [e] at h; cases h
    | some st =>
      obtain ⟨a0, f0⟩ := st
      obtain ⟨k1, k2, k3⟩ := ledA_ok h1 gs hp i (by omega) a0 f0 e
      rw [e] at h
      generalize gs[i] = g at h hne hl
      have hl1 := hl.1
      have hpos := List.length_pos_iff.mpr hne
      have cl := cutG_len (one := one) (a := a0) (n := g.2.length)
      unfold ledStep at h
      simp only at h
      split at h
      · cases h
        refine ⟨k1, by rw [List.length_append]; omega, fun s hs => ?_⟩
        rcases List.mem_append.mp hs with z | z
        · exact k3 s z
        · exact hl.2 s z
      · split at h
        · split at h
          · rename_i q
            cases h
            rw [q] at cl
            exact ⟨by omega, by omega, k3⟩
          · cases h
        · split at h
          · rename_i q
            cases h
            refine ⟨q, by rw [List.length_append]; omega, fun s hs => ?_⟩
            rcases List.mem_append.mp hs with z | z
            · exact k3 s z
            · exact h1.2 s (cutG_sub z)
          · cases h
section
variable {P : Program} {w : World} {K : PySem.W.Frag} {mg : Str → Option Value} {base : Heap} {f : Addr} {fd : FuncData} {k : Nat}
abbrev sLby : Stmt := topS 23
theorem scLby : FnScope ["one", "steps", "at", "found", "word", "part"] ["one", "steps"] (defScope sLby) := ⟨rfl, rfl, rfl, by decide +kernel, rfl, by decide +kernel, by decide +kernel⟩
theorem ok_LbyG (m : M mg) {one : List Str} {gs : Gs} (h1 : Lns one) (hp : PatOk gs) (hl : gs.length ≤ 900) (d : Df K mg "led_by" sLby ["one", "steps"]) : Fn P w K mg base (k + 1) "led_by" [eL one, eP gs] (.im (eO (ledS one gs))) := by
  refine fn_mk d scLby rfl (by simp) rfl fun f cdv A outer s H E c hr => ?_
  have nd := scLby.nd
  have hu64 := hr.units
  have l1 := h1.1
  obtain ⟨tk, hK⟩ := m.keep
  obtain ⟨td, hD⟩ := m.drop
  show WPs _ _ _ [.im (eL one), .im (eP gs), .any, .any, .any, .any] _
  refine wps_cons <| wst_par 2 3 rfl nd (by decide) <| wp_int <| wp_lst <| wpa_nil ⟨[], rfl, Le rfl, rfl, rfl, ?_⟩
  refine wps_cons <| wst_for (fun i Γ => ∃ (a : Nat) (fo : List Str) (s4 s5 : Sl), ledA one (gs.take i) = some (a, fo) ∧ Γ = [.im (eL one), .im (eP gs), .im (.int (a : Nat)), .own (.lst (fo.map D.str)), s4, s5]) <| wpi_tup <| wp_name 1 rfl rfl <| ⟨_, rfl, ⟨0, [], _, _, rfl, rfl⟩, fun F1 i Γ' hi hj => ?_, fun Γ' hj => ?_⟩
  · obtain ⟨a, fo, s4, s5, hA, rfl⟩ := hj
    have hi' : i < gs.length := by simpa using hi
    obtain ⟨k1, k2, k3⟩ := ledA_ok h1 gs hp i (by omega) a fo hA
    obtain ⟨hne, hln⟩ := hp.2.1 gs[i] (List.getElem_mem hi')
    have hw3 := hp.1 gs[i] (List.getElem_mem hi')
    have hnx := ledA_next (one := one) hi'
    rw [hA] at hnx
    have hno : ledA one (gs.take (i + 1)) = none → Sl.im .non = Sl.im (eO (ledS one gs)) := fun z => by rw [ledA_none z]; rfl
    show GtD _ _ _ (.im ((gs.map eT).getD i .non)) _ _
    rw [getD_map eT hi']
    generalize gs[i] = g at hne hln hw3 hnx
    obtain ⟨wd, ls⟩ := g
    simp only at hne hln hw3
    have hpos := List.length_pos_iff.mpr hne
    have hlw := hln.2
    have hl2 := hln.1
    have hcl := cutG_len (one := one) (a := a) (n := ls.length)
    have ecut : cutD (one.map D.str) (some (a : Int)) (some ((a : Int) + (ls.length : Int))) = (cutG one (some (a : Int)) (some ((a : Int) + (ls.length : Int)))).map D.str := cutD_map _ _ _ _
    have hsc : ∀ s ∈ cutG one (some (a : Int)) (some ((a : Int) + (ls.length : Int))), s ∈ okW := fun s hs => h1.2 s (cutG_sub hs)
    obtain ⟨cu, ecu⟩ : ∃ cu, cu = cutG one (some (a : Int)) (some ((a : Int) + (ls.length : Int))) := ⟨_, rfl⟩
    rw [← ecu] at hcl ecut hsc
    have szx : ∀ {n : Nat}, n ≤ 200 → (fo.map D.str).length + n ≤ sizeLine := fun {n} h => by
      rw [List.length_map]
      exact Nat.le_trans (show _ ≤ 200000 by omega) (by decide)
    rcases hw3 with rfl | rfl | rfl
    · -- keep
      have et : eT ("keep", ls) = .tup [.str "keep", .int ls.length] := if_pos rfl
      have hnx : ledA one (gs.take (i + 1)) = if a + ls.length ≤ one.length then some (a + ls.length, fo ++ cu) else none := by rw [hnx, ecu]; rfl
      rw [et]
      refine gt_tup2 4 5 rfl nd ?_
      refine wps_seq (fun Γ => Γ = [.im (eL one), .im (eP gs), .im (.int ((a : Int) + (ls.length : Int))), .own (.lst (fo.map D.str ++ cu.map D.str)), .im (.str "keep"), .im (.int ls.length)]) ?_ ?_
      · refine wst_if <| wpt_cmp <| wp_name 4 rfl rfl <| wp_gstr rfl hK <| od_eqS ⟨_, rfl, fun _ => ?_, fun hx => absurd hx (by decide)⟩
        refine wps_cons <| wst_extend 3 rfl <| wp_sliceT <| wp_name 0 rfl rfl <| ⟨_, rfl, wpo_some <| wp_name 2 rfl rfl ⟨_, rfl, wpo_some <| wp_binop <| wp_name 2 rfl rfl <| wp_name 5 rfl rfl <| od_add ⟨_, rfl, cu.map D.str, by rw [ecut]; rfl, szx (by rw [List.length_map]; omega), ?_⟩⟩⟩
        exact wps_cons <| wst_aug 2 rfl nd <| wp_name 5 rfl rfl <| od_iadd ⟨rfl, wps_nil rfl⟩
      · rintro Γ rfl
        refine wps_cons <| wst_if <| wpt_cmp <| wp_name 2 rfl rfl <| wp_callB m.len PySem.boot_len <| wpa_cons <| wp_name 0 rfl rfl <| wpa_nil <| cd_len rfl <| od_gt ⟨_, rfl, fun hx => ?_, fun hx => wps_nil (wps_nil ⟨a + ls.length, fo ++ cu, .im (.str "keep"), .im (.int ls.length), ?_, ?_⟩)⟩
        · have hx := of_decide_eq_true hx
          rw [List.length_map] at hx
          exact wps_cons <| wst_ret <| wp_non (hno (by rw [hnx, if_neg (by omega)]))
        · have hx := of_decide_eq_false hx
          rw [List.length_map] at hx
          rw [hnx, if_pos (by omega)]
        · rw [List.map_append, Int.natCast_add]
    · -- drop
      have et : eT ("drop", ls) = .tup [.str "drop", eL ls] := if_neg (show ¬ ("drop" : Str) = "keep" by decide)
      have hnx : ledA one (gs.take (i + 1)) = if cu = ls then some (a + ls.length, fo) else none := by rw [hnx, ecu]; rfl
      have hsl := shaped_strs (strsOk_of hlw)
      have hsc2 := shaped_strs (strsOk_of hsc)
      have elen : ((a : Int) + ((ls.map D.str).length : Int)) = (a : Int) + (ls.length : Int) := by rw [List.length_map]
      rw [et]
      refine gt_tup2 4 5 rfl nd ?_
      refine wps_seq (fun Γ => Γ = [.im (eL one), .im (eP gs), .im (.int ((a : Int) + (ls.length : Int))), .own (.lst (fo.map D.str)), .im (.str "drop"), .im (eL ls)] ∧ cu = ls) ?_ ?_
      · refine wst_if <| wpt_cmp <| wp_name 4 rfl rfl <| wp_gstr rfl hK <| od_eqS ⟨_, rfl, fun hx => absurd hx (by decide), fun _ => ?_⟩
        refine wps_cons <| wst_if <| wpt_cmp <| wp_name 4 rfl rfl <| wp_gstr rfl hD <| od_eqS ⟨_, rfl, fun _ => ?_, fun hx => absurd hx (by decide)⟩
        refine wps_cons <| wst_if <| wpt_cmp <| wp_sliceT <| wp_name 0 rfl rfl <| ⟨_, rfl, wpo_some <| wp_name 2 rfl rfl ⟨_, rfl, wpo_some <| wp_binop <| wp_name 2 rfl rfl <| wp_callB m.len PySem.boot_len <| wpa_cons <| wp_name 5 rfl rfl <| wpa_nil <| cd_len rfl <| od_add ⟨_, rfl, wp_name 5 rfl rfl ?_⟩⟩⟩
        show OpD _ _ _ (.im (.tup (cutD (one.map D.str) (some (a : Int)) (some ((a : Int) + ((ls.map D.str).length : Int)))))) (.im (eL ls)) _
        rw [elen, ecut]
        refine od_neD hu64 hsc2 hsl ⟨_, rfl, fun hx => ?_, fun hx => wps_nil ?_⟩
        · rw [show eL ls = .tup (ls.map D.str) from rfl, eqv_strs] at hx
          have hx : ¬ cu = ls := by simpa using hx
          exact wps_cons <| wst_ret <| wp_non (hno (by rw [hnx, if_neg hx]))
        · rw [show eL ls = .tup (ls.map D.str) from rfl, eqv_strs] at hx
          have hx : cu = ls := by simpa using hx
          refine wps_cons <| wst_aug 2 rfl nd <| wp_callB m.len PySem.boot_len <| wpa_cons <| wp_name 5 rfl rfl <| wpa_nil <| cd_len rfl <| od_iadd ⟨rfl, wps_nil (wps_nil ⟨?_, hx⟩)⟩
          rw [elen]
          rfl
      · rintro Γ ⟨rfl, he⟩
        rw [he] at hcl
        refine wps_cons <| wst_if <| wpt_cmp <| wp_name 2 rfl rfl <| wp_callB m.len PySem.boot_len <| wpa_cons <| wp_name 0 rfl rfl <| wpa_nil <| cd_len rfl <| od_gt ⟨_, rfl, fun hx => ?_, fun hx => wps_nil (wps_nil ⟨a + ls.length, fo, .im (.str "drop"), .im (eL ls), ?_, ?_⟩)⟩
        · have hx := of_decide_eq_true hx
          rw [List.length_map] at hx
          omega
        · rw [hnx, if_pos he]
        · rw [Int.natCast_add]
    · -- put
      have et : eT ("put", ls) = .tup [.str "put", eL ls] := if_neg (show ¬ ("put" : Str) = "keep" by decide)
      have hnx : ledA one (gs.take (i + 1)) = some (a, fo ++ ls) := hnx
      rw [et]
      refine gt_tup2 4 5 rfl nd ?_
      refine wps_seq (fun Γ => Γ = [.im (eL one), .im (eP gs), .im (.int (a : Nat)), .own (.lst (fo.map D.str ++ ls.map D.str)), .im (.str "put"), .im (eL ls)]) ?_ ?_
      · refine wst_if <| wpt_cmp <| wp_name 4 rfl rfl <| wp_gstr rfl hK <| od_eqS ⟨_, rfl, fun hx => absurd hx (by decide), fun _ => ?_⟩
        refine wps_cons <| wst_if <| wpt_cmp <| wp_name 4 rfl rfl <| wp_gstr rfl hD <| od_eqS ⟨_, rfl, fun hx => absurd hx (by decide), fun _ => ?_⟩
        exact wps_cons <| wst_extend 3 rfl <| wp_name 5 rfl rfl ⟨_, rfl, szx (by rw [List.length_map]; omega), wps_nil (wps_nil rfl)⟩
      · rintro Γ rfl
        refine wps_cons <| wst_if <| wpt_cmp <| wp_name 2 rfl rfl <| wp_callB m.len PySem.boot_len <| wpa_cons <| wp_name 0 rfl rfl <| wpa_nil <| cd_len rfl <| od_gt ⟨_, rfl, fun hx => ?_, fun hx => wps_nil (wps_nil ⟨a, fo ++ ls, .im (.str "put"), .im (eL ls), hnx, ?_⟩)⟩
        · have hx := of_decide_eq_true hx
          rw [List.length_map] at hx
          omega
        · rw [List.map_append]
  · obtain ⟨a, fo, s4, s5, hA, rfl⟩ := hj
    rw [List.length_map, List.take_length] at hA
    have e0 : ledS one gs = if a = one.length then some fo else none := by
      unfold ledS
      rw [hA]
    refine wps_cons <| wst_ret <| wp_ifExp <| wpt_cmp <| wp_name 2 rfl rfl <| wp_callB m.len PySem.boot_len <| wpa_cons <| wp_name 0 rfl rfl <| wpa_nil <| cd_len rfl <| od_eqI ⟨_, rfl, fun hx => wp_callTy m.tup PyProof.Rows.boot_tuple <| wpa_cons <| wp_name 3 rfl rfl <| wpa_nil <| cd_tuple rfl ?_, fun hx => wp_non ?_⟩
    · have hx := of_decide_eq_true hx
      rw [List.length_map] at hx
      rw [e0, if_pos (by omega)]
      rfl
    · have hx := of_decide_eq_false hx
      rw [List.length_map] at hx
      rw [e0, if_neg (by omega)]
      rfl
theorem ok_LedG (m : M mg) {one : List Str} {gs : Gs} (h1 : Lns one) (hp : PatOk gs) (hl : gs.length ≤ 900) (d : Df K mg "_law_led" sLed ["one", "steps"]) : Fn P w K mg base (k + 1) "_law_led" [eL one, eP gs] (.im (eO (ledS one gs))) := by
  refine fn_mk d scLed rfl (by simp) rfl fun f cdv A outer s H E c hr => ?_
  have nd := scLed.nd
  have hu64 := hr.units
  have l1 := h1.1
  show WPs _ _ _ [.im (eL one), .im (eP gs), .any, .any, .any, .any] _
  refine wps_cons <| wst_par 2 3 rfl nd (by decide) <| wp_int <| wp_lst <| wpa_nil ⟨[], rfl, Le rfl, rfl, rfl, ?_⟩
  refine wps_cons <| wst_for (fun i Γ => ∃ (a : Nat) (fo : List Str) (s4 s5 : Sl), ledA one (gs.take i) = some (a, fo) ∧ Γ = [.im (eL one), .im (eP gs), .im (.int (a : Nat)), .own (.lst (fo.map D.str)), s4, s5]) <| wpi_tup <| wp_name 1 rfl rfl <| ⟨_, rfl, ⟨0, [], _, _, rfl, rfl⟩, fun F1 i Γ' hi hj => ?_, fun Γ' hj => ?_⟩
  · obtain ⟨a, fo, s4, s5, hA, rfl⟩ := hj
    have hi' : i < gs.length := by simpa using hi
    obtain ⟨k1, k2, k3⟩ := ledA_ok h1 gs hp i (by omega) a fo hA
    obtain ⟨hne, hln⟩ := hp.2.1 gs[i] (List.getElem_mem hi')
    have hw3 := hp.1 gs[i] (List.getElem_mem hi')
    have hnx := ledA_next (one := one) hi'
    rw [hA] at hnx
    have hno : ledA one (gs.take (i + 1)) = none → Sl.im .non = Sl.im (eO (ledS one gs)) := fun z => by rw [ledA_none z]; rfl
    show GtD _ _ _ (.im ((gs.map eT).getD i .non)) _ _
    rw [getD_map eT hi']
    generalize gs[i] = g at hne hln hw3 hnx
    obtain ⟨wd, ls⟩ := g
    simp only at hne hln hw3
    have hpos := List.length_pos_iff.mpr hne
    have hlw := hln.2
    have hl2 := hln.1
    have hcl := cutG_len (one := one) (a := a) (n := ls.length)
    have ecut : cutD (one.map D.str) (some (a : Int)) (some ((a : Int) + (ls.length : Int))) = (cutG one (some (a : Int)) (some ((a : Int) + (ls.length : Int)))).map D.str := cutD_map _ _ _ _
    have hsc : ∀ s ∈ cutG one (some (a : Int)) (some ((a : Int) + (ls.length : Int))), s ∈ okW := fun s hs => h1.2 s (cutG_sub hs)
    obtain ⟨cu, ecu⟩ : ∃ cu, cu = cutG one (some (a : Int)) (some ((a : Int) + (ls.length : Int))) := ⟨_, rfl⟩
    rw [← ecu] at hcl ecut hsc
    have szx : ∀ {n : Nat}, n ≤ 200 → (fo.map D.str).length + n ≤ sizeLine := fun {n} h => by
      rw [List.length_map]
      exact Nat.le_trans (show _ ≤ 200000 by omega) (by decide)
    rcases hw3 with rfl | rfl | rfl
    · -- keep
      have et : eT ("keep", ls) = .tup [.str "keep", .int ls.length] := if_pos rfl
      have hnx : ledA one (gs.take (i + 1)) = if a + ls.length ≤ one.length then some (a + ls.length, fo ++ cu) else none := by rw [hnx, ecu]; rfl
      rw [et]
      refine gt_tup2 4 5 rfl nd ?_
      refine wps_cons <| wst_if <| wpt_cmp <| wp_name 4 rfl rfl <| wp_str <| od_eqS ⟨_, rfl, fun hx => absurd hx (by decide), fun _ => ?_⟩
      refine wps_cons <| wst_if <| wpt_cmp <| wp_name 4 rfl rfl <| wp_str <| od_eqS ⟨_, rfl, fun hx => absurd hx (by decide), fun _ => ?_⟩
      refine wps_cons <| wst_if <| wpt_cmp <| wp_binop <| wp_name 2 rfl rfl <| wp_name 5 rfl rfl <| od_add <| wp_callB m.len PySem.boot_len <| wpa_cons <| wp_name 0 rfl rfl <| wpa_nil <| cd_len rfl <| od_gt ⟨_, rfl, fun hx => ?_, fun hx => wps_nil ?_⟩
      · have hx := of_decide_eq_true hx
        rw [List.length_map] at hx
        exact wps_cons <| wst_ret <| wp_non (hno (by rw [hnx, if_neg (by omega)]))
      have hx := of_decide_eq_false hx
      rw [List.length_map] at hx
      refine wps_cons <| wst_extend 3 rfl <| wp_callTy m.list PyProof.Rows.boot_list <| wpa_cons <| wp_sliceT <| wp_name 0 rfl rfl <| ⟨_, rfl, wpo_some <| wp_name 2 rfl rfl ⟨_, rfl, wpo_some <| wp_binop <| wp_name 2 rfl rfl <| wp_name 5 rfl rfl <| od_add ⟨_, rfl, wpa_nil <| cd_list rfl ⟨cu.map D.str, by rw [ecut]; rfl, szx (by rw [List.length_map]; omega), ?_⟩⟩⟩⟩
      refine wps_cons <| wst_set 2 nd <| wp_binop <| wp_name 2 rfl rfl <| wp_name 5 rfl rfl <| od_add ⟨rfl, wps_nil (wps_nil (wps_nil ⟨a + ls.length, fo ++ cu, .im (.str "keep"), .im (.int ls.length), ?_, ?_⟩))⟩
      · rw [hnx, if_pos (by omega)]
      · rw [List.map_append, Int.natCast_add]
        rfl
    · -- drop
      have et : eT ("drop", ls) = .tup [.str "drop", eL ls] := if_neg (show ¬ ("drop" : Str) = "keep" by decide)
      have hnx : ledA one (gs.take (i + 1)) = if cu = ls then some (a + ls.length, fo) else none := by rw [hnx, ecu]; rfl
      have hsl := shaped_strs (strsOk_of hlw)
      have hsc2 := shaped_strs (strsOk_of hsc)
      have elen : ((a : Int) + ((ls.map D.str).length : Int)) = (a : Int) + (ls.length : Int) := by rw [List.length_map]
      rw [et]
      refine gt_tup2 4 5 rfl nd ?_
      refine wps_cons <| wst_if <| wpt_cmp <| wp_name 4 rfl rfl <| wp_str <| od_eqS ⟨_, rfl, fun hx => absurd hx (by decide), fun _ => ?_⟩
      refine wps_cons <| wst_if <| wpt_cmp <| wp_name 4 rfl rfl <| wp_str <| od_eqS ⟨_, rfl, fun _ => ?_, fun hx => absurd hx (by decide)⟩
      refine wps_cons <| wst_if <| wpt_cmp <| wp_sliceT <| wp_name 0 rfl rfl <| ⟨_, rfl, wpo_some <| wp_name 2 rfl rfl ⟨_, rfl, wpo_some <| wp_binop <| wp_name 2 rfl rfl <| wp_callB m.len PySem.boot_len <| wpa_cons <| wp_name 5 rfl rfl <| wpa_nil <| cd_len rfl <| od_add ⟨_, rfl, wp_name 5 rfl rfl ?_⟩⟩⟩
      show OpD _ _ _ (.im (.tup (cutD (one.map D.str) (some (a : Int)) (some ((a : Int) + ((ls.map D.str).length : Int)))))) (.im (eL ls)) _
      rw [elen, ecut]
      refine od_neD hu64 hsc2 hsl ⟨_, rfl, fun hx => ?_, fun hx => wps_nil ?_⟩
      · rw [show eL ls = .tup (ls.map D.str) from rfl, eqv_strs] at hx
        have hx : ¬ cu = ls := by simpa using hx
        exact wps_cons <| wst_ret <| wp_non (hno (by rw [hnx, if_neg hx]))
      · rw [show eL ls = .tup (ls.map D.str) from rfl, eqv_strs] at hx
        have hx : cu = ls := by simpa using hx
        refine wps_cons <| wst_set 2 nd <| wp_binop <| wp_name 2 rfl rfl <| wp_callB m.len PySem.boot_len <| wpa_cons <| wp_name 5 rfl rfl <| wpa_nil <| cd_len rfl <| od_add ⟨rfl, wps_nil (wps_nil (wps_nil ⟨a + ls.length, fo, .im (.str "drop"), .im (eL ls), ?_, ?_⟩))⟩
        · rw [hnx, if_pos hx]
        · rw [elen, Int.natCast_add]
          rfl
    · -- put
      have et : eT ("put", ls) = .tup [.str "put", eL ls] := if_neg (show ¬ ("put" : Str) = "keep" by decide)
      have hnx : ledA one (gs.take (i + 1)) = some (a, fo ++ ls) := hnx
      rw [et]
      refine gt_tup2 4 5 rfl nd ?_
      refine wps_cons <| wst_if <| wpt_cmp <| wp_name 4 rfl rfl <| wp_str <| od_eqS ⟨_, rfl, fun _ => ?_, fun hx => absurd hx (by decide)⟩
      refine wps_cons <| wst_extend 3 rfl <| wp_callTy m.list PyProof.Rows.boot_list <| wpa_cons <| wp_name 5 rfl rfl <| wpa_nil <| cd_list rfl ⟨_, rfl, szx (by rw [List.length_map]; omega), wps_nil (wps_nil ⟨a, fo ++ ls, .im (.str "put"), .im (eL ls), hnx, ?_⟩)⟩
      rw [List.map_append]
      rfl
  · obtain ⟨a, fo, s4, s5, hA, rfl⟩ := hj
    rw [List.length_map, List.take_length] at hA
    have e0 : ledS one gs = if a = one.length then some fo else none := by
      unfold ledS
      rw [hA]
    refine wps_cons <| wst_ret <| wp_ifExp <| wpt_cmp <| wp_name 2 rfl rfl <| wp_callB m.len PySem.boot_len <| wpa_cons <| wp_name 0 rfl rfl <| wpa_nil <| cd_len rfl <| od_eqI ⟨_, rfl, fun hx => wp_callTy m.tup PyProof.Rows.boot_tuple <| wpa_cons <| wp_name 3 rfl rfl <| wpa_nil <| cd_tuple rfl ?_, fun hx => wp_non ?_⟩
    · have hx := of_decide_eq_true hx
      rw [List.length_map] at hx
      rw [e0, if_pos (by omega)]
      rfl
    · have hx := of_decide_eq_false hx
      rw [List.length_map] at hx
      rw [e0, if_neg (by omega)]
      rfl
end
end K84

set_option Elab.async false
set_option linter.all false
set_option pp.maxSteps 300
set_option maxRecDepth 100000
set_option maxHeartbeats 2000000
/-! M7: k82, plain: a patch turned; where it leads; the least lines -/
namespace K84
open PySem PySem.Spec PyProof.Rows L2 DL
def tnStep (f : Gs) (g : Str × List Str) : Gs := if g.1 = "keep" then f ++ [g] else if g.1 = "drop" then f ++ [(("put" : Str), g.2)] else
  match f.getLast? with
  | some p => if p.1 = "put" then f.dropLast ++ [(("drop" : Str), g.2), p] else f ++ [(("drop" : Str), g.2)]
  | none => f ++ [(("drop" : Str), g.2)]
def tn (gs : Gs) : Gs := gs.foldl tnStep []
theorem tn_snoc (gs : Gs) (g : Str × List Str) : tn (gs ++ [g]) = tnStep (tn gs) g := by
  unfold tn
  rw [List.foldl_append]
  rfl
theorem tnStep_keep (f : Gs) (l : List Str) : tnStep f ("keep", l) = f ++ [(("keep" : Str), l)] := if_pos rfl
theorem tnStep_drop (f : Gs) (l : List Str) : tnStep f ("drop", l) = f ++ [(("put" : Str), l)] := by
  unfold tnStep
  rw [if_neg (show ¬ ("drop" : Str) = "keep" by decide), if_pos rfl]
/-- the last one keeps, or there is none -/
def NK (gs : Gs) : Prop := ∀ y, gs.getLast? = some y → y.1 = "keep"
theorem tnStep_put {f : Gs} (h : NK f) (l : List Str) : tnStep f ("put", l) = f ++ [(("drop" : Str), l)] := by
  unfold tnStep
  rw [if_neg (show ¬ ("put" : Str) = "keep" by decide), if_neg (show ¬ ("put" : Str) = "drop" by decide)]
  cases e : f.getLast? with
  | none => rfl
  | some p => exact if_neg (by rw [h p e]; decide)
theorem tnStep_put2 (f : Gs) (a l : List Str) : tnStep (f ++ [(("put" : Str), a)]) ("put", l) = f ++ [(("drop" : Str), l), (("put" : Str), a)] := by
  unfold tnStep
  rw [if_neg (show ¬ ("put" : Str) = "keep" by decide), if_neg (show ¬ ("put" : Str) = "drop" by decide), List.getLast?_concat, List.dropLast_concat]
  exact if_pos rfl
theorem tn_pair (gs : Gs) (a l : List Str) : tn (gs ++ [(("drop" : Str), a), (("put" : Str), l)]) = tn gs ++ [(("drop" : Str), l), (("put" : Str), a)] := by
  rw [show gs ++ [(("drop" : Str), a), (("put" : Str), l)] = gs ++ [(("drop" : Str), a)] ++ [(("put" : Str), l)] by simp, tn_snoc, tn_snoc, tnStep_drop, tnStep_put2]
theorem nk_snoc (gs : Gs) (l : List Str) : NK (gs ++ [(("keep" : Str), l)]) := fun y hy => by
  rw [List.getLast?_concat] at hy
  cases hy
  rfl
theorem patok_pre {a b : Gs} (h : PatOk (a ++ b)) : PatOk a := ⟨fun g hg => h.1 g (List.mem_append_left _ hg), fun g hg => h.2.1 g (List.mem_append_left _ hg), fun i x y hx hy => h.2.2 i x y (by
  rw [List.getElem?_append_left (List.getElem?_eq_some_iff.mp hx).1]; exact hx) (by rw [List.getElem?_append_left (List.getElem?_eq_some_iff.mp hy).1]; exact hy)⟩
theorem patok_last {a : Gs} {x y : Str × List Str} (h : PatOk (a ++ [y])) (hx : a.getLast? = some x) : RG x y := by
  obtain ⟨a0, rfl⟩ : ∃ a0, a = a0 ++ [x] := List.getLast?_eq_some_iff.mp hx
  exact h.2.2 a0.length x y (by simp) (by simp)
theorem patok_snoc {gs : Gs} {g : Str × List Str} (h : PatOk gs) (hg : GrOk g) (hl : ∀ y, gs.getLast? = some y → RG y g) : PatOk (gs ++ [g]) := by
  refine ⟨fun x hx => ?_, fun x hx => ?_, fun i a b ha hb => ?_⟩
  · rcases List.mem_append.mp hx with z | z
    · exact h.1 x z
    · rw [List.mem_singleton.mp z]
      exact hg.1
  · rcases List.mem_append.mp hx with z | z
    · exact h.2.1 x z
    · rw [List.mem_singleton.mp z]
      exact hg.2
  · have hi : i + 1 < (gs ++ [g]).length := (List.getElem?_eq_some_iff.mp hb).1
    rw [List.length_append, List.length_singleton] at hi
    by_cases q : i + 1 < gs.length
    · rw [List.getElem?_append_left q] at hb
      rw [List.getElem?_append_left (by omega)] at ha
      exact h.2.2 i a b ha hb
    · have e : i + 1 = gs.length := by omega
      rw [List.getElem?_append_left (by omega)] at ha
      rw [e, List.getElem?_append_right (Nat.le_refl _)] at hb
      have hb : g = b := by simpa using hb
      rw [← hb]
      refine hl a ?_
      rw [List.getLast?_eq_getElem?, ← e, Nat.add_sub_cancel]
      exact ha
theorem pat_ind {p : Gs → Prop} (h0 : p []) (hk : ∀ g l, PatOk g → p g → p (g ++ [(("keep" : Str), l)])) (hd : ∀ g l, PatOk g → NK g → p g → p (g ++ [(("drop" : Str), l)])) (hp : ∀ g l, PatOk g → NK g → p g → p (g ++ [(("put" : Str), l)]))
    (hdp : ∀ g a l, PatOk g → NK g → p g → p (g ++ [(("drop" : Str), a), (("put" : Str), l)])) : ∀ (n : Nat) (gs : Gs), gs.length = n → PatOk gs → p gs := by
  intro n
  induction n using Nat.strongRecOn with
  | _ n ih =>
    intro gs hn hg
    rcases List.eq_nil_or_concat gs with rfl | ⟨g, x, rfl⟩
    · exact h0
    · rw [List.concat_eq_append] at hn hg ⊢
      rw [List.length_append, List.length_singleton] at hn
      have hpre := patok_pre hg
      obtain ⟨w, l⟩ := x
      rcases hg.1 (w, l) (by simp) with z | z | z
      · have z : w = "keep" := z
        subst z
        exact hk g l hpre (ih g.length (by omega) g rfl hpre)
      · have z : w = "drop" := z
        subst z
        refine hd g l hpre (fun y hy => ?_) (ih g.length (by omega) g rfl hpre)
        obtain ⟨r1, r2⟩ := patok_last hg hy
        have hm : y ∈ g := List.mem_of_getLast? hy
        rcases hpre.1 y hm with q | q | q
        · exact q
        · exact absurd q r1
        · exact absurd ⟨rfl, q⟩ r2
      · have z : w = "put" := z
        subst z
        cases e : g.getLast? with
        | none =>
          refine hp g l hpre (fun y hy => ?_) (ih g.length (by omega) g rfl hpre)
          rw [e] at hy
          cases hy
        | some y =>
          obtain ⟨r1, _⟩ := patok_last hg e
          obtain ⟨g0, rfl⟩ : ∃ g0, g = g0 ++ [y] := List.getLast?_eq_some_iff.mp e
          rcases hpre.1 y (by simp) with q | q | q
          · refine hp _ l hpre (fun y2 hy => ?_) (ih _ (by omega) _ rfl hpre)
            rw [List.getLast?_concat] at hy
            cases hy
            exact q
          · obtain ⟨w2, a⟩ := y
            have q : w2 = "drop" := q
            subst q
            have hpre2 := patok_pre hpre
            rw [List.length_append, List.length_singleton] at hn
            have := hdp g0 a l hpre2 (fun y2 hy => ?_) (ih g0.length (by omega) g0 rfl hpre2)
            · rw [List.append_assoc]
              exact this
            · obtain ⟨s1, s2⟩ := patok_last hpre hy
              have hm : y2 ∈ g0 := List.mem_of_getLast? hy
              rcases hpre2.1 y2 hm with q | q | q
              · exact q
              · exact absurd q s1
              · exact absurd ⟨rfl, q⟩ s2
          · exact absurd q r1
theorem srcG_2 (x y : Str × List Str) : srcG [x, y] = sG x ++ sG y := by simp [srcG]
theorem dstG_2 (x y : Str × List Str) : dstG [x, y] = dG x ++ dG y := by simp [dstG]
theorem cst_2 (x y : Str × List Str) : cst [x, y] = cst [x] + cst [y] := by rw [show [x, y] = [x] ++ [y] from rfl, cst_app]
theorem tot_2 (x y : Str × List Str) : tot [x, y] = x.2.length + y.2.length := by
  unfold tot
  simp
/-- what is told of a patch turned -/
structure TnOk (gs : Gs) : Prop where
  s : srcG (tn gs) = dstG gs
  d : dstG (tn gs) = srcG gs
  c : cst (tn gs) = cst gs
  t : tot (tn gs) = tot gs
  l : (tn gs).length = gs.length
  b : tn (tn gs) = gs
  nk : NK gs → NK (tn gs)
  lk : ∀ y, (tn gs).getLast? = some y → y.1 = "keep" → ∃ x, gs.getLast? = some x ∧ x.1 = "keep"
  p : PatOk gs → PatOk (tn gs)
theorem cdrop (l : List Str) : cst [(("drop" : Str), l)] = l.length := by rw [cst_one, if_neg (by decide)]
theorem cput (l : List Str) : cst [(("put" : Str), l)] = l.length := by rw [cst_one, if_neg (by decide)]
theorem nk_not {gs : Gs} {g : Str × List Str} (hg : g.1 ≠ "keep") : ¬ NK (gs ++ [g]) := fun h => hg (h g (List.getLast?_concat ..))
theorem grok {gs : Gs} (h : PatOk gs) {g : Str × List Str} (hg : g ∈ gs) : GrOk g := ⟨h.1 g hg, h.2.1 g hg⟩
theorem tn_ok {gs : Gs} (h : PatOk gs) : TnOk gs := by
  refine pat_ind (p := TnOk) ⟨rfl, rfl, rfl, rfl, rfl, rfl, fun h => h, fun y h => by simp [tn] at h, fun _ => ⟨fun g h => (List.not_mem_nil h).elim, fun g h => (List.not_mem_nil h).elim, fun i a b h => by simp [tn] at h⟩⟩ ?_ ?_ ?_ ?_ gs.length gs rfl h
  · intro g l hg T
    have e : tn (g ++ [(("keep" : Str), l)]) = tn g ++ [(("keep" : Str), l)] := by rw [tn_snoc, tnStep_keep]
    refine ⟨?_, ?_, ?_, ?_, ?_, ?_, fun _ => by rw [e]; exact nk_snoc _ _, fun y hy hk => ⟨_, List.getLast?_concat .., rfl⟩, fun hk => ?_⟩
    · rw [e, srcG_app, dstG_app, T.s, srcG_one, dstG_one, sG_keep, dG_keep]
    · rw [e, srcG_app, dstG_app, T.d, srcG_one, dstG_one, sG_keep, dG_keep]
    · rw [e, cst_app, cst_app, T.c]
    · rw [e, tot_app, tot_app, T.t]
    · rw [e, List.length_append, List.length_append, T.l]
    · rw [e, tn_snoc, T.b, tnStep_keep]
    · rw [e]
      refine patok_snoc (T.p hg) (grok hk (by simp)) fun y hy => ⟨fun z => ?_, fun z => absurd z.1 (by show ¬ ("keep" : Str) = "drop"; decide)⟩
      obtain ⟨x, hx, hxk⟩ := T.lk y hy z
      exact (patok_last hk hx).1 hxk
  · intro g l hg nk T
    have e : tn (g ++ [(("drop" : Str), l)]) = tn g ++ [(("put" : Str), l)] := by rw [tn_snoc, tnStep_drop]
    refine ⟨?_, ?_, ?_, ?_, ?_, ?_, fun h => absurd h (nk_not (by show ¬ ("drop" : Str) = "keep"; decide)), fun y hy hk => ?_, fun hk => ?_⟩
    · rw [e, srcG_app, dstG_app, T.s, srcG_one, dstG_one, sG_put, dG_drop]
    · rw [e, srcG_app, dstG_app, T.d, srcG_one, dstG_one, sG_drop, dG_put]
    · rw [e, cst_app, cst_app, T.c, cput, cdrop]
    · rw [e, tot_app, tot_app, T.t, tot_one, tot_one]
    · rw [e, List.length_append, List.length_append, T.l]
      rfl
    · rw [e, tn_snoc, T.b, tnStep_put nk]
    · rw [e, List.getLast?_concat] at hy
      cases hy
      exact absurd hk (by show ¬ ("put" : Str) = "keep"; decide)
    · rw [e]
      have hgr := grok hk (g := (("drop" : Str), l)) (by simp)
      refine patok_snoc (T.p hg) ⟨.inr (.inr rfl), hgr.2⟩ fun y hy => ?_
      have := T.nk nk y hy
      exact ⟨by rw [this]; show ¬ ("keep" : Str) = "put"; decide, fun z => absurd z.1 (by show ¬ ("put" : Str) = "drop"; decide)⟩
  · intro g l hg nk T
    have e : tn (g ++ [(("put" : Str), l)]) = tn g ++ [(("drop" : Str), l)] := by rw [tn_snoc, tnStep_put (T.nk nk)]
    refine ⟨?_, ?_, ?_, ?_, ?_, ?_, fun h => absurd h (nk_not (by show ¬ ("put" : Str) = "keep"; decide)), fun y hy hk => ?_, fun hk => ?_⟩
    · rw [e, srcG_app, dstG_app, T.s, srcG_one, dstG_one, sG_drop, dG_put]
    · rw [e, srcG_app, dstG_app, T.d, srcG_one, dstG_one, sG_put, dG_drop]
    · rw [e, cst_app, cst_app, T.c, cput, cdrop]
    · rw [e, tot_app, tot_app, T.t, tot_one, tot_one]
    · rw [e, List.length_append, List.length_append, T.l]
      rfl
    · rw [e, tn_snoc, T.b, tnStep_drop]
    · rw [e, List.getLast?_concat] at hy
      cases hy
      exact absurd hk (by show ¬ ("drop" : Str) = "keep"; decide)
    · rw [e]
      have hgr := grok hk (g := (("put" : Str), l)) (by simp)
      refine patok_snoc (T.p hg) ⟨.inr (.inl rfl), hgr.2⟩ fun y hy => ?_
      have := T.nk nk y hy
      exact ⟨by rw [this]; show ¬ ("keep" : Str) = "drop"; decide, fun z => by rw [this] at z; exact absurd z.2 (by decide)⟩
  · intro g a l hg nk T
    have e := tn_pair g a l
    refine ⟨?_, ?_, ?_, ?_, ?_, ?_, fun h => ?_, fun y hy hk => ?_, fun hk => ?_⟩
    · rw [e, srcG_app, dstG_app, T.s, srcG_2, dstG_2, sG_drop, sG_put, dG_drop, dG_put, List.append_nil, List.nil_append]
    · rw [e, srcG_app, dstG_app, T.d, srcG_2, dstG_2, sG_drop, sG_put, dG_drop, dG_put, List.append_nil, List.nil_append]
    · rw [e, cst_app, cst_app, T.c, cst_2, cst_2, cdrop, cput, cdrop, cput]
      omega
    · rw [e, tot_app, tot_app, T.t, tot_2, tot_2]
      show _ + (l.length + a.length) = _ + (a.length + l.length)
      omega
    · rw [e, List.length_append, List.length_append, T.l]
      rfl
    · rw [e, tn_pair, T.b]
    · have := h (("put" : Str), l) (by simp)
      exact absurd this (by show ¬ ("put" : Str) = "keep"; decide)
    · rw [e] at hy
      have hy : (("put" : Str), a) = y := by simpa using hy
      rw [← hy] at hk
      exact absurd hk (by show ¬ ("put" : Str) = "keep"; decide)
    · rw [e, show tn g ++ [(("drop" : Str), l), (("put" : Str), a)] = tn g ++ [(("drop" : Str), l)] ++ [(("put" : Str), a)] by simp]
      have h1 := grok hk (g := (("drop" : Str), a)) (by simp)
      have h2 := grok hk (g := (("put" : Str), l)) (by simp)
      refine patok_snoc (patok_snoc (T.p hg) ⟨.inr (.inl rfl), h2.2⟩ fun y hy => ?_) ⟨.inr (.inr rfl), h1.2⟩ fun y hy => ?_
      · have := T.nk nk y hy
        exact ⟨by rw [this]; show ¬ ("keep" : Str) = "drop"; decide, fun z => by rw [this] at z; exact absurd z.2 (by decide)⟩
      · rw [List.getLast?_concat] at hy
        cases hy
        exact ⟨by show ¬ ("drop" : Str) = "put"; decide, fun z => absurd z.1 (by show ¬ ("put" : Str) = "drop"; decide)⟩
/-! ### a patch of these lines leads there -/
theorem ledA_src {gs : Gs} (hw : wOk gs) : ∀ i, i ≤ gs.length → ledA (srcG gs) (gs.take i) = some ((srcG (gs.take i)).length, dstG (gs.take i))
  | 0, _ => rfl
  | i + 1, hi => by
    have h := ledA_src hw i (by omega)
    rw [ledA_next (by omega), h, srcG_next (by omega), dstG_next (by omega)]
    have hsp := srcG_split (gs := gs) (i := i) (by omega)
    have hw3 := hw gs[i] (List.getElem_mem _)
    generalize srcG (gs.take i) = SA at hsp
    generalize dstG (gs.take i) = DA
    generalize srcG (gs.drop (i + 1)) = SB at hsp
    generalize gs[i] = g at hsp hw3
    obtain ⟨w, ls⟩ := g
    simp only at hw3
    rcases hw3 with rfl | rfl | rfl
    · rw [sG_keep] at hsp ⊢
      rw [dG_keep]
      show (if SA.length + ls.length ≤ (srcG gs).length then some (SA.length + ls.length, DA ++ cutG (srcG gs) (some (SA.length : Int)) (some ((SA.length : Int) + (ls.length : Int)))) else none) = _
      rw [if_pos (by rw [hsp, List.length_append, List.length_append]; omega), hsp, cutG_mid, List.length_append]
    · rw [sG_drop] at hsp ⊢
      rw [dG_drop]
      show (if cutG (srcG gs) (some (SA.length : Int)) (some ((SA.length : Int) + (ls.length : Int))) = ls then some (SA.length + ls.length, DA) else none) = _
      rw [hsp, cutG_mid, if_pos rfl, List.length_append, List.append_nil]
    · rw [sG_put]
      rw [dG_put]
      show some (SA.length, DA ++ ls) = _
      rw [List.append_nil]
theorem ledS_src {gs : Gs} (hw : wOk gs) : ledS (srcG gs) gs = some (dstG gs) := by
  have h := ledA_src hw gs.length (Nat.le_refl _)
  rw [List.take_length] at h
  unfold ledS
  rw [h]
  exact if_pos rfl
theorem ledS_ok {one due : List Str} {gs : Gs} (h1 : Lns one) (hp : PatOk gs) (h : ledS one gs = some due) : due.length ≤ 200 * gs.length ∧ ∀ s ∈ due, s ∈ okW := by
  unfold ledS at h
  cases e : ledA one gs with
  | none => rw [e] at h; cases h
  | some st =>
    obtain ⟨a, f⟩ := st
    rw [e] at h
    have h : (if a = one.length then some f else none) = some due := h
    split at h
    · cases h
      have := ledA_ok h1 gs hp gs.length (Nat.le_refl _) a due (by rw [List.take_length]; exact e)
      exact ⟨this.2.1, this.2.2⟩
    · cases h
theorem ledS_dst {one due : List Str} {gs : Gs} (h : ledS one gs = some due) : due.length ≤ tot gs + one.length := by
  have key : ∀ (i : Nat), i ≤ gs.length → ∀ a f, ledA one (gs.take i) = some (a, f) → f.length ≤ tot (gs.take i) := by
    intro i
    induction i with
    | zero => intro _ a f z; cases z; exact Nat.zero_le _
    | succ i ih =>
      intro hi a f z
      rw [ledA_next (by omega)] at z
      rw [tot_next (by omega)]
      cases e : ledA one (gs.take i) with
      | none => rw [e] at z; cases z
      | some st =>
        obtain ⟨a0, f0⟩ := st
        have := ih (by omega) a0 f0 e
        rw [e] at z
        generalize gs[i] = g at z ⊢
        have cl := cutG_len (one := one) (a := a0) (n := g.2.length)
        unfold ledStep at z
        simp only at z
        split at z
        · cases z
          rw [List.length_append]
          omega
        · split at z
          · split at z
            · cases z
              omega
            · cases z
          · split at z
            · cases z
              rw [List.length_append]
              omega
            · cases z
  unfold ledS at h
  cases e : ledA one gs with
  | none => rw [e] at h; cases h
  | some st =>
    obtain ⟨a, f⟩ := st
    rw [e] at h
    have h : (if a = one.length then some f else none) = some due := h
    split at h
    · cases h
      have := key gs.length (Nat.le_refl _) a due (by rw [List.take_length]; exact e)
      rw [List.take_length] at this
      omega
    · cases h
/-! ### the least lines -/
theorem dd_nn (one other : List Str) : ∀ i j : Nat, 0 ≤ dd one other i j ∧ dd one other i j ≤ (i : Int) + j
  | 0, j => by
    rw [dd_0]
    omega
  | i + 1, 0 => by
    rw [dd_s0]
    omega
  | i + 1, j + 1 => by
    have h1 := dd_nn one other i (j + 1)
    have h2 := dd_nn one other (i + 1) j
    have h3 := dd_nn one other i j
    rw [dd_ss]
    split <;> omega
termination_by i j => i + j
theorem dd_same (one : List Str) : ∀ i : Nat, dd one one i i = 0
  | 0 => by rw [dd_0]; rfl
  | i + 1 => by
    have h1 := dd_diag (one := one) (other := one) (i := i) (j := i) rfl
    have h2 := (dd_nn one one (i + 1) (i + 1)).1
    rw [dd_same one i] at h1
    omega
theorem cst_zero : ∀ {gs : Gs}, PatOk gs → cst gs = 0 → srcG gs = dstG gs := by
  intro gs h
  have key : ∀ gs : Gs, (∀ g ∈ gs, GrOk g) → 0 ≤ cst gs ∧ (cst gs = 0 → srcG gs = dstG gs) := by
    intro gs
    induction gs with
    | nil => exact fun _ => ⟨Int.le_refl _, fun _ => rfl⟩
    | cons g r ih =>
      intro hk
      obtain ⟨h1, h2⟩ := ih fun x hx => hk x (List.mem_cons_of_mem _ hx)
      obtain ⟨a, b, _⟩ := hk g (List.mem_cons_self ..)
      have hpos := List.length_pos_iff.mpr b
      rw [show g :: r = [g] ++ r from rfl, cst_app, srcG_app, dstG_app, srcG_one, dstG_one]
      obtain ⟨w, l⟩ := g
      simp only at a hpos
      rw [cst_one]
      rcases a with rfl | rfl | rfl
      · rw [if_pos rfl, sG_keep, dG_keep]
        exact ⟨by omega, fun z => by rw [h2 (by omega)]⟩
      · rw [if_neg (by decide)]
        exact ⟨by omega, fun z => by omega⟩
      · rw [if_neg (by decide)]
        exact ⟨by omega, fun z => by omega⟩
  exact (key gs fun g hg => grok h hg).2
theorem dd_zero {one other : List Str} (h1 : Lns one) (h2 : Lns other) : dd one other one.length other.length = 0 ↔ one = other := by
  constructor
  · intro h
    have := cst_zero (gsf_ok h1 h2) (by rw [gsf_cst]; exact h)
    rw [gsf_src, gsf_dst] at this
    exact this
  · rintro rfl
    exact dd_same one one.length
theorem gsf_nil {one other : List Str} : gsf one other = [] ↔ one = [] ∧ other = [] := by
  constructor
  · intro h
    have h1 := gsf_src (one := one) (other := other)
    have h2 := gsf_dst (one := one) (other := other)
    rw [h] at h1 h2
    exact ⟨h1.symm, h2.symm⟩
  · rintro ⟨rfl, rfl⟩
    have := gsf_len (one := []) (other := [])
    exact List.length_eq_zero_iff.mp (by simpa using this)
theorem dd_tri (a b c : List Str) : ∀ i j k : Nat, dd a c i k ≤ dd a b i j + dd b c j k
  | 0, j, k => by
    rw [dd_0, dd_0]
    -- so many are put at least
    have : ∀ j k : Nat, (k : Int) ≤ j + dd b c j k := by
      intro j k
      have key : ∀ n j k : Nat, j + k = n → (k : Int) ≤ j + dd b c j k := by
        intro n
        induction n using Nat.strongRecOn with
        | _ n ih =>
          intro j k hn
          match j, k with
          | 0, k => rw [dd_0]; omega
          | j + 1, 0 => rw [dd_s0]; omega
          | j + 1, k + 1 =>
            have h1 := ih (j + (k + 1)) (by omega) j (k + 1) rfl
            have h2 := ih ((j + 1) + k) (by omega) (j + 1) k rfl
            have h3 := ih (j + k) (by omega) j k rfl
            rw [dd_ss]
            split <;> omega
      exact key _ j k rfl
    exact this j k
  | i + 1, 0, k => by
    rw [dd_s0, dd_0]
    have := (dd_nn a c (i + 1) k).2
    omega
  | i + 1, j + 1, 0 => by
    rw [dd_s0, dd_s0]
    have key : ∀ n i j : Nat, i + j = n → (i : Int) ≤ dd a b i j + j := by
      intro n
      induction n using Nat.strongRecOn with
      | _ n ih =>
        intro i j hn
        match i, j with
        | 0, j => rw [dd_0]; omega
        | i + 1, 0 => rw [dd_s0]; omega
        | i + 1, j + 1 =>
          have h1 := ih (i + (j + 1)) (by omega) i (j + 1) rfl
          have h2 := ih ((i + 1) + j) (by omega) (i + 1) j rfl
          have h3 := ih (i + j) (by omega) i j rfl
          rw [dd_ss]
          split <;> omega
    have := key _ (i + 1) (j + 1) rfl
    omega
  | i + 1, j + 1, k + 1 => by
    have t1 := dd_tri a b c i (j + 1) (k + 1)
    have t2 := dd_tri a b c (i + 1) (j + 1) k
    have t3 := dd_tri a b c (i + 1) j (k + 1)
    have t4 := dd_tri a b c (i + 1) j k
    have t5 := dd_tri a b c i j (k + 1)
    have t6 := dd_tri a b c i j k
    have s1 := dd_s_le a c i (k + 1)
    have s2 := dd_le_s a c (i + 1) k
    have s3 := dd_s_le a c i k
    have e1 := dd_ss a b i j
    have e2 := dd_ss b c j k
    have e3 : a.getD i "" = c.getD k "" → dd a c (i + 1) (k + 1) ≤ dd a c i k := fun e => dd_diag e
    split at e1
    case isTrue q1 =>
      split at e2
      case isTrue q2 =>
        have e3 := e3 (q1.trans q2)
        omega
      case isFalse q2 => omega
    case isFalse q1 =>
      split at e2
      case isTrue q2 => omega
      case isFalse q2 => omega
termination_by i j k => i + j + k
end K84

set_option Elab.async false
set_option linter.all false
set_option pp.maxSteps 300
set_option maxRecDepth 100000
set_option maxHeartbeats 2000000
/-! M8: k82, the walk: cost_of, far, is_patch_for, applied, turned_patch, _law_turned, followed_by -/
namespace K84
open PySem PySem.Spec PyProof.Rows L2 DL
theorem atI_rl {α : Type} (h : Nat → α) (n : Nat) : atI ((List.range (n + 1)).map h) (-1) = some (h n) := by
  rw [range_snoc]
  exact atI_last _ _
section
variable {P : Program} {w : World} {K : PySem.W.Frag} {mg : Str → Option Value} {base : Heap} {f : Addr} {fd : FuncData} {k : Nat}
abbrev sCof : Stmt := topS 22
theorem scCof : FnScope ["steps", "word", "part"] ["steps"] (defScope sCof) := ⟨rfl, rfl, rfl, by decide +kernel, rfl, by decide +kernel, by decide +kernel⟩
theorem ok_cof (m : M mg) {gs : List (Str × List Str)} (hl : gs.length ≤ 900) (G : Fn P w K mg base k "check_patch" [eP gs] (.im .non)) (d : Df K mg "cost_of" sCof ["steps"]) : Fn P w K mg base (k + 1) "cost_of" [eP gs] (.im (.int (cst gs))) := by
  refine fn_mk d scCof rfl (by simp) rfl fun f cdv A outer s H E c hr => ?_
  have nd := scCof.nd
  obtain ⟨tk, hK⟩ := m.keep
  show WPs _ _ _ [.im (eP gs), .any, .any] _
  refine wps_cons <| wst_expr <| wp_fn G hr <| wpa_cons <| wp_name 0 rfl rfl <| wpa_nil ⟨rfl, ?_⟩
  refine wps_cons <| wst_ret <| wp_callB m.sum PyProof.Rows.boot_sum <| wpa_cons <| wp_lc (own := [("word", 1), ("part", 2)]) (fun i acc => acc = (((gs.take i).filter notKeep).map fun g => (g.2.length : Int)).map D.int) rfl nd (blk_of (N' := ["steps", "word", "part"]) (sc' := defScope sCof) (by decide +kernel)) (by rfl) <| wpi_tup <| wp_name 0 rfl rfl <| ⟨_, rfl, rfl, fun F1 H1 i acc hi hj Y hY => ?_, fun acc hj => ?_⟩
  · obtain ⟨s', H', C, cl, fp, rfl⟩ := hY
    have hi' : i < gs.length := by simpa using hi
    show GtC _ _ _ (.im ((gs.map eT).getD i .non)) _ _ _
    rw [getD_map eT hi']
    have hlen : acc.length ≤ i := by
      rw [hj, List.length_map, List.length_map]
      exact Nat.le_trans (List.length_filter_le _ _) (by rw [List.length_take]; omega)
    rw [take_next hi', List.filter_append, List.map_append, List.map_append, ← hj]
    generalize gs[i] = g
    obtain ⟨wd, ls⟩ := g
    by_cases hw : wd = "keep"
    · subst hw
      have et : eT ("keep", ls) = .tup [.str "keep", .int ls.length] := if_pos rfl
      rw [et]
      refine gtc_tup2 1 2 rfl nd fun Y hY => ?_
      obtain ⟨s', H', C, cl, fp, rfl⟩ := hY
      refine wpt_cmp <| wp_name 1 rfl rfl <| wp_gstr rfl hK <| od_neS ⟨_, rfl, fun z => absurd z (by decide), fun _ => ?_⟩
      exact (List.append_nil acc).symm
    · have et : eT (wd, ls) = .tup [.str wd, eL ls] := if_neg hw
      rw [et]
      refine gtc_tup2 1 2 rfl nd fun Y hY => ?_
      obtain ⟨s', H', C, cl, fp, rfl⟩ := hY
      refine wpt_cmp <| wp_name 1 rfl rfl <| wp_gstr rfl hK <| od_neS ⟨_, rfl, fun z Y hY => ?_, fun z => ?_⟩
      · obtain ⟨s', H', C, cl, fp, rfl⟩ := hY
        refine wp_callB m.len PySem.boot_len <| wpa_cons <| wp_name 2 rfl rfl <| wpa_nil <| cd_len rfl ⟨_, rfl, Nat.lt_of_lt_of_le (show acc.length < 1000 by omega) (by decide), ?_⟩
        have e : [(wd, ls)].filter notKeep = [(wd, ls)] := by simp [notKeep, hw]
        rw [e, List.length_map]
        rfl
      · simp [hw] at z
  · rw [List.length_map, List.take_length] at hj
    subst hj
    exact wpa_nil (cd_sum rfl (ns := (gs.filter notKeep).map fun g => (g.2.length : Int)) rfl rfl)
abbrev sFarP : Stmt := topS 21
theorem scFarP : FnScope ["one", "other"] ["one", "other"] (defScope sFarP) := ⟨rfl, rfl, rfl, by decide +kernel, rfl, by decide +kernel, by decide +kernel⟩
theorem ok_farP {one other : List Str} (Gc1 : Fn P w K mg base k "check_lines" [eL one] (.im .non)) (Gc2 : Fn P w K mg base k "check_lines" [eL other] (.im .non)) (Gh : Fn P w K mg base k "heights_of" [eL one, eL other] (.own (.lst (eHts one other (one.length + 1))))) (d : Df K mg "far" sFarP ["one", "other"]) :
    Fn P w K mg base (k + 1) "far" [eL one, eL other] (.im (.int (dd one other one.length other.length))) := by
  refine fn_mk d scFarP rfl (by simp) rfl fun f cdv A outer s H E c hr => ?_
  show WPs _ _ _ [.im (eL one), .im (eL other)] _
  refine wps_cons <| wst_expr <| wp_fn Gc1 hr <| wpa_cons <| wp_name 0 rfl rfl <| wpa_nil ⟨rfl, ?_⟩
  refine wps_cons <| wst_expr <| wp_fn Gc2 hr <| wpa_cons <| wp_name 1 rfl rfl <| wpa_nil ⟨rfl, ?_⟩
  exact wps_cons <| wst_ret <| wp_ix <| wp_ix <| wp_fn Gh hr <| wpa_cons <| wp_name 0 rfl rfl <| wpa_cons <| wp_name 1 rfl rfl <| wpa_nil ⟨rfl, wp_unop <| wp_int <| ud_neg <| xd_seq rfl (atI_rl (fun i => D.lst (eRow one other i (other.length + 1))) _) <| wp_unop <| wp_int <| ud_neg <| xd_seq rfl (atI_rl (fun j => D.int (dd one other one.length j)) _) rfl⟩
abbrev sPfo : Stmt := topS 27
theorem scPfo : FnScope ["one", "other", "thing"] ["one", "other", "thing"] (defScope sPfo) := ⟨rfl, rfl, rfl, by decide +kernel, rfl, by decide +kernel, by decide +kernel⟩
theorem ok_pfoF (m : M mg) {one other : List Str} {x : D} (Gc1 : Fn P w K mg base k "check_lines" [eL one] (.im .non)) (Gc2 : Fn P w K mg base k "check_lines" [eL other] (.im .non)) (Gp : Fn P w K mg base k "is_patch" [x] (.im (.bl false))) (d : Df K mg "is_patch_for" sPfo ["one", "other", "thing"]) :
    Fn P w K mg base (k + 1) "is_patch_for" [eL one, eL other, x] (.im (.bl false)) := by
  refine fn_mk d scPfo rfl (by simp) rfl fun f cdv A outer s H E c hr => ?_
  show WPs _ _ _ [.im (eL one), .im (eL other), .im x] _
  refine wps_cons <| wst_expr <| wp_fn Gc1 hr <| wpa_cons <| wp_name 0 rfl rfl <| wpa_nil ⟨rfl, ?_⟩
  refine wps_cons <| wst_expr <| wp_fn Gc2 hr <| wpa_cons <| wp_name 1 rfl rfl <| wpa_nil ⟨rfl, ?_⟩
  exact wps_cons <| wst_ret <| wp_and <| wp_fn Gp hr <| wpa_cons <| wp_name 2 rfl rfl <| wpa_nil ⟨rfl, false, rfl, fun z => absurd z (by decide), fun _ => rfl⟩
theorem sh_eO {o : Option (List Str)} (h : ∀ l, o = some l → ∀ s ∈ l, s ∈ okW) : SeqAt.shaped (py (eO o)) = true := by
  cases o with
  | none => decide +kernel
  | some l => exact shaped_strs (strsOk_of (h l rfl))
theorem eqv_eO (o : Option (List Str)) (l : List Str) : PyData.eqv (py (eO o)) (py (eL l)) = decide (o = some l) := by
  cases o with
  | none => rfl
  | some x =>
    show PyData.eqv (py (.tup (x.map D.str))) (py (.tup (l.map D.str))) = _
    rw [eqv_strs]
    exact decide_eq_decide.mpr ⟨fun e => by rw [e], fun e => Option.some.inj e⟩
theorem ok_pfoT (m : M mg) {one other : List Str} {gs : Gs} (h1 : Lns one) (h2 : Lns other) (hp : PatOk gs) (Gc1 : Fn P w K mg base k "check_lines" [eL one] (.im .non)) (Gc2 : Fn P w K mg base k "check_lines" [eL other] (.im .non)) (Gp : Fn P w K mg base k "is_patch" [eP gs] (.im (.bl true))) (Gl : Fn P w K mg base k "led_by" [eL one, eP gs] (.im (eO (ledS one gs)))) (d : Df K mg "is_patch_for" sPfo ["one", "other", "thing"]) :
    Fn P w K mg base (k + 1) "is_patch_for" [eL one, eL other, eP gs] (.im (.bl (decide (ledS one gs = some other)))) := by
  refine fn_mk d scPfo rfl (by simp) rfl fun f cdv A outer s H E c hr => ?_
  have hu64 := hr.units
  show WPs _ _ _ [.im (eL one), .im (eL other), .im (eP gs)] _
  refine wps_cons <| wst_expr <| wp_fn Gc1 hr <| wpa_cons <| wp_name 0 rfl rfl <| wpa_nil ⟨rfl, ?_⟩
  refine wps_cons <| wst_expr <| wp_fn Gc2 hr <| wpa_cons <| wp_name 1 rfl rfl <| wpa_nil ⟨rfl, ?_⟩
  refine wps_cons <| wst_ret <| wp_and <| wp_fn Gp hr <| wpa_cons <| wp_name 2 rfl rfl <| wpa_nil ⟨rfl, true, rfl, fun _ => ?_, fun z => absurd z (by decide)⟩
  refine wp_one <| wp_cmp <| wp_fn Gl hr <| wpa_cons <| wp_name 0 rfl rfl <| wpa_cons <| wp_name 2 rfl rfl <| wpa_nil ⟨rfl, wp_name 1 rfl rfl <| od_eqD hu64 (sh_eO fun l e => (ledS_ok h1 hp e).2) (shaped_strs (strsOk_of h2.2)) ?_⟩
  show Sl.im _ = Sl.im _
  rw [eqv_eO]
abbrev sApl : Stmt := topS 24
theorem scApl : FnScope ["one", "steps", "found"] ["one", "steps"] (defScope sApl) := ⟨rfl, rfl, rfl, by decide +kernel, rfl, by decide +kernel, by decide +kernel⟩
theorem ok_apl (m : M mg) {one due : List Str} {gs : Gs} (hd : ledS one gs = some due) (Gc1 : Fn P w K mg base k "check_lines" [eL one] (.im .non)) (Gc2 : Fn P w K mg base k "check_patch" [eP gs] (.im .non)) (Gl : Fn P w K mg base k "led_by" [eL one, eP gs] (.im (eO (ledS one gs)))) (d : Df K mg "applied" sApl ["one", "steps"]) :
    Fn P w K mg base (k + 1) "applied" [eL one, eP gs] (.im (eL due)) := by
  refine fn_mk d scApl rfl (by simp) rfl fun f cdv A outer s H E c hr => ?_
  have nd := scApl.nd
  rw [hd] at Gl
  show WPs _ _ _ [.im (eL one), .im (eP gs), .any] _
  refine wps_cons <| wst_expr <| wp_fn Gc1 hr <| wpa_cons <| wp_name 0 rfl rfl <| wpa_nil ⟨rfl, ?_⟩
  refine wps_cons <| wst_expr <| wp_fn Gc2 hr <| wpa_cons <| wp_name 1 rfl rfl <| wpa_nil ⟨rfl, ?_⟩
  refine wps_cons <| wst_set 2 nd <| wp_fn Gl hr <| wpa_cons <| wp_name 0 rfl rfl <| wpa_cons <| wp_name 1 rfl rfl <| wpa_nil ⟨rfl, rfl, ?_⟩
  exact wps_cons <| wst_if <| wpt_cmp <| wp_name 2 rfl rfl <| wp_non <| od_isN ⟨_, rfl, fun z => absurd (show isN (eL due) = true from z) (by intro z; cases z), fun _ => wps_nil <| wps_cons <| wst_ret <| wp_name 2 rfl rfl rfl⟩
end
/-- a def's promise at these arguments: it raises -/
def FnE (P : Program) (w : World) (K : PySem.W.Frag) (mg : Str → Option Value) (base : Heap) (k : Nat) (x : Str) (args : List D) (cls : Value) : Prop :=
  ∃ (f : Addr) (fd : FuncData) (ps : List Str), ps.length = args.length ∧ FnOk P w K mg base (L2.CX P w) k f fd ps (SpE ps.length (fun rs => rs = args.map Sl.im) cls) ∧ mg x = some (.ref f) ∧ PySem.W.keepIn K (.ref f) = true ∧ Binds K fd ps []
theorem FnE.mono {P : Program} {w : World} {K : PySem.W.Frag} {mg : Str → Option Value} {base : Heap} {j k : Nat} {x : Str} {args : List D} {cls : Value} (G : FnE P w K mg base j x args cls) (h : j ≤ k) : FnE P w K mg base k x args cls := by
  obtain ⟨f, fd, ps, h1, G, h2⟩ := G
  exact ⟨f, fd, ps, h1, G.mono h, h2⟩
theorem fnE_mk {P : Program} {w : World} {K : PySem.W.Frag} {mg : Str → Option Value} {base : Heap} {k : Nat} {x : Str} {st : Stmt} {N ps : List Str} {args : List D} {cls : Value} (d : Df K mg x st ps) (S : FnScope N ps (defScope st)) (hn : args.length = ps.length)
    (hb : ∀ (f : Addr) (cdv : Value) (A : Around) (outer : List Env) (s : Shared) (H : Hp) (E : XK) (c : C0), Room k (A.deeper (PyProof.Rows.envOfC x (defScope st) s.heap.objs.size f cdv)) → Rz (cxOf (L2.CX P w) P w K mg base N x (defScope st) f cdv A outer s H E) c cls →
      WPs (cxOf (L2.CX P w) P w K mg base N x (defScope st) f cdv A outer s H E) c (defBody st) (args.map Sl.im ++ List.replicate (N.length - ps.length) .any) { nx := fun _ => False, rt := fun _ => False }) : FnE P w K mg base (k + 1) x args cls := by
  obtain ⟨f, fd, F, hm, hbd⟩ := d.ex
  refine ⟨f, fd, ps, hn.symm, fn_E F S fun cdv A outer s H E c rs hr hl hpre R => ?_, hm, F.kp, hbd⟩
  subst hpre
  exact hb f cdv A outer s H E c hr R
theorem wp_fnE {X : Cx} {c : C0} {Γ : List Sl} {Kk : Sl → Prop} {pos p : Pos} {k : Nat} {x : Str} {e : Expr} {es : List Expr} {args : List D} {cls : Value} (G : FnE X.prog X.w X.K X.mg X.base k x args cls) (R : Rz X c cls) (hr : Room k X.A) (h : WPa X c (e :: es) Γ fun rs => rs = args.map Sl.im) (hg : Gl X x := by rfl)
    (hn : starEach (e :: es) X.env = (false, eval e X.env) :: starEach es X.env := by rfl) (hdb : (x == ("__debug__" : Str)) = false := by decide) (hpl : (backTo pos (starEach es X.env)).any (·.1) = false := by rfl) : WPe X c (.Call (.Name x p) (e :: es) [] pos) Γ Kk := by
  obtain ⟨f, fd, ps, hps, G, hm, hk, hb⟩ := G
  exact wp_callE G R hr hm hk hb (fun F H stk S σ hl E Q q => h F H stk S σ hl E Q fun vs rs F' H' k => q vs rs F' H' ⟨args, k, hps.symm, k⟩) hg hn hdb hpl
section
variable {P : Program} {w : World} {K : PySem.W.Frag} {mg : Str → Option Value} {base : Heap} {f : Addr} {fd : FuncData} {k : Nat}
theorem ok_aplE (m : M mg) {one : List Str} {gs : Gs} {C : Addr} (O : OwnE K mg "NotFittingPatch" C) (hd : ledS one gs = none) (Gc1 : Fn P w K mg base k "check_lines" [eL one] (.im .non)) (Gc2 : Fn P w K mg base k "check_patch" [eP gs] (.im .non)) (Gl : Fn P w K mg base k "led_by" [eL one, eP gs] (.im (eO (ledS one gs)))) (d : Df K mg "applied" sApl ["one", "steps"]) :
    FnE P w K mg base (k + 1) "applied" [eL one, eP gs] (.ref C) := by
  refine fnE_mk d scApl rfl fun f cdv A outer s H E c hr R => ?_
  have nd := scApl.nd
  rw [hd] at Gl
  show WPs _ _ _ [.im (eL one), .im (eP gs), .any] _
  refine wps_cons <| wst_expr <| wp_fn Gc1 hr <| wpa_cons <| wp_name 0 rfl rfl <| wpa_nil ⟨rfl, ?_⟩
  refine wps_cons <| wst_expr <| wp_fn Gc2 hr <| wpa_cons <| wp_name 1 rfl rfl <| wpa_nil ⟨rfl, ?_⟩
  refine wps_cons <| wst_set 2 nd <| wp_fn Gl hr <| wpa_cons <| wp_name 0 rfl rfl <| wpa_cons <| wp_name 1 rfl rfl <| wpa_nil ⟨rfl, rfl, ?_⟩
  exact wps_cons <| wst_if <| wpt_cmp <| wp_name 2 rfl rfl <| wp_non <| od_isN ⟨_, rfl, fun _ => wps_cons <| wst_raise O rfl R, fun z => absurd (show isN (eO none) = false from z) (by intro z; cases z)⟩
abbrev sFol : Stmt := topS 26
theorem scFol : FnScope ["one", "steps", "more"] ["one", "steps", "more"] (defScope sFol) := ⟨rfl, rfl, rfl, by decide +kernel, rfl, by decide +kernel, by decide +kernel⟩
theorem ok_fol {one mid last : List Str} {g1 g2 : Gs} {r : D} (G1 : Fn P w K mg base k "applied" [eL one, eP g1] (.im (eL mid))) (G2 : Fn P w K mg base k "applied" [eL mid, eP g2] (.im (eL last))) (Gp : Fn P w K mg base k "patch" [eL one, eL last] (.im r)) (d : Df K mg "followed_by" sFol ["one", "steps", "more"]) :
    Fn P w K mg base (k + 1) "followed_by" [eL one, eP g1, eP g2] (.im r) := by
  refine fn_mk d scFol rfl (by simp) rfl fun f cdv A outer s H E c hr => ?_
  show WPs _ _ _ [.im (eL one), .im (eP g1), .im (eP g2)] _
  exact wps_cons <| wst_ret <| wp_fn Gp hr <| wpa_cons <| wp_name 0 rfl rfl <| wpa_cons <| wp_fn G2 hr <| wpa_cons <| wp_fn G1 hr <| wpa_cons <| wp_name 0 rfl rfl <| wpa_cons <| wp_name 1 rfl rfl <| wpa_nil ⟨rfl, wpa_cons <| wp_name 2 rfl rfl <| wpa_nil ⟨rfl, wpa_nil ⟨rfl, rfl⟩⟩⟩
theorem ok_folE {one mid : List Str} {g1 g2 : Gs} {r : D} {cls : Value} (G1 : Fn P w K mg base k "applied" [eL one, eP g1] (.im (eL mid))) (G2 : FnE P w K mg base k "applied" [eL mid, eP g2] cls) (Gp : Fn P w K mg base k "patch" [eL one, eL mid] (.im r)) (d : Df K mg "followed_by" sFol ["one", "steps", "more"]) :
    FnE P w K mg base (k + 1) "followed_by" [eL one, eP g1, eP g2] cls := by
  refine fnE_mk d scFol rfl fun f cdv A outer s H E c hr R => ?_
  show WPs _ _ _ [.im (eL one), .im (eP g1), .im (eP g2)] _
  exact wps_cons <| wst_ret <| WPe.mono (K := fun _ => False) (wp_fn Gp hr <| wpa_cons <| wp_name 0 rfl rfl <| wpa_cons <| wp_fnE G2 R hr <| wpa_cons <| wp_fn G1 hr <| wpa_cons <| wp_name 0 rfl rfl <| wpa_cons <| wp_name 1 rfl rfl <| wpa_nil ⟨rfl, wpa_cons <| wp_name 2 rfl rfl <| wpa_nil rfl⟩) fun r z => z.elim
/-! ### turned -/
abbrev sTnd : Stmt := topS 42
theorem scTnd : FnScope ["steps", "found", "word", "part"] ["steps"] (defScope sTnd) := ⟨rfl, rfl, rfl, by decide +kernel, rfl, by decide +kernel, by decide +kernel⟩
theorem tn_next {gs : Gs} {i : Nat} (h : i < gs.length) : tn (gs.take (i + 1)) = tnStep (tn (gs.take i)) gs[i] := by
  rw [take_next h, tn_snoc]
theorem tnStep_len (f : Gs) (g : Str × List Str) : (tnStep f g).length = f.length + 1 := by
  unfold tnStep
  split
  · simp
  · split
    · simp
    · split
      · rename_i e
        split
        · obtain ⟨f0, rfl⟩ : ∃ f0, f = f0 ++ [_] := List.getLast?_eq_some_iff.mp e
          rw [List.dropLast_concat]
          simp
        · simp
      · simp
theorem tn_len : ∀ (gs : Gs) (i : Nat), i ≤ gs.length → (tn (gs.take i)).length = i
  | gs, 0, _ => rfl
  | gs, i + 1, h => by rw [tn_next (by omega), tnStep_len, tn_len gs i (by omega)]
theorem eT_other {w : Str} {l : List Str} (h : w ≠ "keep") : eT (w, l) = .tup [.str w, eL l] := if_neg h
theorem ok_tnd (m : M mg) {gs : Gs} (hl : gs.length ≤ 900) (hw : wOk gs) (d : Df K mg "_law_turned" sTnd ["steps"]) : Fn P w K mg base (k + 1) "_law_turned" [eP gs] (.im (eP (tn gs))) := by
  refine fn_mk d scTnd rfl (by simp) rfl fun f cdv A outer s H E c hr => ?_
  have nd := scTnd.nd
  show WPs _ _ _ [.im (eP gs), .any, .any, .any] _
  refine wps_cons <| wst_set 1 nd <| wp_lst <| wpa_nil ⟨[], rfl, Le rfl, rfl, ?_⟩
  refine wps_cons <| wst_for (fun i Γ => ∃ s2 s3, Γ = [.im (eP gs), .own (.lst ((tn (gs.take i)).map eT)), s2, s3]) <| wpi_tup <| wp_name 0 rfl rfl <| ⟨_, rfl, ⟨_, _, rfl⟩, fun F1 i Γ' hi hj => ?_, fun Γ' hj => ?_⟩
  · obtain ⟨s2, s3, rfl⟩ := hj
    have hi' : i < gs.length := by simpa using hi
    have hlen := tn_len gs i (by omega)
    have hw3 := hw gs[i] (List.getElem_mem hi')
    show GtD _ _ _ (.im ((gs.map eT).getD i .non)) _ _
    rw [getD_map eT hi', tn_next hi']
    generalize gs[i] = g at hw3
    generalize tn (gs.take i) = fo at hlen
    obtain ⟨wd, ls⟩ := g
    simp only at hw3
    have sz : (fo.map eT).length < sizeLine := by
      rw [List.length_map]
      exact Nat.lt_of_lt_of_le (show _ < 1000 by omega) (by decide)
    have app : ∀ g : Str × List Str, fo.map eT ++ [eT g] = (fo ++ [g]).map eT := fun g => by rw [List.map_append]; rfl
    rcases hw3 with rfl | rfl | rfl
    · have et : eT ("keep", ls) = .tup [.str "keep", .int ls.length] := if_pos rfl
      rw [et, tnStep_keep]
      refine gt_tup2 2 3 rfl nd ?_
      refine wps_cons <| wst_if <| wpt_cmp <| wp_name 2 rfl rfl <| wp_str <| od_eqS ⟨_, rfl, fun _ => ?_, fun hx => absurd hx (by decide)⟩
      refine wps_cons <| wst_append 1 rfl sz <| wp_tup <| wpa_cons <| wp_name 2 rfl rfl <| wpa_cons <| wp_name 3 rfl rfl <| wpa_nil ⟨[.str "keep", .int ls.length], rfl, Le rfl, _, rfl, ?_⟩
      rw [← et, app]
      exact wps_nil <| wps_nil ⟨_, _, rfl⟩
    · rw [eT_other (show ("drop" : Str) ≠ "keep" by decide), tnStep_drop]
      refine gt_tup2 2 3 rfl nd ?_
      refine wps_cons <| wst_if <| wpt_cmp <| wp_name 2 rfl rfl <| wp_str <| od_eqS ⟨_, rfl, fun hx => absurd hx (by decide), fun _ => ?_⟩
      refine wps_cons <| wst_if <| wpt_cmp <| wp_name 2 rfl rfl <| wp_str <| od_eqS ⟨_, rfl, fun _ => ?_, fun hx => absurd hx (by decide)⟩
      refine wps_cons <| wst_append 1 rfl sz <| wp_tup <| wpa_cons <| wp_str <| wpa_cons <| wp_name 3 rfl rfl <| wpa_nil ⟨[.str "put", eL ls], rfl, Le rfl, _, rfl, ?_⟩
      rw [← eT_other (show ("put" : Str) ≠ "keep" by decide), app]
      exact wps_nil <| wps_nil <| wps_nil ⟨_, _, rfl⟩
    · rw [eT_other (show ("put" : Str) ≠ "keep" by decide)]
      refine gt_tup2 2 3 rfl nd ?_
      refine wps_cons <| wst_if <| wpt_cmp <| wp_name 2 rfl rfl <| wp_str <| od_eqS ⟨_, rfl, fun hx => absurd hx (by decide), fun _ => ?_⟩
      refine wps_cons <| wst_if <| wpt_cmp <| wp_name 2 rfl rfl <| wp_str <| od_eqS ⟨_, rfl, fun hx => absurd hx (by decide), fun _ => ?_⟩
      have plain : tnStep fo ("put", ls) = fo ++ [(("drop" : Str), ls)] → _ := fun e => e
      rcases List.eq_nil_or_concat fo with rfl | ⟨f0, p, rfl⟩
      · refine wps_cons <| wst_if <| wpt_and2 (x := false) (y := false) (wpt_cmp <| wp_callB m.len PySem.boot_len <| wpa_cons <| wp_name 1 rfl rfl <| wpa_nil <| cd_len rfl <| wp_int <| od_gt ⟨_, rfl, rfl⟩) (fun z => absurd z (by decide)) ⟨fun z => absurd z (by decide), fun _ => ?_⟩
        refine wps_cons <| wst_append 1 rfl sz <| wp_tup <| wpa_cons <| wp_str <| wpa_cons <| wp_name 3 rfl rfl <| wpa_nil ⟨[.str "drop", eL ls], rfl, Le rfl, _, rfl, ?_⟩
        rw [← eT_other (show ("drop" : Str) ≠ "keep" by decide), app]
        exact wps_nil <| wps_nil <| wps_nil <| wps_nil ⟨_, _, rfl⟩
      · rw [List.concat_eq_append] at hlen sz app plain ⊢
        obtain ⟨v2, eg⟩ := eT_ix p
        have aL : atI ((f0 ++ [p]).map eT) (-1) = some (.tup [.str p.1, v2]) := by
          rw [List.map_append, ← eg]
          exact atI_last _ _
        have ll : decide ((0 : Int) < (((f0 ++ [p]).map eT).length : Nat)) = true := decide_eq_true (by rw [List.length_map, List.length_append, List.length_singleton]; omega)
        by_cases q : p.1 = "put"
        · obtain ⟨w1, la⟩ := p
          have q : w1 = "put" := q
          subst q
          rw [tnStep_put2]
          refine wps_cons <| wst_if <| wpt_and2 (x := true) (y := true) (wpt_cmp <| wp_callB m.len PySem.boot_len <| wpa_cons <| wp_name 1 rfl rfl <| wpa_nil <| cd_len rfl <| wp_int <| od_gt ⟨_, rfl, ll⟩)
            (fun _ => wpt_cmp <| wp_ix <| wp_ix <| wp_name 1 rfl rfl <| wp_unop <| wp_int <| ud_neg <| xd_seq rfl aL <| wp_int <| xd_seq rfl rfl <| wp_str <| od_eqS ⟨_, rfl, rfl⟩) ⟨fun _ => ?_, fun z => absurd z (by decide)⟩
          refine wps_cons <| wst_insert 1 rfl <| wp_binop <| wp_callB m.len PySem.boot_len <| wpa_cons <| wp_name 1 rfl rfl <| wpa_nil <| cd_len rfl <| wp_int <| od_sub ⟨f0.length, ?_, ?_, sz, wp_tup <| wpa_cons <| wp_str <| wpa_cons <| wp_name 3 rfl rfl <| wpa_nil ⟨[.str "drop", eL ls], rfl, Le rfl, _, rfl, ?_⟩⟩
          · rw [List.length_map, List.length_append, List.length_singleton]
            congr 2
            omega
          · rw [List.length_append, List.length_singleton] at hlen
            exact Nat.lt_of_lt_of_le (show _ < 1000 by omega) (by decide)
          · have e2 : ((f0 ++ [(("put" : Str), la)]).map eT).take f0.length ++ [D.tup [.str "drop", eL ls]] ++ ((f0 ++ [(("put" : Str), la)]).map eT).drop f0.length = (f0 ++ [(("drop" : Str), ls), (("put" : Str), la)]).map eT := by
              rw [← eT_other (show ("drop" : Str) ≠ "keep" by decide), List.map_append, List.map_append, List.take_left' (by rw [List.length_map]), List.drop_left' (by rw [List.length_map])]
              simp
            rw [e2]
            exact wps_nil <| wps_nil <| wps_nil <| wps_nil ⟨_, _, rfl⟩
        · have e3 : tnStep (f0 ++ [p]) ("put", ls) = f0 ++ [p] ++ [(("drop" : Str), ls)] := by
            unfold tnStep
            rw [if_neg (show ¬ ("put" : Str) = "keep" by decide), if_neg (show ¬ ("put" : Str) = "drop" by decide), List.getLast?_concat]
            exact if_neg q
          rw [e3]
          refine wps_cons <| wst_if <| wpt_and2 (x := true) (y := false) (wpt_cmp <| wp_callB m.len PySem.boot_len <| wpa_cons <| wp_name 1 rfl rfl <| wpa_nil <| cd_len rfl <| wp_int <| od_gt ⟨_, rfl, ll⟩)
            (fun _ => wpt_cmp <| wp_ix <| wp_ix <| wp_name 1 rfl rfl <| wp_unop <| wp_int <| ud_neg <| xd_seq rfl aL <| wp_int <| xd_seq rfl rfl <| wp_str <| od_eqS ⟨_, rfl, decide_eq_false q⟩) ⟨fun z => absurd z (by decide), fun _ => ?_⟩
          refine wps_cons <| wst_append 1 rfl sz <| wp_tup <| wpa_cons <| wp_str <| wpa_cons <| wp_name 3 rfl rfl <| wpa_nil ⟨[.str "drop", eL ls], rfl, Le rfl, _, rfl, ?_⟩
          rw [← eT_other (show ("drop" : Str) ≠ "keep" by decide), app]
          exact wps_nil <| wps_nil <| wps_nil <| wps_nil ⟨_, _, rfl⟩
  · obtain ⟨s2, s3, rfl⟩ := hj
    rw [List.length_map, List.take_length]
    exact wps_cons <| wst_ret <| wp_callTy m.tup PyProof.Rows.boot_tuple <| wpa_cons <| wp_name 1 rfl rfl <| wpa_nil <| cd_tuple rfl rfl
def wAt (gs : Gs) (i : Nat) : Str := (gs.getD i (("" : Str), ([] : List Str))).1
theorem wAt_eq {gs : Gs} {i : Nat} (h : i < gs.length) : wAt gs i = gs[i].1 := by
  unfold wAt
  simp [h]
/-- a drop that waits for the put behind it -/
def pend (gs : Gs) (i : Nat) : Prop := 0 < i ∧ wAt gs (i - 1) = "drop" ∧ i < gs.length ∧ wAt gs i = "put"
instance (gs : Gs) (i : Nat) : Decidable (pend gs i) := by unfold pend; exact inferInstance
def tp (gs : Gs) (i : Nat) : Gs := if pend gs i then tn (gs.take (i - 1)) else tn (gs.take i)
abbrev sTpd : Stmt := topS 25
theorem scTpd : FnScope ["steps", "found", "at", "word", "part"] ["steps"] (defScope sTpd) := ⟨rfl, rfl, rfl, by decide +kernel, rfl, by decide +kernel, by decide +kernel⟩
theorem ok_tpd (m : M mg) {gs : Gs} (hl : gs.length ≤ 900) (hp : PatOk gs) (Gc : Fn P w K mg base k "check_patch" [eP gs] (.im .non)) (d : Df K mg "turned_patch" sTpd ["steps"]) : Fn P w K mg base (k + 1) "turned_patch" [eP gs] (.im (eP (tn gs))) := by
  refine fn_mk d scTpd rfl (by simp) rfl fun f cdv A outer s H E c hr => ?_
  have nd := scTpd.nd
  obtain ⟨tk, hK⟩ := m.keep
  obtain ⟨td, hD⟩ := m.drop
  obtain ⟨tq, hP⟩ := m.put
  show WPs _ _ _ [.im (eP gs), .any, .any, .any, .any] _
  refine wps_cons <| wst_expr <| wp_fn Gc hr <| wpa_cons <| wp_name 0 rfl rfl <| wpa_nil ⟨rfl, ?_⟩
  refine wps_cons <| wst_set 1 nd <| wp_lst <| wpa_nil ⟨[], rfl, Le rfl, rfl, ?_⟩
  refine wps_cons <| wst_for (fun i Γ => ∃ s2 s3 s4, Γ = [.im (eP gs), .own (.lst ((tp gs i).map eT)), s2, s3, s4]) <| wpi_enumT m.enum <| wpa_cons <| wp_name 0 rfl rfl <| wpa_nil ⟨_, rfl, ⟨.any, .any, .any, ?_⟩, fun F1 i Γ' hi hj => ?_, fun Γ' hj => ?_⟩
  · have e : tp gs 0 = [] := by
      unfold tp
      rw [if_neg (fun z => absurd z.1 (by decide))]
      rfl
    rw [e]
    rfl
  · obtain ⟨s2, s3, s4, rfl⟩ := hj
    have hi' : i < gs.length := by simpa using hi
    have hw3 := hp.1 gs[i] (List.getElem_mem hi')
    have hwi := wAt_eq hi'
    have hnx := tn_next hi'
    have hli := tn_len gs i (by omega)
    have szp : ∀ {fo : Gs}, fo.length ≤ 901 → (fo.map eT).length < sizeLine := fun {fo} h => by
      rw [List.length_map]
      exact Nat.lt_of_lt_of_le (show _ < 1000 by omega) (by decide)
    have app : ∀ (fo : Gs) (g : Str × List Str), fo.map eT ++ [eT g] = (fo ++ [g]).map eT := fun fo g => by rw [List.map_append]; rfl
    show GtD _ _ _ (.im (.tup [.int (i : Nat), (gs.map eT).getD i .non])) _ _
    rw [getD_map eT hi']
    have prevT : 0 < i → atI (gs.map eT) ((i : Int) - 1) = some (eT (gs[i - 1]'(by omega))) := fun h0 => atI_map (by omega) (by omega)
    have nextT : ∀ h : i + 1 < gs.length, atI (gs.map eT) ((i : Int) + 1) = some (eT gs[i + 1]) := fun h => atI_map (by omega) h
    rcases hw3 with hw | hw | hw
    · -- keep
      obtain ⟨ls, eg⟩ : ∃ ls, gs[i] = (("keep" : Str), ls) := ⟨gs[i].2, by rw [← hw]⟩
      rw [eg, tnStep_keep] at hnx
      rw [eg]
      have e1 : tp gs i = tn (gs.take i) := if_neg fun z => by
        have := z.2.2.2
        rw [hwi, hw] at this
        exact absurd this (by decide)
      have e2 : tp gs (i + 1) = tn (gs.take i) ++ [(("keep" : Str), ls)] := by
        rw [← hnx]
        refine if_neg fun z => ?_
        have := z.2.1
        rw [Nat.add_sub_cancel, hwi, hw] at this
        exact absurd this (by decide)
      rw [e1, e2]
      have et : eT ("keep", ls) = .tup [.str "keep", .int ls.length] := if_pos rfl
      rw [et]
      refine gt_nest 2 3 4 rfl nd ?_
      refine wps_cons <| wst_if <| wpt_cmp <| wp_name 3 rfl rfl <| wp_gstr rfl hK <| od_eqS ⟨_, rfl, fun _ => ?_, fun hx => absurd hx (by decide)⟩
      refine wps_cons <| wst_append 1 rfl (szp (by omega)) <| wp_tup <| wpa_cons <| wp_name 3 rfl rfl <| wpa_cons <| wp_name 4 rfl rfl <| wpa_nil ⟨[.str "keep", .int ls.length], rfl, Le rfl, _, rfl, ?_⟩
      rw [← et, app]
      exact wps_nil <| wps_nil ⟨_, _, _, rfl⟩
    · -- drop
      obtain ⟨ls, eg⟩ : ∃ ls, gs[i] = (("drop" : Str), ls) := ⟨gs[i].2, by rw [← hw]⟩
      rw [eg, tnStep_drop] at hnx
      rw [eg, eT_other (show ("drop" : Str) ≠ "keep" by decide)]
      have e1 : tp gs i = tn (gs.take i) := if_neg fun z => by
        have := z.2.2.2
        rw [hwi, hw] at this
        exact absurd this (by decide)
      rw [e1]
      refine gt_nest 2 3 4 rfl nd ?_
      refine wps_cons <| wst_if <| wpt_cmp <| wp_name 3 rfl rfl <| wp_gstr rfl hK <| od_eqS ⟨_, rfl, fun hx => absurd hx (by decide), fun _ => ?_⟩
      refine wps_cons <| wst_if <| wpt_cmp <| wp_name 3 rfl rfl <| wp_gstr rfl hP <| od_eqS ⟨_, rfl, fun hx => absurd hx (by decide), fun _ => ?_⟩
      by_cases hn : i + 1 = gs.length
      · have e2 : tp gs (i + 1) = tn (gs.take i) ++ [(("put" : Str), ls)] := by
          rw [← hnx]
          refine if_neg fun z => ?_
          have := z.2.2.1
          omega
        rw [e2]
        refine wps_cons <| wst_if <| wpt_or2 (x := true) (y := true) (wpt_cmp <| wp_binop <| wp_name 2 rfl rfl <| wp_int <| od_add <| wp_callB m.len PySem.boot_len <| wpa_cons <| wp_name 0 rfl rfl <| wpa_nil <| cd_len rfl <| od_eqI ⟨_, rfl, decide_eq_true (by rw [List.length_map]; omega)⟩) (fun z => absurd z (by decide)) ⟨fun _ => ?_, fun z => absurd z (by decide)⟩
        refine wps_cons <| wst_append 1 rfl (szp (by omega)) <| wp_tup <| wpa_cons <| wp_gstr rfl hP <| wpa_cons <| wp_name 4 rfl rfl <| wpa_nil ⟨[.str "put", eL ls], rfl, Le rfl, _, rfl, ?_⟩
        rw [← eT_other (show ("put" : Str) ≠ "keep" by decide), app]
        exact wps_nil <| wps_nil <| wps_nil <| wps_nil ⟨_, _, _, rfl⟩
      · have hn1 : i + 1 < gs.length := by omega
        obtain ⟨v2, ev⟩ := eT_ix gs[i + 1]
        have hw2 := wAt_eq hn1
        have nx := nextT hn1
        rw [ev] at nx
        refine wps_cons <| wst_if <| wpt_or2 (x := false) (y := !decide (gs[i + 1].1 = "put")) (wpt_cmp <| wp_binop <| wp_name 2 rfl rfl <| wp_int <| od_add <| wp_callB m.len PySem.boot_len <| wpa_cons <| wp_name 0 rfl rfl <| wpa_nil <| cd_len rfl <| od_eqI ⟨_, rfl, decide_eq_false (by rw [List.length_map]; omega)⟩)
          (fun _ => wpt_cmp <| wp_ix <| wp_ix <| wp_name 0 rfl rfl <| wp_binop <| wp_name 2 rfl rfl <| wp_int <| od_add <| xd_seq rfl nx <| wp_int <| xd_seq rfl rfl <| wp_gstr rfl hP <| od_neS ⟨_, rfl, rfl⟩) ⟨fun hx => ?_, fun hx => ?_⟩
        · have hx : ¬ gs[i + 1].1 = "put" := by simpa using hx
          have e2 : tp gs (i + 1) = tn (gs.take i) ++ [(("put" : Str), ls)] := by
            rw [← hnx]
            refine if_neg fun z => hx ?_
            rw [← hw2]
            exact z.2.2.2
          rw [e2]
          refine wps_cons <| wst_append 1 rfl (szp (by omega)) <| wp_tup <| wpa_cons <| wp_gstr rfl hP <| wpa_cons <| wp_name 4 rfl rfl <| wpa_nil ⟨[.str "put", eL ls], rfl, Le rfl, _, rfl, ?_⟩
          rw [← eT_other (show ("put" : Str) ≠ "keep" by decide), app]
          exact wps_nil <| wps_nil <| wps_nil <| wps_nil ⟨_, _, _, rfl⟩
        · have hx : gs[i + 1].1 = "put" := by simpa using hx
          have e2 : tp gs (i + 1) = tn (gs.take i) := by
            have hp' : pend gs (i + 1) := ⟨Nat.succ_pos _, by rw [Nat.add_sub_cancel, hwi, hw], hn1, by rw [hw2, hx]⟩
            unfold tp
            rw [if_pos hp', Nat.add_sub_cancel]
          rw [e2]
          exact wps_nil <| wps_nil <| wps_nil <| wps_nil ⟨_, _, _, rfl⟩
    · -- put
      obtain ⟨ls, eg⟩ : ∃ ls, gs[i] = (("put" : Str), ls) := ⟨gs[i].2, by rw [← hw]⟩
      rw [eg] at hnx
      rw [eg, eT_other (show ("put" : Str) ≠ "keep" by decide)]
      have e2 : tp gs (i + 1) = tn (gs.take (i + 1)) := if_neg fun z => by
        have := z.2.1
        rw [Nat.add_sub_cancel, hwi, hw] at this
        exact absurd this (by decide)
      rw [e2]
      refine gt_nest 2 3 4 rfl nd ?_
      refine wps_cons <| wst_if <| wpt_cmp <| wp_name 3 rfl rfl <| wp_gstr rfl hK <| od_eqS ⟨_, rfl, fun hx => absurd hx (by decide), fun _ => ?_⟩
      refine wps_cons <| wst_if <| wpt_cmp <| wp_name 3 rfl rfl <| wp_gstr rfl hP <| od_eqS ⟨_, rfl, fun _ => ?_, fun hx => absurd hx (by decide)⟩
      have fol : tp gs i = tn (gs.take i) ∨ tp gs i = tn (gs.take (i - 1)) := by
        unfold tp
        split
        · exact .inr rfl
        · exact .inl rfl
      have lfo : (tp gs i).length ≤ 900 := by
        rcases fol with z | z
        · rw [z, hli]; omega
        · rw [z, tn_len gs (i - 1) (by omega)]; omega
      refine wps_cons <| wst_append 1 rfl (szp (by omega)) <| wp_tup <| wpa_cons <| wp_gstr rfl hD <| wpa_cons <| wp_name 4 rfl rfl <| wpa_nil ⟨[.str "drop", eL ls], rfl, Le rfl, _, rfl, ?_⟩
      rw [← eT_other (show ("drop" : Str) ≠ "keep" by decide), app]
      by_cases h0 : 0 < i
      · have hi1 : i - 1 < gs.length := by omega
        obtain ⟨v2, ev⟩ := eT_ix (gs[i - 1]'hi1)
        have pv := prevT h0
        rw [ev] at pv
        have hwp := wAt_eq hi1
        refine wps_cons <| wst_if <| wpt_and2 (x := true) (y := decide ((gs[i - 1]'hi1).1 = "drop")) (wpt_cmp <| wp_name 2 rfl rfl <| wp_int <| od_gt ⟨_, rfl, decide_eq_true (by omega)⟩)
          (fun _ => wpt_cmp <| wp_ix <| wp_ix <| wp_name 0 rfl rfl <| wp_binop <| wp_name 2 rfl rfl <| wp_int <| od_sub <| xd_seq rfl pv <| wp_int <| xd_seq rfl rfl <| wp_gstr rfl hD <| od_eqS ⟨_, rfl, rfl⟩) ⟨fun hx => ?_, fun hx => ?_⟩
        · have hx : (gs[i - 1]'hi1).1 = "drop" := by simpa using hx
          obtain ⟨la, ela⟩ : ∃ la, (gs[i - 1]'hi1) = (("drop" : Str), la) := ⟨(gs[i - 1]'hi1).2, by rw [← hx]⟩
          have ev2 : v2 = eL la := by
            rw [ela, eT_other (show ("drop" : Str) ≠ "keep" by decide)] at ev
            injection ev with ev
            injection ev with _ ev
            injection ev with ev _
            exact ev.symm
          have e1 : tp gs i = tn (gs.take (i - 1)) := if_pos ⟨h0, by rw [hwp, hx], hi', by rw [hwi, hw]⟩
          have e3 : tn (gs.take i) = tn (gs.take (i - 1)) ++ [(("put" : Str), la)] := by
            have := tn_next hi1
            rw [Nat.sub_add_cancel h0, ela, tnStep_drop] at this
            exact this
          rw [hnx, e3, tnStep_put2]
          rw [e1] at lfo ⊢
          refine wps_cons <| wst_append 1 rfl (szp (by rw [List.length_append, List.length_singleton]; omega)) <| wp_tup <| wpa_cons <| wp_gstr rfl hP <| wpa_cons <| wp_ix <| wp_ix <| wp_name 0 rfl rfl <| wp_binop <| wp_name 2 rfl rfl <| wp_int <| od_sub <| xd_seq rfl pv <| wp_int <| xd_seq rfl rfl <| wpa_nil ⟨[.str "put", eL la], by rw [ev2]; rfl, Le rfl, _, rfl, ?_⟩
          rw [← eT_other (show ("put" : Str) ≠ "keep" by decide), app, show tn (gs.take (i - 1)) ++ [(("drop" : Str), ls)] ++ [(("put" : Str), la)] = tn (gs.take (i - 1)) ++ [(("drop" : Str), ls), (("put" : Str), la)] by simp]
          exact wps_nil <| wps_nil <| wps_nil <| wps_nil ⟨_, _, _, rfl⟩
        · have hx : ¬ (gs[i - 1]'hi1).1 = "drop" := by simpa using hx
          have e1 : tp gs i = tn (gs.take i) := if_neg fun z => hx (by rw [← hwp]; exact z.2.1)
          obtain ⟨r1, r2⟩ := hp.2.2 (i - 1) (gs[i - 1]'hi1) gs[i] (List.getElem?_eq_getElem hi1) (by rw [Nat.sub_add_cancel h0]; exact List.getElem?_eq_getElem hi')
          have hkp : (gs[i - 1]'hi1).1 = "keep" := by
            rcases hp.1 (gs[i - 1]'hi1) (List.getElem_mem hi1) with z | z | z
            · exact z
            · exact absurd z hx
            · rw [z, hw] at r1
              exact absurd rfl r1
          obtain ⟨la, ela⟩ : ∃ la, (gs[i - 1]'hi1) = (("keep" : Str), la) := ⟨(gs[i - 1]'hi1).2, by rw [← hkp]⟩
          have e3 : tn (gs.take i) = tn (gs.take (i - 1)) ++ [(("keep" : Str), la)] := by
            have := tn_next hi1
            rw [Nat.sub_add_cancel h0, ela, tnStep_keep] at this
            exact this
          have nk : NK (tn (gs.take i)) := by
            rw [e3]
            exact nk_snoc _ _
          rw [hnx, tnStep_put nk, e1]
          exact wps_nil <| wps_nil <| wps_nil <| wps_nil ⟨_, _, _, rfl⟩
      · have i0 : i = 0 := by omega
        have e1 : tp gs i = tn (gs.take i) := if_neg fun z => h0 z.1
        have nk : NK (tn (gs.take i)) := by
          rw [i0]
          exact fun y hy => by cases hy
        rw [hnx, tnStep_put nk, e1]
        exact wps_cons <| wst_if <| wpt_and2 (x := false) (y := false) (wpt_cmp <| wp_name 2 rfl rfl <| wp_int <| od_gt ⟨_, rfl, decide_eq_false (by omega)⟩) (fun z => absurd z (by decide)) ⟨fun z => absurd z (by decide), fun _ => wps_nil <| wps_nil <| wps_nil <| wps_nil ⟨_, _, _, rfl⟩⟩
  · obtain ⟨s2, s3, s4, rfl⟩ := hj
    have e : tp gs (gs.map eT).length = tn gs := by
      rw [List.length_map]
      unfold tp
      rw [if_neg (fun z => absurd z.2.2.1 (by omega)), List.take_length]
    rw [e]
    exact wps_cons <| wst_ret <| wp_callTy m.tup PyProof.Rows.boot_tuple <| wpa_cons <| wp_name 1 rfl rfl <| wpa_nil <| cd_tuple rfl rfl
end
end K84

set_option Elab.async false
set_option linter.all false
set_option pp.maxSteps 300
set_option maxRecDepth 100000
set_option maxHeartbeats 2000000
/-! M9: k82, the walk: _law_bent -/
namespace K84
open PySem PySem.Spec PyProof.Rows L2 DL
theorem cutD_mem {l : List D} {a b : Option Int} {x : D} (h : x ∈ cutD l a b) : x ∈ l := by
  have e := cutD_map id l a b
  rw [List.map_id, List.map_id] at e
  rw [e] at h
  unfold cutG at h
  exact List.mem_of_mem_drop (List.mem_of_mem_take h)
theorem cutD_len (l : List D) (a b : Option Int) : (cutD l a b).length ≤ l.length := by
  have e := cutD_map id l a b
  rw [List.map_id, List.map_id] at e
  rw [e]
  unfold cutG
  rw [List.length_take, List.length_drop]
  omega
theorem lenMid {l : List D} {a b : Option Int} (t : Nat) (ha : a = some (t : Int)) (hb : b = some (t : Int) ∨ b = some ((t : Int) + 1)) : (cutD l none a).length + (cutD l b none).length ≤ l.length := by
  rw [ha]
  unfold DL.cutD
  rw [List.length_take, List.length_take, List.length_drop, List.length_drop, HT.sIx_nat, HT.sIx_none, HT.sIx_none]
  rcases hb with rfl | rfl
  · rw [HT.sIx_nat]
    omega
  · rw [show ((t : Int) + 1) = ((t + 1 : Nat) : Int) by omega, HT.sIx_nat]
    omega
/-- bounds of a part -/
def Pt (p : D) : Prop := (∀ n, p = .int n → n ≤ 200) ∧ ∀ l, p = .tup l → ∀ s, D.str s ∈ l → s ∈ okW ∨ nlB s = false
theorem wdx_mk {w : Str} {p : D} (h : Pt p) : WDx (.tup [.str w, p]) := fun w' p' e => by
  cases e
  exact h
theorem wdx_lst {l : List D} : WDx (.lst l) := fun w' p' e => by cases e
theorem pt_int {n : Int} (h : n ≤ 200) : Pt (.int n) := ⟨fun m e => (by cases e; exact h), fun l e => (by cases e)⟩
theorem pt_tup {l : List D} (h : ∀ s, D.str s ∈ l → s ∈ okW ∨ nlB s = false) : Pt (.tup l) := ⟨fun m e => (by cases e), fun l e => (by cases e; exact h)⟩
theorem pt_str {s : Str} : Pt (.str s) := ⟨fun m e => (by cases e), fun l e => (by cases e)⟩
theorem pt_lst {l : List D} : Pt (.lst l) := ⟨fun m e => (by cases e), fun l e => (by cases e)⟩
theorem pt_bl {b : Bool} : Pt (.bl b) := ⟨fun m e => (by cases e), fun l e => (by cases e)⟩
theorem wd_tup {l : List D} (hl : l.length ≤ 900) (h : ∀ x ∈ l, WDx x) : WD (.tup l) := fun xs e => by
  cases e
  exact ⟨hl, h⟩
theorem wd_lst {l : List D} : WD (.lst l) := fun xs e => by cases e
theorem wd_non : WD .non := fun xs e => by cases e
theorem wdx_eT {g : Str × List Str} (h : g.2.length ≤ 200) (hs : ∀ s ∈ g.2, s ∈ okW) : WDx (eT g) := by
  unfold eT
  split
  · exact wdx_mk (pt_int (by omega))
  · exact wdx_mk (pt_tup fun s hm => .inl (by
      obtain ⟨t, ht, e⟩ := List.mem_map.mp hm
      cases e
      exact hs _ ht))
theorem mid_mem {P : D → Prop} {l : List D} {a b c e : Option Int} {m : List D} (h : ∀ x ∈ l, P x) (h2 : ∀ x ∈ m, P x) : ∀ x ∈ cutD l a b ++ m ++ cutD l c e, P x := fun x hx => by
  rcases List.mem_append.mp hx with z | z
  · rcases List.mem_append.mp z with z | z
    · exact h x (cutD_mem z)
    · exact h2 x z
  · exact h x (cutD_mem z)
theorem wp_anyL {X : Cx} {c : C0} {Γ : List Sl} {Kk : Sl → Prop} {pos p : Pos} {k : Nat} {e : Expr} {es : List Expr} (G : AnyOk X.prog X.w X.K X.mg X.base k) (hr : Room k X.A) (h : WPa X c (e :: es) Γ fun rs => ∃ l : List D, l ≠ [] ∧ l.length ≤ 1000 ∧ rs = [.hand, .im (.lst l)] ∧ ∀ d ∈ l, Kk (.im d)) (hcd : Handy c := by assumption) (hg : Gl X "_law_any" := by rfl)
    (hn : starEach (e :: es) X.env = (false, eval e X.env) :: starEach es X.env := by rfl) (hpl : (backTo pos (starEach es X.env)).any (·.1) = false := by rfl) : WPe X c (.Call (.Name "_law_any" p) (e :: es) [] pos) Γ Kk := by
  obtain ⟨f, fd, ps, hps, G, hm, hk, hb⟩ := G
  refine wp_callY hcd G hr hm hk hb (fun F H stk S σ hl E Q q => h F H stk S σ hl E Q fun vs rs F' H' k => ?_) hg hn (by decide) hpl
  obtain ⟨l, h1, h2, rfl, h3⟩ := k
  exact q vs _ F' H' ⟨[.lst l], rfl, hps.symm, ⟨l, h1, h2, rfl⟩, fun r hp => ⟨hp.1, by
    obtain ⟨d, hd, rfl⟩ := hp.2 l rfl
    exact h3 d hd⟩⟩
def Bnt (r : Sl) : Prop := ∃ d, r = .im d ∧ WD d
section
variable {P : Program} {w : World} {K : PySem.W.Frag} {mg : Str → Option Value} {base : Heap} {f : Addr} {fd : FuncData} {k : Nat}
abbrev sBnt : Stmt := topS 43
theorem scBnt : FnScope ["hand", "steps", "at", "way", "some", "more", "word", "part"] ["hand", "steps"] (defScope sBnt) := ⟨rfl, rfl, rfl, by decide +kernel, rfl, by decide +kernel, by decide +kernel⟩
theorem ok_bnt (m : M mg) {gs : Gs} (hP : PatOk gs) (hl : gs.length ≤ 800) (hs : ∀ g ∈ gs, g.2.length ≤ 150) (Gd : ∀ n : Nat, 0 < n → n ≤ 1000 → FnH P w K mg base k "_law_draw" [.int (n : Nat)] (digit n)) (Ga : AnyOk P w K mg base k)
    (d : Df K mg "_law_bent" sBnt ["hand", "steps"]) : FnH P w K mg base (k + 1) "_law_bent" [eP gs] Bnt := by
  refine fnH_mk d scBnt rfl fun f cdv A outer s H E c hr hcd => ?_
  have nd := scBnt.nd
  have szl : ∀ n : Nat, n ≤ 900 → n ≤ sizeLine := fun n hn => Nat.le_of_lt (Nat.lt_of_lt_of_le (show n < 1000 by omega) (by decide))
  obtain ⟨TL, hTL⟩ : ∃ TL : List D, TL = gs.map eT := ⟨_, rfl⟩
  have lT : TL.length ≤ 800 := by rw [hTL, List.length_map]; exact hl
  have mT : ∀ x ∈ TL, WDx x := fun x hx => by
    rw [hTL] at hx
    obtain ⟨g, hg, rfl⟩ := List.mem_map.mp hx
    have h1 := hs g hg
    exact wdx_eT (by omega) (hP.2.1 g hg).2.2
  have aT : ∀ i, (h : i < TL.length) → ∃ g ∈ gs, atI TL (i : Int) = some (eT g) := fun i h => by
    have h2 : i < gs.length := by rw [hTL, List.length_map] at h; exact h
    refine ⟨gs[i], List.getElem_mem h2, ?_⟩
    rw [hTL]
    exact atI_map rfl h2
  have eM : eP gs = .tup TL := by rw [hTL]; rfl
  have wTT : WDx (.tup TL) := fun w' p' e => by
    rw [hTL] at e
    have e : gs.map eT = [.str w', p'] := by injection e
    cases gs with
    | nil => cases e
    | cons g r =>
      rw [List.map_cons] at e
      obtain ⟨v, ev⟩ := eT_ix g
      rw [ev] at e
      injection e with e1 e2
      cases e1
  rw [eM]
  clear eM hTL
  show WPs _ _ _ [.hand, .im (.tup TL), .any, .any, .any, .any, .any, .any] _
  refine wps_cons <| wst_par 2 3 rfl nd (by decide) <| wp_fnH (Gd (TL.length + 1) (by omega) (by omega)) hr <| wpa_cons <| wp_name 0 rfl rfl <| wpa_cons <| wp_binop <| wp_callB m.len PySem.boot_len <| wpa_cons <| wp_name 1 rfl rfl <| wpa_nil <| cd_len rfl <| wp_int <| od_add <| wpa_nil ⟨rfl, fun r hv hp => ?_⟩
  obtain ⟨at_, hat, rfl⟩ := hp
  refine wp_fnH (Gd 7 (by decide) (by decide)) hr <| wpa_cons <| wp_name 0 rfl rfl <| wpa_cons <| wp_int <| wpa_nil ⟨rfl, fun r hv hp => ?_⟩
  obtain ⟨way, hway, rfl⟩ := hp
  refine ⟨rfl, rfl, ?_⟩
  show WPs _ _ _ [.hand, .im (.tup TL), .im (.int (at_ : Nat)), .im (.int (way : Nat)), .any, .any, .any, .any] _
  have cl : ∀ (l : List D) (a b : Option Int), (cutD l a b).length ≤ l.length := cutD_len
  have put : ∀ (x : D) (b : Option Int), (b = some (at_ : Int) ∨ b = some ((at_ : Int) + 1)) → WDx x → WD (.tup (cutD TL none (some (at_ : Int)) ++ [x] ++ cutD TL b none)) := fun x b hb hx => by
    refine wd_tup ?_ (mid_mem mT fun y hy => by rw [List.mem_singleton.mp hy]; exact hx)
    have := lenMid (l := TL) at_ rfl hb
    rw [List.length_append, List.length_append, List.length_singleton]
    omega
  have sz1 : ∀ (x : D), (cutD TL none (some (at_ : Int))).length + [x].length ≤ sizeLine := fun x => szl _ (by
    have := cl TL none (some (at_ : Int))
    rw [List.length_singleton]
    omega)
  have sz2 : ∀ (x : D) (b : Option Int), (b = some (at_ : Int) ∨ b = some ((at_ : Int) + 1)) → (cutD TL none (some (at_ : Int)) ++ [x]).length + (cutD TL b none).length ≤ sizeLine := fun x b hb => by
    have := lenMid (l := TL) at_ rfl hb
    refine szl _ ?_
    rw [List.length_append, List.length_singleton]
    omega
  refine wps_cons <| wst_if <| wpt_or2 (x := decide ((at_ : Int) = TL.length)) (y := decide ((way : Int) = 0)) (wpt_cmp <| wp_name 2 rfl rfl <| wp_callB m.len PySem.boot_len <| wpa_cons <| wp_name 1 rfl rfl <| wpa_nil <| cd_len rfl <| od_eqI ⟨_, rfl, rfl⟩) (fun _ => wpt_cmp <| wp_name 3 rfl rfl <| wp_int <| od_eqI ⟨_, rfl, rfl⟩) ⟨fun _ => ?_, fun hx => wps_nil ?_⟩
  · refine wps_cons ?_
    refine wst_set 4 ?nd1 ?h1 (hs := ?hs1) (hf := ?hf1) (hx := ?hx1) (hi := ?hi1) (hl := ?hl1)
    case nd1 => exact nd
    case hl1 => exact Nat.le_of_ble_eq_true rfl
    case hi1 => exact rfl
    case hx1 => exact .inl rfl
    case hf1 => exact .inr rfl
    case hs1 => exact rfl
    refine wp_lst <| wpa_cons <| wp_tup <| wpa_cons <| wp_str <| wpa_cons <| wp_int <| wpa_nil ⟨[.str "keep", .int 1], rfl, Le rfl, wpa_cons <| wp_tup <| wpa_cons <| wp_str <| wpa_cons <| wp_int <| wpa_nil ⟨[.str "keep", .int 0], rfl, Le rfl, wpa_cons <| wp_tup <| wpa_cons <| wp_str <| wpa_cons <| wp_bl <| wpa_nil ⟨[.str "keep", .bl true], rfl, Le rfl, wpa_cons <| wp_tup <| wpa_cons <| wp_str <| wpa_cons <| wp_tup <| wpa_cons <| wp_str <| wpa_nil ⟨[.str "a"], rfl, Le rfl, wpa_nil ⟨[.str "drop", .tup [.str "a"]], rfl, Le rfl, wpa_nil ⟨[.tup [.str "keep", .int 1], .tup [.str "keep", .int 0], .tup [.str "keep", .bl true], .tup [.str "drop", .tup [.str "a"]]], rfl, Le rfl, rfl, ?_⟩⟩⟩⟩⟩⟩
    refine wps_freeze 4 rfl ?_
    refine wps_cons ?_
    refine wst_set 5 ?nd2 ?h2 (hs := ?hs2) (hf := ?hf2) (hx := ?hx2) (hi := ?hi2) (hl := ?hl2)
    case nd2 => exact nd
    case hl2 => exact Nat.le_of_ble_eq_true rfl
    case hi2 => exact rfl
    case hx2 => exact .inl rfl
    case hf2 => exact .inr rfl
    case hs2 => exact rfl
    refine wp_anyL Ga hr <| wpa_cons <| wp_name 0 rfl rfl <| wpa_cons <| wp_binop <| wp_name 4 rfl rfl <| wp_lst <| wpa_cons <| wp_tup <| wpa_cons <| wp_str <| wpa_cons <| wp_tup <| wpa_cons <| wp_str <| wpa_nil ⟨[.str "a"], rfl, Le rfl, wpa_nil ⟨[.str "put", .tup [.str "a"]], rfl, Le rfl, wpa_cons <| wp_tup <| wpa_cons <| wp_str <| wpa_cons <| wp_tup <| wpa_nil ⟨[], rfl, Le rfl, wpa_nil ⟨[.str "put", .tup []], rfl, Le rfl, wpa_nil ⟨[.tup [.str "put", .tup [.str "a"]], .tup [.str "put", .tup []]], rfl, Le rfl, od_cat rfl rfl (szl _ (Nat.le_of_ble_eq_true rfl)) <| wpa_nil ⟨_, by simp, by simp, rfl, fun more hm => ⟨rfl, ?_⟩⟩⟩⟩⟩⟩⟩
    have pa : ∀ s, D.str s ∈ [D.str "a"] → s ∈ okW ∨ nlB s = false := fun s h => by
      have e : D.str s = .str "a" := List.mem_singleton.mp h
      cases e
      exact .inl (by decide +kernel)
    have hw : WDx more := by
      simp only [List.mem_append, List.mem_cons, List.not_mem_nil, or_false] at hm
      rcases hm with (rfl | rfl | rfl | rfl) | (rfl | rfl)
      · exact wdx_mk (pt_int (by decide))
      · exact wdx_mk (pt_int (by decide))
      · exact wdx_mk pt_bl
      · exact wdx_mk (pt_tup pa)
      · exact wdx_mk (pt_tup pa)
      · exact wdx_mk (pt_tup fun s h => (List.not_mem_nil h).elim)
    refine wps_cons <| wst_ret <| wp_binop <| wp_binop <| wp_sliceT <| wp_name 1 rfl rfl <| ⟨_, rfl, wpo_none <| wpo_some <| wp_name 2 rfl rfl ⟨_, rfl, wp_tup <| wpa_cons <| wp_name 5 rfl rfl <| wpa_nil ⟨[more], rfl, Le rfl, od_catT (sz1 more) <| wp_sliceT <| wp_name 1 rfl rfl <| ⟨_, rfl, wpo_some <| wp_name 2 rfl rfl ⟨_, rfl, wpo_none <| od_catT (sz2 more _ (.inl rfl)) ⟨rfl, _, rfl, put more _ (.inl rfl) hw⟩⟩⟩⟩⟩⟩
  have ha : at_ < TL.length := by
    have h1 : decide ((at_ : Int) = TL.length) = false := (Bool.or_eq_false_iff.mp hx).1
    have h2 : ¬ ((at_ : Int) = TL.length) := of_decide_eq_false h1
    omega
  clear hx hat
  obtain ⟨g, hg, hat⟩ := aT at_ ha
  obtain ⟨v, ev⟩ := eT_ix g
  have hga : WDx (eT g) := wdx_eT (by have := hs g hg; omega) (hP.2.1 g hg).2.2
  refine wps_cons <| wst_asg <| wp_ix <| wp_name 1 rfl rfl <| wp_name 2 rfl rfl <| xd_seq rfl (hat.trans (congrArg some ev)) <| gt_tup2 6 7 rfl (by exact nd) ?_
  show WPs _ _ _ [.hand, .im (.tup TL), .im (.int (at_ : Nat)), .im (.int (way : Nat)), .any, .any, .im (.str g.1), .im v] _
  -- a step left out
  refine wps_cons <| wst_if <| wpt_cmp <| wp_name 3 rfl rfl <| wp_int <| od_eqI ⟨_, rfl, fun _ => ?_, fun _ => wps_nil ?_⟩
  · refine wps_cons <| wst_ret <| wp_binop <| wp_sliceT <| wp_name 1 rfl rfl <| ⟨_, rfl, wpo_none <| wpo_some <| wp_name 2 rfl rfl ⟨_, rfl, wp_sliceT <| wp_name 1 rfl rfl <| ⟨_, rfl, wpo_some <| wp_binop <| wp_name 2 rfl rfl <| wp_int <| od_add ⟨_, rfl, wpo_none <| od_catT (szl _ ?_) ⟨rfl, _, rfl, wd_tup ?_ fun x hx => ?_⟩⟩⟩⟩⟩
    · exact Nat.le_trans (lenMid at_ rfl (.inr rfl)) (by omega)
    · rw [List.length_append]
      exact Nat.le_trans (lenMid at_ rfl (.inr rfl)) (by omega)
    · rcases List.mem_append.mp hx with z | z
      · exact mT x (cutD_mem z)
      · exact mT x (cutD_mem z)
  -- a step twice
  refine wps_cons <| wst_if <| wpt_cmp <| wp_name 3 rfl rfl <| wp_int <| od_eqI ⟨_, rfl, fun _ => ?_, fun _ => wps_nil ?_⟩
  · have b1 := lenMid (l := TL) at_ rfl (.inl (rfl : some (at_ : Int) = _))
    have b2 : (cutD TL (some (at_ : Int)) (some ((at_ : Int) + 1))).length ≤ 1 := by
      unfold DL.cutD
      rw [List.length_take, show ((at_ : Int) + 1) = ((at_ + 1 : Nat) : Int) by omega, HT.sIx_nat, HT.sIx_nat]
      omega
    refine wps_cons <| wst_ret <| wp_binop <| wp_binop <| wp_sliceT <| wp_name 1 rfl rfl <| ⟨_, rfl, wpo_none <| wpo_some <| wp_name 2 rfl rfl ⟨_, rfl, wp_sliceT <| wp_name 1 rfl rfl <| ⟨_, rfl, wpo_some <| wp_name 2 rfl rfl ⟨_, rfl, wpo_some <| wp_binop <| wp_name 2 rfl rfl <| wp_int <| od_add ⟨_, rfl, od_catT (szl _ ?_) <| wp_sliceT <| wp_name 1 rfl rfl <| ⟨_, rfl, wpo_some <| wp_name 2 rfl rfl ⟨_, rfl, wpo_none <| od_catT (szl _ ?_) ⟨rfl, _, rfl, wd_tup ?_ (mid_mem mT fun x hx => mT x (cutD_mem hx))⟩⟩⟩⟩⟩⟩⟩⟩
    · omega
    · rw [List.length_append]
      omega
    · rw [List.length_append, List.length_append]
      omega
  -- turned
  refine wps_cons <| wst_if <| wpt_cmp <| wp_name 3 rfl rfl <| wp_int <| od_eqI ⟨_, rfl, fun _ => ?_, fun _ => wps_nil ?_⟩
  · exact wps_cons <| wst_ret <| wp_revT <| wp_name 1 rfl rfl ⟨_, rfl, rfl, _, rfl, wd_tup (by rw [List.length_reverse]; omega) fun x hx => mT x (List.mem_reverse.mp hx)⟩
  -- no patch
  refine wps_cons <| wst_if <| wpt_cmp <| wp_name 3 rfl rfl <| wp_int <| od_eqI ⟨_, rfl, fun _ => ?_, fun _ => wps_nil ?_⟩
  · refine wps_cons ?_
    refine wst_set 4 ?nd3 ?h3 (hs := ?hs3) (hf := ?hf3) (hx := ?hx3) (hi := ?hi3) (hl := ?hl3)
    case nd3 => exact nd
    case hl3 => exact Nat.le_of_ble_eq_true rfl
    case hi3 => exact rfl
    case hx3 => exact .inl rfl
    case hf3 => exact .inr rfl
    case hs3 => exact rfl
    refine wp_lst <| wpa_cons <| wp_callTy m.list PyProof.Rows.boot_list <| wpa_cons <| wp_name 1 rfl rfl <| wpa_nil <| cd_list rfl <| wpa_cons <| wp_non <| wpa_cons <| wp_tup <| wpa_cons <| wp_name 1 rfl rfl <| wpa_nil ⟨[.tup TL], rfl, Le rfl, wpa_nil ⟨[.lst TL, .non, .tup [.tup TL]], rfl, Le rfl, rfl, ?_⟩⟩
    refine wps_cons <| wst_append 4 rfl (Nat.lt_of_lt_of_le (show 3 < 1000 by decide) (by decide)) <| wp_binop <| wp_binop <| wp_sliceT <| wp_name 1 rfl rfl <| ⟨_, rfl, wpo_none <| wpo_some <| wp_name 2 rfl rfl ⟨_, rfl, wp_tup <| wpa_cons <| wp_callTy m.list PyProof.Rows.boot_list <| wpa_cons <| wp_ix <| wp_name 1 rfl rfl <| wp_name 2 rfl rfl <| xd_seq rfl (hat.trans (congrArg some ev)) <| wpa_nil <| cd_list rfl <| wpa_nil ⟨[.lst [.str g.1, v]], rfl, Le rfl, od_catT (sz1 _) <| wp_sliceT <| wp_name 1 rfl rfl <| ⟨_, rfl, wpo_some <| wp_binop <| wp_name 2 rfl rfl <| wp_int <| od_add ⟨_, rfl, wpo_none <| od_catT (sz2 _ _ (.inr rfl)) ⟨_, rfl, ?_⟩⟩⟩⟩⟩⟩
    refine wps_freeze 4 rfl ?_
    refine wps_cons <| wst_ret <| wp_anyL Ga hr <| wpa_cons <| wp_name 0 rfl rfl <| wpa_cons <| wp_name 4 rfl rfl <| wpa_nil ⟨_, by simp, by simp, rfl, fun x hx => ⟨rfl, x, rfl, ?_⟩⟩
    simp only [List.mem_append, List.mem_cons, List.not_mem_nil, or_false] at hx
    rcases hx with (rfl | rfl | rfl) | rfl
    · exact wd_lst
    · exact wd_non
    · exact wd_tup (by simp) fun x hx => by rw [List.mem_singleton.mp hx]; exact wTT
    · exact put _ _ (.inr rfl) wdx_lst
  -- a part otherwise
  refine wps_seq (fun Γ => ∃ (p : D) (s4 : Sl), Pt p ∧ Γ = [.hand, .im (.tup TL), .im (.int (at_ : Nat)), .im (.int (way : Nat)), s4, .any, .im (.str g.1), .im p]) ?_ ?_
  · have hgw := hP.2.1 g hg
    have hgs := hs g hg
    refine wst_if <| wpt_cmp <| wp_name 6 rfl rfl <| wp_str <| od_eqS ⟨_, rfl, fun hk => ?_, fun hk => ?_⟩
    · have hk : g.1 = "keep" := of_decide_eq_true hk
      obtain ⟨n, hn, rfl⟩ : ∃ n : Nat, n ≤ 150 ∧ v = .int n := by
        unfold eT at ev
        rw [if_pos hk] at ev
        cases ev
        exact ⟨_, hgs, rfl⟩
      refine wps_cons ?_
      refine wst_set 7 ?nd4 ?h4 (hs := ?hs4) (hf := ?hf4) (hx := ?hx4) (hi := ?hi4) (hl := ?hl4)
      case nd4 => exact nd
      case hl4 => exact Nat.le_of_ble_eq_true rfl
      case hi4 => exact rfl
      case hx4 => exact .inl rfl
      case hf4 => exact .inr rfl
      case hs4 => exact rfl
      refine wp_anyL Ga hr <| wpa_cons <| wp_name 0 rfl rfl <| wpa_cons <| wp_lst <| wpa_cons <| wp_binop <| wp_name 7 rfl rfl <| wp_int <| od_add <| wpa_cons <| wp_binop <| wp_name 7 rfl rfl <| wp_int <| od_sub <| wpa_cons <| wp_unop <| wp_name 7 rfl rfl <| ud_neg <| wpa_cons <| wp_tup <| wpa_cons <| wp_name 7 rfl rfl <| wpa_nil ⟨[.int n], rfl, Le rfl, wpa_cons <| wp_callTy m.str PyProof.Rows.boot_str <| wpa_cons <| wp_name 7 rfl rfl <| wpa_nil <| cd_strInt ?_ <| wpa_nil ⟨[.int (n + 1), .int (n - 1), .int (-n), .tup [.int n], .str (toString (n : Int) : String)], rfl, Le rfl, wpa_nil ⟨_, by simp, by simp, rfl, fun p hp => ⟨rfl, wps_nil ⟨p, _, ?_, rfl⟩⟩⟩⟩⟩
      · by_cases h0 : n = 0
        · subst h0
          decide
        · exact (Nat.log2_lt (by omega)).mpr (Nat.lt_of_lt_of_le (show (n : Int).natAbs < 2 ^ 9 by omega) (Nat.pow_le_pow_right (by decide) (by decide)))
      · simp only [List.mem_cons, List.not_mem_nil, or_false] at hp
        rcases hp with rfl | rfl | rfl | rfl | rfl
        · exact pt_int (by omega)
        · exact pt_int (by omega)
        · exact pt_int (by omega)
        · exact pt_tup fun s h => by cases List.mem_singleton.mp h
        · exact pt_str
    · have hk : ¬ g.1 = "keep" := of_decide_eq_false hk
      obtain rfl : v = .tup (g.2.map D.str) := by
        unfold eT at ev
        rw [if_neg hk] at ev
        cases ev
        rfl
      have hp0 : 0 < g.2.length := List.length_pos_iff.mpr hgw.1
      have mP : ∀ x ∈ g.2.map D.str, ∀ s, x = .str s → s ∈ okW ∨ nlB s = false := fun x hx s e => by
        obtain ⟨t, ht, rfl⟩ := List.mem_map.mp hx
        cases e
        exact .inl (hgw.2.2 _ ht)
      have lP : (g.2.map D.str).length ≤ 150 := by rw [List.length_map]; exact hgs
      have a0 : atI (g.2.map D.str) ((0 : Nat) : Int) = some (.str (g.2.getD 0 "")) := atI_str rfl hp0
      generalize g.2.map D.str = PL at mP lP a0
      refine wps_cons ?_
      refine wst_set 4 ?nd5 ?h5 (hs := ?hs5) (hf := ?hf5) (hx := ?hx5) (hi := ?hi5) (hl := ?hl5)
      case nd5 => exact nd
      case hl5 => exact Nat.le_of_ble_eq_true rfl
      case hi5 => exact rfl
      case hx5 => exact .inl rfl
      case hf5 => exact .inr rfl
      case hs5 => exact rfl
      refine wp_lst <| wpa_cons <| wp_sliceT <| wp_name 7 rfl rfl <| ⟨_, rfl, wpo_some <| wp_int ⟨_, rfl, wpo_none <| wpa_cons <| wp_binop <| wp_name 7 rfl rfl <| wp_tup <| wpa_cons <| wp_str <| wpa_nil ⟨[.str "a"], rfl, Le rfl, od_catT (szl _ (by simp only [List.length_singleton]; omega)) <| wpa_cons <| wp_callTy m.list PyProof.Rows.boot_list <| wpa_cons <| wp_name 7 rfl rfl <| wpa_nil <| cd_list rfl <| wpa_cons <| wp_binop <| wp_sliceT <| wp_name 7 rfl rfl <| ⟨_, rfl, wpo_none <| wpo_some <| wp_unop <| wp_int <| ud_neg ⟨_, rfl, wp_tup <| wpa_cons <| wp_str <| wpa_nil ⟨[.str "z\n"], rfl, Le rfl, od_catT (szl _ (by have := cl PL none (some (-1)); simp only [List.length_singleton]; omega)) <| wpa_nil ⟨[.tup (cutD PL (some 1) none), .tup (PL ++ [.str "a"]), .lst PL, .tup (cutD PL none (some (-1)) ++ [.str "z\n"])], rfl, Le rfl, rfl, ?_⟩⟩⟩⟩⟩⟩⟩
      refine wps_freeze 4 rfl ?_
      refine wps_cons ?_
      refine wst_set 7 ?nd6 ?h6 (hs := ?hs6) (hf := ?hf6) (hx := ?hx6) (hi := ?hi6) (hl := ?hl6)
      case nd6 => exact nd
      case hl6 => exact Nat.le_of_ble_eq_true rfl
      case hi6 => exact rfl
      case hx6 => exact .inl rfl
      case hf6 => exact .inr rfl
      case hs6 => exact rfl
      refine wp_anyL Ga hr <| wpa_cons <| wp_name 0 rfl rfl <| wpa_cons <| wp_binop <| wp_name 4 rfl rfl <| wp_lst <| wpa_cons <| wp_ix <| wp_name 7 rfl rfl <| wp_int <| xd_seq rfl a0 <| wpa_cons <| wp_revT <| wp_name 7 rfl rfl ⟨_, rfl, wpa_nil ⟨[.str (g.2.getD 0 ""), .tup PL.reverse], rfl, Le rfl, od_cat rfl rfl (szl _ (Nat.le_of_ble_eq_true rfl)) <| wpa_nil ⟨_, by simp, by simp, rfl, fun p hp => ⟨rfl, wps_nil ⟨p, _, ?_, rfl⟩⟩⟩⟩⟩
      simp only [List.mem_append, List.mem_cons, List.not_mem_nil, or_false] at hp
      rcases hp with (rfl | rfl | rfl | rfl) | (rfl | rfl)
      · exact pt_tup fun s h => mP _ (cutD_mem h) s rfl
      · refine pt_tup fun s h => ?_
        rcases List.mem_append.mp h with z | z
        · exact mP _ z s rfl
        · cases List.mem_singleton.mp z
          exact .inl (by decide +kernel)
      · exact pt_lst
      · refine pt_tup fun s h => ?_
        rcases List.mem_append.mp h with z | z
        · exact mP _ (cutD_mem z) s rfl
        · cases List.mem_singleton.mp z
          exact .inr (by decide +kernel)
      · exact pt_str
      · exact pt_tup fun s h => mP _ (List.mem_reverse.mp h) s rfl
  rintro Γ ⟨p, s4, hp, rfl⟩
  refine wps_cons <| wst_ret <| wp_binop <| wp_binop <| wp_sliceT <| wp_name 1 rfl rfl <| ⟨_, rfl, wpo_none <| wpo_some <| wp_name 2 rfl rfl ⟨_, rfl, wp_tup <| wpa_cons <| wp_tup <| wpa_cons <| wp_name 6 rfl rfl <| wpa_cons <| wp_name 7 rfl rfl <| wpa_nil ⟨[.str g.1, p], rfl, Le rfl, wpa_nil ⟨[.tup [.str g.1, p]], rfl, Le rfl, od_catT (sz1 _) <| wp_sliceT <| wp_name 1 rfl rfl <| ⟨_, rfl, wpo_some <| wp_binop <| wp_name 2 rfl rfl <| wp_int <| od_add ⟨_, rfl, wpo_none <| od_catT (sz2 _ _ (.inr rfl)) ⟨rfl, _, rfl, put _ _ (.inr rfl) (wdx_mk hp)⟩⟩⟩⟩⟩⟩⟩
end
end K84

set_option Elab.async false
set_option linter.all false
set_option pp.maxSteps 300
set_option maxRecDepth 100000
set_option maxHeartbeats 1000000
/-! M10: k82, the walk: _law_told -/
namespace K84
open PySem PySem.Spec PyProof.Rows L2 DL
section
variable {X : Cx}
abbrev sTld : Stmt := topS 44
theorem scTld : FnScope ["call", "e"] ["call"] (defScope sTld) := ⟨rfl, rfl, rfl, by decide +kernel, rfl, by decide +kernel, by decide +kernel⟩
/-- the facts that the walk of _law_told wants -/
structure TldM (K : PySem.W.Frag) (mg : Str → Option Value) (L N : Addr) : Prop where
  l : mg "LockError" = some (.ref L)
  n : mg "NotFittingPatch" = some (.ref N)
  i : mg "isinstance" = none
  v : mg "ValueError" = none
  x : PySem.W.exmOne K (.ref N) (.ref L) = some true
  k1 : PySem.W.kitOne K (.ref N) (.ref N) = some true
  k2 : PySem.W.kitOne K (.ref N) (.type "ValueError") = some true
  c : ExcC K N
theorem told_ok {q : Str} {g : Addr} {cdg : Value} {L N : Addr} (t : TldM X.K X.mg L N) : LamX.GivesTo X ["call", "e"] "_law_told" (defScope sTld) g cdg (defBody sTld) "call" q (TTd (.ref N) "told" "not fitting") := by
  intro f c' s H Q tl act hc h
  refine ⟨_, pss_one (ps_try_as (X := (cxOf C8.CX0 X.prog X.w X.K X.mg X.base ["call", "e"] "_law_told" (defScope sTld) g cdg X.A X.stack s H C8.E0).nox) (i := 1) (c := .ref L) (Wout := fun _ _ _ _ => False)
      (tb := fun W D σ H => ∃ Ech : XK, (∀ cls d σ' H', Ech cls d H' → W cls d σ' H') ∧ σ[0]? = some (some (.ref f)) ∧ H c' = some (LamX.CodeO c' q) ∧ tl Ech H fun v H' => ∀ p, H' p = none → D.rt (.ref p) (upd H' p (.tup [.str "told", v])))
      (ts := fun a cls d D σ H => (1 < σ.length → σ[1]? = some (some (.ref a))) ∧ cls = .ref N ∧ d = none ∧ ∀ p, H p = none → D.rt (.ref p) (upd H p (.tup [.str "not fitting"])))
      rfl rfl scTld.nd rfl rfl ⟨rfl, by decide, .inl t.l⟩ LamX.takes0 (fun W pn xe tk _ => ?_) (fun a oe cls d pn hz hf => ?_)), ?_⟩
  · refine ⟨fun pins s' σ H' D I h' => ?_⟩
    obtain ⟨Ech, hW, h1, h2, h3⟩ := h'
    refine PSs.run (pss_one (ps_ret (pe_tup (pa_cons pe_str (pa_cons (act W pn xe Ech _ _ tk hW) pa_nil))))) pins s' σ H' D I ?_
    refine ⟨h1, h2, ?_⟩
    exact cast (congrArg (tl Ech H') (funext fun v => funext fun H1 => propext ⟨fun h => ⟨(show 2 ≤ sizeLine by decide), h⟩, fun h => h.2⟩)) h3
  · refine ⟨fun pins s' σ H' D I h' => ?_⟩
    obtain ⟨h1, rfl, rfl, h2⟩ := h'
    have hl : 1 < σ.length := by
      rw [I.len]
      exact (by decide : 1 < 2)
    have h3 := h1 hl
    have hi : CallR ((cxOf C8.CX0 X.prog X.w X.K X.mg X.base ["call", "e"] "_law_told" (defScope sTld) g cdg X.A X.stack s H C8.E0).nox.suite a ((a, oe) :: pn)) (.builtin "isinstance") (rIsE X.K N a) := call_isE (X := (cxOf C8.CX0 X.prog X.w X.K X.mg X.base ["call", "e"] "_law_told" (defScope sTld) g cdg X.A X.stack s H C8.E0).nox) t.c hz hf
    refine PSs.run (pss_cons (ps_if (PW.pt (pw_and (pt_val (pe_callB hi (by rfl) t.i PyProof.Rows.boot_isinstance (pa_cons (pe_var (i := 1) (by rfl) (by exact Or.inl rfl)) (pa_cons (pe_glob (v := .ref N) (by rfl) t.n rfl) pa_nil)))) (pw_and1 (pt_val (pe_callB hi (by rfl) t.i PyProof.Rows.boot_isinstance (pa_cons (pe_var (i := 1) (by rfl) (by exact Or.inl rfl)) (pa_cons (pe_bltn (v := .ty "ValueError") (by rfl) t.v (by rfl) rfl) pa_nil))))))) (pss_one (ps_ret (pe_tup (pa_cons pe_str pa_nil)))) pss_nil) (pss_one (ps_ret (pe_tup (pa_cons pe_str pa_nil))))) pins s' σ H' D I ?_
    refine ⟨.ref a, h3, .ref N, .ref N, true, rfl, fun u hu => hu, t.k1, true, rfl, ?_⟩
    refine Eq.mpr (if_pos rfl) ?_
    refine ⟨.ref a, h3, .ty "ValueError", .type "ValueError", true, rfl, fun u hu => hu, t.k2, true, rfl, ?_⟩
    refine Eq.mpr (if_pos rfl) ?_
    exact ⟨by decide, h2⟩
  · refine ⟨fun cls d H' => cls = .ref N ∧ d = none ∧ ∀ p, H' p = none → Q (.ref p) (upd H' p (.tup [.str "not fitting"])), fun cls d σ' H' e => ?_, rfl, hc, h⟩
    obtain ⟨rfl, rfl, e⟩ := e
    exact ⟨true, t.x, fun _ a ha => ⟨fun hl => List.getElem?_set_self (by simpa using hl), rfl, rfl, e⟩, fun z => by cases z⟩
end
end K84

set_option Elab.async false
set_option linter.all false
set_option pp.maxSteps 300
set_option maxRecDepth 100000
set_option maxHeartbeats 1000000
/-! M11: k82, the walk: _law_is_applied -/
namespace K84
open PySem PySem.Spec PyProof.Rows L2 DL
theorem rp_eLL {l : List Str} (h : ∀ s ∈ l, s ∈ okW) (hl : l.length ≤ 200000) : Rp 4400002 1 (eL l) := by
  refine (rp_tup (n := 20) (dp := 0) (ds := l.map D.str) fun d hd => ?_).mono ?_ (Nat.le_refl _)
  · obtain ⟨s, hs, rfl⟩ := List.mem_map.mp hd
    exact rp_str (List.mem_cons_of_mem _ (List.mem_cons_of_mem _ (h s hs)))
  · rw [List.length_map]
    omega
/-- what is told of a row or of none -/
def eTd : Option (List Str) → D
  | some l => .tup [.str "told", eL l]
  | none => .tup [.str "not fitting"]
theorem told_sh : PyData.canLay0 (.str ("told" : Str)) = true ∧ (reprText ("told" : Str)).length ≤ 20 := by decide +kernel
theorem notf_sh : PyData.canLay0 (.str ("not fitting" : Str)) = true ∧ (reprText ("not fitting" : Str)).length ≤ 20 := by decide +kernel
theorem rp_s {s : Str} (h : PyData.canLay0 (.str s) = true ∧ (reprText s).length ≤ 20) : Rp 20 0 (.str s) where
  can := by rw [py]; exact h.1
  dep := by rw [py, PyData.depth]; exact Nat.le_refl 0
  sho := by rw [py, PyData.showable]
  len := by rw [py, PyData.shown]; exact h.2
theorem rp_eTd {o : Option (List Str)} (h : ∀ l, o = some l → (∀ s ∈ l, s ∈ okW) ∧ l.length ≤ 200000) : Rp 8800010 2 (eTd o) := by
  cases o with
  | none =>
    refine (rp_tup (n := 20) (dp := 0) (ds := [.str "not fitting"]) fun d hd => ?_).mono (by simp) (by decide)
    rw [List.mem_singleton.mp hd]
    exact rp_s notf_sh
  | some l =>
    obtain ⟨h1, h2⟩ := h l rfl
    refine (rp_tup (n := 4400002) (dp := 1) (ds := [.str "told", eL l]) fun d hd => ?_).mono (by simp) (Nat.le_refl _)
    simp only [List.mem_cons, List.not_mem_nil, or_false] at hd
    rcases hd with rfl | rfl
    · exact (rp_s told_sh).mono (by decide) (by decide)
    · exact rp_eLL h1 h2
theorem eTd_tup (o : Option (List Str)) : ∃ l, eTd o = .tup l := by
  cases o
  · exact ⟨_, rfl⟩
  · exact ⟨_, rfl⟩
section
variable {P : Program} {w : World} {K : PySem.W.Frag} {mg : Str → Option Value} {base : Heap} {f : Addr} {fd : FuncData} {k : Nat}
/-- a def that wants a C0 of a kind, no hand -/
def FnC (B : C0 → Prop) (P : Program) (w : World) (K : PySem.W.Frag) (mg : Str → Option Value) (base : Heap) (k : Nat) (x : Str) (args : List D) (res : D) : Prop :=
  ∃ (f : Addr) (fd : FuncData) (ps : List Str), ps.length = args.length ∧ FnG P w K mg base k f fd ps (SpC B ps.length (fun rs => rs = args.map Sl.im) fun _ r => r = .im res) ∧ mg x = some (.ref f) ∧ PySem.W.keepIn K (.ref f) = true ∧ Binds K fd ps []
abbrev sApd : Stmt := topS 45
theorem scApd : FnScope ["lines", "steps", "due", "right"] ["lines", "steps"] (defScope sApd) := ⟨rfl, rfl, rfl, by decide +kernel, rfl, by decide +kernel, by decide +kernel⟩
/-- _law_is_applied's promise at any row and patch -/
def ApdOk (B : C0 → Prop) (P : Program) (w : World) (K : PySem.W.Frag) (mg : Str → Option Value) (base : Heap) (k : Nat) : Prop :=
  ∃ (f : Addr) (fd : FuncData) (ps : List Str), ps.length = 2 ∧ FnG P w K mg base k f fd ps (SpC B ps.length (fun rs => ∃ (one : List Str) (gs : Gs), Lns one ∧ PatOk gs ∧ gs.length ≤ 900 ∧ rs = [.im (eL one), .im (eP gs)]) fun _ r => r = .im (.bl true)) ∧ mg "_law_is_applied" = some (.ref f) ∧ PySem.W.keepIn K (.ref f) = true ∧ Binds K fd ps []
theorem ok_apd (m : M mg) {L N cd Pt : Addr} (t : TldM K mg L N)
    (Gl : ∀ (one : List Str) (gs : Gs), Lns one → PatOk gs → gs.length ≤ 900 → Fn P w K mg base k "_law_led" [eL one, eP gs] (.im (eO (ledS one gs)))) (Ga : ∀ (one : List Str) (gs : Gs) due, Lns one → PatOk gs → gs.length ≤ 900 → ledS one gs = some due → Fn P w K mg base k "applied" [eL one, eP gs] (.im (eL due))) (Ge : ∀ (one : List Str) (gs : Gs), Lns one → PatOk gs → gs.length ≤ 900 → ledS one gs = none → FnE P w K mg base k "applied" [eL one, eP gs] (.ref N))
    (dT : Df K mg "_law_told" sTld ["call"]) (Fc : FunC K "_law_is_applied" sApd f fd cd) (hm : mg "_law_is_applied" = some (.ref f)) (hbd : Binds K fd ["lines", "steps"] []) (TB : LamX.TabB base mg cd Pt) :
    ApdOk (fun c => TabC c Pt "_law_is_applied.<locals>.<lambda>") P w K mg base (k + 3) := by
  obtain ⟨g, gd, Fg, hmg, hbg⟩ := dT.ex
  refine ⟨f, fd, ["lines", "steps"], rfl, fn_GC Fc scApd fun A outer s H E c rs hgd0 hr hT hlr hpre => ?_, hm, Fc.kp, hbd⟩
  obtain ⟨one, gs, h1, hp, hl, rfl⟩ := hpre
  replace Gl := Gl one gs h1 hp hl
  replace Ga := fun due => Ga one gs due h1 hp hl
  replace Ge := Ge one gs h1 hp hl
  have hgd : (A.deeper (PyProof.Rows.envOfC "_law_is_applied" (defScope sApd) s.heap.objs.size f (.ref cd))).guards = some [] := guards_deeper hgd0
  have nd := scApd.nd
  have hu64 := hr.units
  have hrk := hr.mono (show k ≤ k + 2 by omega)
  have n1 : 8800010 ≤ sizeLine := by decide
  have rR : Rp 8800010 2 (eTd (ledS one gs)) := rp_eTd fun l e => by
    obtain ⟨h2, h3⟩ := ledS_ok h1 hp e
    exact ⟨h3, by omega⟩
  show WPs _ _ _ [.im (eL one), .im (eP gs), .any, .any] _
  refine wps_cons <| wst_set 2 nd <| wp_fn Gl hrk <| wpa_cons <| wp_name 0 rfl rfl <| wpa_cons <| wp_name 1 rfl rfl <| wpa_nil ⟨rfl, rfl, ?_⟩
  have st3 : ∀ o, ledS one gs = o → WPs (cxOf L2.CX0 P w K mg base ["lines", "steps", "due", "right"] "_law_is_applied" (defScope sApd) f (.ref cd) A outer s H E).nox c ((defBody sApd).drop 2) [.im (eL one), .im (eP gs), .im (eO o), .im (eTd o)] { nx := fun _ => Sl.im .non = .im (.bl true), rt := fun r => r = .im (.bl true) } := fun o ho => by
    rw [ho] at rR
    refine wps_cons <| wst_ret <| wp_cmp <| wp_repr (dp := 2) m.repr hgd hu64 n1 (by decide) <| wp_told (Ng := ["call", "e"]) (a := "call") (w1 := "told") (w2 := "not fitting") (C := N) (k := k) (P := Pt) hT Fg scTld rfl hmg hbg (fun cdv => told_ok t) TB rfl hr (.inl rfl) (LamX.lamS_by (by rfl)) ?_
    cases o with
    | some due =>
      refine .inl fun E' A' outer' s' F0 HH H0 f' c' hr' => ?_
      refine wp_fn (Ga due ho) hr' <| wpa_cons <| wp_name 0 rfl rfl <| wpa_cons <| wp_name 1 rfl rfl <| wpa_nil ⟨rfl, eL due, rfl, _, rfl, .inl ⟨_, rfl⟩, rR, ?_⟩
      refine wp_repr (dp := 2) m.repr hgd hu64 n1 (by decide) <| wp_name 3 rfl rfl ⟨_, rfl, .inl ⟨_, rfl⟩, rR, od_eqS (congrArg (fun b => Sl.im (.bl b)) (decide_eq_true rfl))⟩
    | none =>
      refine .inr ⟨?_, fun E' A' outer' s' F0 HH H0 f' c' hr' R => ?_⟩
      · refine ⟨_, rfl, .inl ⟨_, rfl⟩, rR, ?_⟩
        refine wp_repr (dp := 2) m.repr hgd hu64 n1 (by decide) <| wp_name 3 rfl rfl ⟨_, rfl, .inl ⟨_, rfl⟩, rR, od_eqS (congrArg (fun b => Sl.im (.bl b)) (decide_eq_true rfl))⟩
      · exact wp_fnE (Ge ho) R hr' <| wpa_cons <| wp_name 0 rfl rfl <| wpa_cons <| wp_name 1 rfl rfl <| wpa_nil rfl
  cases ho : ledS one gs with
  | none =>
    refine wps_cons <| wst_set 3 nd <| wp_ifExp <| wpt_cmp <| wp_name 2 rfl rfl <| wp_non <| od_isN ⟨_, rfl, fun _ => ?_, fun z => absurd z (by decide)⟩
    exact wp_tup <| wpa_cons <| wp_str <| wpa_nil ⟨[.str "not fitting"], rfl, Le rfl, rfl, st3 none ho⟩
  | some due =>
    refine wps_cons <| wst_set 3 nd <| wp_ifExp <| wpt_cmp <| wp_name 2 rfl rfl <| wp_non <| od_isN ⟨_, rfl, fun z => Bool.noConfusion (show false = true from z), fun _ => ?_⟩
    exact wp_tup <| wpa_cons <| wp_str <| wpa_cons <| wp_name 2 rfl rfl <| wpa_nil ⟨[.str "told", eL due], rfl, Le rfl, rfl, st3 (some due) ho⟩
end
end K84

set_option Elab.async false
set_option linter.all false
set_option pp.maxSteps 300
set_option maxRecDepth 100000
set_option maxHeartbeats 1000000
/-! M12: k82: calls and promises where the hand lies beside tables -/
namespace K84
open PySem PySem.Spec PyProof.Rows L2 DL
/-- _law_near(hand, ..) and the like, the hand beside tables -/
theorem wp_fnHT {X : Cx} {c : C0} {Γ : List Sl} {Kk : Sl → Prop} {pos p : Pos} {k : Nat} {x : Str} {e : Expr} {es : List Expr} {args : List D} {post : Sl → Prop} (hcd : HandC c) (G : FnH X.prog X.w X.K X.mg X.base k x args post) (hr : Room k X.A) (h : WPa X c (e :: es) Γ fun rs => rs = .hand :: args.map Sl.im ∧ ∀ r, isv r = false → post r → Kk r) (hg : Gl X x := by rfl)
    (hn : starEach (e :: es) X.env = (false, eval e X.env) :: starEach es X.env := by rfl) (hdb : (x == ("__debug__" : Str)) = false := by decide) (hpl : (backTo pos (starEach es X.env)).any (·.1) = false := by rfl) : WPe X c (.Call (.Name x p) (e :: es) [] pos) Γ Kk := by
  obtain ⟨f, fd, ps, hps, G, hm, hk, hb⟩ := G
  exact wp_callYT hcd G hr hm hk hb (fun F H stk S σ hl E Q q => h F H stk S σ hl E Q fun vs rs F' H' k => q vs rs F' H' ⟨args, k.1, hps.symm, k.1, fun r hp => ⟨hp.1, k.2 r hp.1 hp.2⟩⟩) hg hn hdb hpl
/-- a call of a def that wants a C0 of a kind -/
theorem wp_fnC {B : C0 → Prop} {X : Cx} {c : C0} {Γ : List Sl} {Kk : Sl → Prop} {pos p : Pos} {k : Nat} {x : Str} {e : Expr} {es : List Expr} {args : List D} {res : D} (hB : ∀ F H, B (c.at F H)) (G : FnC B X.prog X.w X.K X.mg X.base k x args res) (hgd : X.A.guards = some []) (hr : Room k X.A) (h : WPa X c (e :: es) Γ fun rs => rs = args.map Sl.im ∧ Kk (.im res)) (hg : Gl X x := by rfl)
    (hn : starEach (e :: es) X.env = (false, eval e X.env) :: starEach es X.env := by rfl) (hdb : (x == ("__debug__" : Str)) = false := by decide) (hpl : (backTo pos (starEach es X.env)).any (·.1) = false := by rfl) : WPe X c (.Call (.Name x p) (e :: es) [] pos) Γ Kk := by
  obtain ⟨f, fd, ps, hps, G, hm, hk, hb⟩ := G
  refine wp_callC hB G hgd hr hm hk hb (fun F H stk S σ hl E Q q => h F H stk S σ hl E Q fun vs rs F' H' k => q vs rs F' H' ⟨args, k.1, hps.symm, k.1, fun r hp => ?_⟩) hg hn hdb hpl
  rw [hp]
  exact ⟨rfl, k.2⟩
/-- a call of _law_is_applied -/
theorem wp_apd {B : C0 → Prop} {X : Cx} {c : C0} {Γ : List Sl} {Kk : Sl → Prop} {pos p : Pos} {k : Nat} {e : Expr} {es : List Expr} (hB : ∀ F H, B (c.at F H)) (G : ApdOk B X.prog X.w X.K X.mg X.base k) (hgd : X.A.guards = some []) (hr : Room k X.A) (h : WPa X c (e :: es) Γ fun rs => ∃ (one : List Str) (gs : Gs), Lns one ∧ PatOk gs ∧ gs.length ≤ 900 ∧ rs = [.im (eL one), .im (eP gs)] ∧ Kk (.im (.bl true))) (hg : Gl X "_law_is_applied" := by rfl)
    (hn : starEach (e :: es) X.env = (false, eval e X.env) :: starEach es X.env := by rfl) (hpl : (backTo pos (starEach es X.env)).any (·.1) = false := by rfl) : WPe X c (.Call (.Name "_law_is_applied" p) (e :: es) [] pos) Γ Kk := by
  obtain ⟨f, fd, ps, hps, G, hm, hk, hb⟩ := G
  refine wp_callC hB G hgd hr hm hk hb (fun F H stk S σ hl E Q q => h F H stk S σ hl E Q fun vs rs F' H' k => ?_) hg hn (by decide) hpl
  obtain ⟨one, gs, q1, q2, q3, rfl, k⟩ := k
  exact q vs _ F' H' ⟨[eL one, eP gs], rfl, hps.symm, ⟨one, gs, q1, q2, q3, rfl⟩, fun r hp => by
    rw [hp]
    exact ⟨rfl, k⟩⟩
section
variable {P : Program} {w : World} {K : PySem.W.Frag} {mg : Str → Option Value} {base : Heap} {k : Nat} {f cd : Addr} {fd : FuncData} {ps : List Str} {B : C0 → Prop} {pre : List Sl → Prop} {post : List Sl → Sl → Prop}
/-- a def that wants a C0 of a kind, its code object not asked for -/
theorem fn_GCf {x : Str} {st : Stmt} {N : List Str} (F : Fun K x x st f fd) (S : FnScope N ps (defScope st))
    (hb : ∀ (cdv : Value) (A : Around) (outer : List Env) (s : Shared) (H : Hp) (E : XK) (c : C0) (rs : List Sl), A.guards = some [] → Room k (A.deeper (PyProof.Rows.envOfC x (defScope st) s.heap.objs.size f cdv)) → B c → rs.length = ps.length → pre rs →
      WPs (cxOf L2.CX0 P w K mg base N x (defScope st) f cdv A outer s H E).nox c (defBody st) (rs ++ List.replicate (N.length - ps.length) .any) { nx := fun _ => post rs (.im .non), rt := post rs }) : FnG P w K mg base (k + 1) f fd ps (SpC B ps.length pre post) :=
  fn_rawG F S (fun vs H Q E h => h.1) fun cdv A outer s H vs Q E hgd hr h => by
    obtain ⟨hl, c, F1, rs, hcd, hrl, hpre, nv, e1, e2, E1, q⟩ := h
    exact hb cdv A outer s H E c rs hgd hr hcd hrl hpre F1 H _ ⟨E1.rest, nv.rest⟩ _ ⟨fun Γ F H σ hn E' => q .non (.im .non) F H hn (E'.env.push (d := .non) rfl).only, fun r v F H hn E' => q v r F H hn E', fun Γ F H σ hn E' => hn.elim, fun Γ F H σ hn E' => hn.elim⟩
/-- a def with the hand and what more a C0 bears -/
def FnCH (B : C0 → Prop) (P : Program) (w : World) (K : PySem.W.Frag) (mg : Str → Option Value) (base : Heap) (k : Nat) (x : Str) (args : List D) (res : D) : Prop :=
  ∃ (f : Addr) (fd : FuncData) (ps : List Str), ps.length = args.length + 1 ∧ FnG P w K mg base k f fd ps (SpC B ps.length (fun rs => rs = .hand :: args.map Sl.im) fun _ r => r = .im res) ∧ mg x = some (.ref f) ∧ PySem.W.keepIn K (.ref f) = true ∧ Binds K fd ps []
theorem fnCH_mk {x : Str} {st : Stmt} {N : List Str} {args : List D} {res : D} (d : Df K mg x st ps) (S : FnScope N ps (defScope st)) (hn : args.length + 1 = ps.length)
    (hb : ∀ (f : Addr) (cdv : Value) (A : Around) (outer : List Env) (s : Shared) (H : Hp) (E : XK) (c : C0), (A.deeper (PyProof.Rows.envOfC x (defScope st) s.heap.objs.size f cdv)).guards = some [] → Room k (A.deeper (PyProof.Rows.envOfC x (defScope st) s.heap.objs.size f cdv)) → B c →
      WPs (cxOf L2.CX0 P w K mg base N x (defScope st) f cdv A outer s H E).nox c (defBody st) (.hand :: args.map Sl.im ++ List.replicate (N.length - ps.length) .any) { nx := fun _ => Sl.im .non = .im res, rt := fun r => r = .im res }) : FnCH B P w K mg base (k + 1) x args res := by
  obtain ⟨f, fd, F, hm, hbd⟩ := d.ex
  refine ⟨f, fd, ps, hn.symm, fn_GCf F S fun cdv A outer s H E c rs hgd hr hc hl hpre => ?_, hm, F.kp, hbd⟩
  subst hpre
  exact hb f cdv A outer s H E c (guards_deeper hgd) hr hc
end
/-- a call of a def with the hand and what more a C0 bears -/
theorem wp_fnCH {B : C0 → Prop} {X : Cx} {c : C0} {Γ : List Sl} {Kk : Sl → Prop} {pos p : Pos} {k : Nat} {x : Str} {e : Expr} {es : List Expr} {args : List D} {res : D} (hB : ∀ F H, B (c.at F H)) (G : FnCH B X.prog X.w X.K X.mg X.base k x args res) (hgd : X.A.guards = some []) (hr : Room k X.A) (h : WPa X c (e :: es) Γ fun rs => rs = .hand :: args.map Sl.im ∧ Kk (.im res)) (hg : Gl X x := by rfl)
    (hn : starEach (e :: es) X.env = (false, eval e X.env) :: starEach es X.env := by rfl) (hdb : (x == ("__debug__" : Str)) = false := by decide) (hpl : (backTo pos (starEach es X.env)).any (·.1) = false := by rfl) : WPe X c (.Call (.Name x p) (e :: es) [] pos) Γ Kk := by
  obtain ⟨f, fd, ps, hps, G, hm, hk, hb⟩ := G
  refine wp_callCH hB G hgd hr hm hk hb (fun F H stk S σ hl E Q q => h F H stk S σ hl E Q fun vs rs F' H' k => q vs rs F' H' ⟨args, k.1, hps.symm, k.1, fun r hp => ?_⟩) hg hn hdb hpl
  rw [hp]
  exact ⟨rfl, k.2⟩
end K84

set_option Elab.async false
set_option linter.all false
set_option pp.maxSteps 300
set_option maxRecDepth 100000
set_option maxHeartbeats 1000000
/-! M13: k82: patches compared and shown -/
namespace K84
open PySem PySem.Spec PyProof.Rows L2 DL
theorem shaped_rp {n dp : Nat} {d : D} (r : Rp n dp d) (h : dp ≤ 64) : SeqAt.shaped (py d) = true := by
  unfold SeqAt.shaped
  rw [r.can, Bool.true_and]
  exact decide_eq_true (Nat.le_trans r.dep h)
theorem eqvAll_self : ∀ {l : List D}, (∀ d ∈ l, PyData.eqv (py d) (py d) = true) → PyData.eqvAll (pys l) (pys l) = true
  | [], _ => by rw [pys, PyData.eqvAll]
  | d :: r, h => by
    rw [pys, PyData.eqvAll, h d (by simp), eqvAll_self fun e he => h e (List.mem_cons_of_mem _ he)]
    rfl
theorem eqv_tup_self {l : List D} (h : ∀ d ∈ l, PyData.eqv (py d) (py d) = true) : PyData.eqv (py (.tup l)) (py (.tup l)) = true := by
  rw [py, PyData.eqv]
  exact eqvAll_self h
theorem eqv_str_self (s : Str) : PyData.eqv (py (.str s)) (py (.str s)) = true := by
  rw [py, PyData.eqv]
  exact decide_eq_true rfl
theorem eqv_int_self (i : Int) : PyData.eqv (py (.int i)) (py (.int i)) = true := by
  rw [py, PyData.eqv]
  exact decide_eq_true rfl
theorem eqv_eL_self (l : List Str) : PyData.eqv (py (eL l)) (py (eL l)) = true := eqv_tup_self fun d hd => by
  obtain ⟨s, _, rfl⟩ := List.mem_map.mp hd
  exact eqv_str_self s
theorem eqv_eT_self (g : Str × List Str) : PyData.eqv (py (eT g)) (py (eT g)) = true := by
  unfold eT
  split
  · refine eqv_tup_self fun d hd => ?_
    simp only [List.mem_cons, List.not_mem_nil, or_false] at hd
    rcases hd with rfl | rfl
    · exact eqv_str_self _
    · exact eqv_int_self _
  · refine eqv_tup_self fun d hd => ?_
    simp only [List.mem_cons, List.not_mem_nil, or_false] at hd
    rcases hd with rfl | rfl
    · exact eqv_str_self _
    · exact eqv_eL_self _
theorem eqv_eP_self (gs : Gs) : PyData.eqv (py (eP gs)) (py (eP gs)) = true := eqv_tup_self fun d hd => by
  obtain ⟨g, _, rfl⟩ := List.mem_map.mp hd
  exact eqv_eT_self g
theorem eqv_eP_nil (gs : Gs) : PyData.eqv (py (eP gs)) (py (.tup [])) = decide (gs = []) := by
  cases gs with
  | nil => exact eqv_eP_self []
  | cons g r =>
    show PyData.eqv (py (.tup (eT g :: r.map eT))) (py (.tup [])) = _
    rw [py, py, PyData.eqv, pys, pys, PyData.eqvAll]
    rfl
theorem word_sh : ∀ w : Str, w ∈ (["keep", "drop", "put"] : List Str) → PyData.canLay0 (.str w) = true ∧ (reprText w).length ≤ 20 := by decide +kernel
theorem nat_len : ∀ n : Nat, n < 401 → ((toString (n : Int) : String) : Str).length ≤ 20 := by decide +kernel
theorem rp_nat {n : Nat} (h : n ≤ 400) : Rp 20 0 (.int (n : Int)) where
  can := by rw [py, PyData.canLay0]
  dep := by rw [py, PyData.depth]; exact Nat.le_refl 0
  sho := by
    rw [py, PyData.showable]
    refine decide_eq_true ?_
    by_cases h0 : n = 0
    · subst h0
      decide
    · exact (Nat.log2_lt (by omega)).mpr (Nat.lt_of_lt_of_le (show (n : Int).natAbs < 2 ^ 9 by omega) (Nat.pow_le_pow_right (by decide) (by decide)))
  len := by
    rw [py, PyData.shown]
    exact nat_len n (by omega)
theorem rp_eT {g : Str × List Str} (hw : g.1 ∈ (["keep", "drop", "put"] : List Str)) (hl : g.2.length ≤ 400) (hs : ∀ s ∈ g.2, s ∈ okW) : Rp 17610 2 (eT g) := by
  have e1 : Rp 8802 1 (.str g.1) := (rp_s (word_sh g.1 hw)).mono (by decide) (by decide)
  unfold eT
  split
  · refine (rp_tup (n := 8802) (dp := 1) (ds := [.str g.1, .int g.2.length]) fun d hd => ?_).mono (by simp) (Nat.le_refl _)
    simp only [List.mem_cons, List.not_mem_nil, or_false] at hd
    rcases hd with rfl | rfl
    · exact e1
    · exact (rp_nat hl).mono (by decide) (by decide)
  · refine (rp_tup (n := 8802) (dp := 1) (ds := [.str g.1, eL g.2]) fun d hd => ?_).mono (by simp) (Nat.le_refl _)
    simp only [List.mem_cons, List.not_mem_nil, or_false] at hd
    rcases hd with rfl | rfl
    · exact e1
    · refine (rp_tup (n := 20) (dp := 0) (ds := g.2.map D.str) fun d hd => ?_).mono (by rw [List.length_map]; omega) (Nat.le_refl _)
      obtain ⟨s, hm, rfl⟩ := List.mem_map.mp hd
      exact rp_str (List.mem_cons_of_mem _ (List.mem_cons_of_mem _ (hs s hm)))
theorem rp_ePs {gs : Gs} (hw : wOk gs) (hl : gs.length ≤ 400) (hg : ∀ g ∈ gs, g.2.length ≤ 400 ∧ ∀ s ∈ g.2, s ∈ okW) : Rp 7044802 3 (eP gs) := by
  refine (rp_tup (n := 17610) (dp := 2) (ds := gs.map eT) fun d hd => ?_).mono (by rw [List.length_map]; omega) (Nat.le_refl _)
  obtain ⟨g, hm, rfl⟩ := List.mem_map.mp hd
  refine rp_eT ?_ (hg g hm).1 (hg g hm).2
  have := hw g hm
  simp only [List.mem_cons, List.not_mem_nil, or_false]
  exact this
end K84

set_option Elab.async false
set_option linter.all false
set_option pp.maxSteps 300
set_option maxRecDepth 100000
set_option maxHeartbeats 1000000
/-! M14: k82, the walk: _law_pair_right -/
namespace K84
open PySem PySem.Spec PyProof.Rows L2 DL
/-- a C0 of a kind that stays -/
structure Knd (B B' : C0 → Prop) : Prop where
  at_ : ∀ c F H, B c → B (c.at F H)
  up : ∀ c F, B c → B (c.up F)
  hand : ∀ c, B c → HandC c
  sub : ∀ c, B c → B' c
/-- a walk from one to the other -/
structure Gd (one other : List Str) (gs : Gs) : Prop where
  p : PatOk gs
  t : tot gs ≤ 150
  l : gs.length ≤ 200
  w : ∀ g ∈ gs, g.2.length ≤ 150 ∧ ∀ s ∈ g.2, s ∈ okW
  d : dd one other one.length other.length ≤ cst gs
  c : 0 ≤ cst gs ∧ cst gs ≤ 400
  r : Rp 7044802 3 (eP (tn gs))
  s : srcG gs = one
  e : dstG gs = other
/-- what is promised at a walk -/
structure SF (P : Program) (w : World) (K : PySem.W.Frag) (mg : Str → Option Value) (base : Heap) (k : Nat) (one other : List Str) (gs : Gs) : Prop where
  cof : Fn P w K mg base k "cost_of" [eP gs] (.im (.int (cst gs)))
  cst : Fn P w K mg base k "_law_cost" [eP gs] (.im (.int (cst gs)))
  tpd : Fn P w K mg base k "turned_patch" [eP gs] (.im (eP (tn gs)))
  tnd : Fn P w K mg base k "_law_turned" [eP gs] (.im (eP (tn gs)))
  apl : Fn P w K mg base k "applied" [eL other, eP (tn gs)] (.im (eL one))
  tpb : Fn P w K mg base k "turned_patch" [eP (tn gs)] (.im (eP gs))
  pfo : Fn P w K mg base k "is_patch_for" [eL one, eL other, eP gs] (.im (.bl true))
  bnt : FnH P w K mg base k "_law_bent" [eP gs] Bnt
section
variable {P : Program} {w : World} {K : PySem.W.Frag} {mg : Str → Option Value} {base : Heap} {f : Addr} {fd : FuncData} {k : Nat} {B B' : C0 → Prop}
abbrev sPrr : Stmt := topS 47
theorem scPrr : FnScope ["hand", "one", "other", "kept", "low", "told", "row", "walks", "steps", "back", "again", "thing", "due", "flag", "turn"] ["hand", "one", "other"] (defScope sPrr) := ⟨rfl, rfl, rfl, by decide +kernel, rfl, by decide +kernel, by decide +kernel⟩
theorem nee (s : Str) : (!decide (s = s)) = false := by rw [decide_eq_true rfl]; rfl
theorem sh_b (b : Bool) : SeqAt.shaped (py (.bl b)) = true := by cases b <;> decide +kernel
theorem ne_bb {a b : Bool} (h : a = b) : (!PyData.eqv (py (.bl a)) (py (.bl b))) = false := by
  subst h
  cases a <;> decide +kernel
theorem ok_prr (m : M mg) {one other : List Str} {gm : Gs} (Kn : Knd B B') (h1 : Lns one) (h2 : Lns other) (l1 : one.length ≤ 20) (l2 : other.length ≤ 20) (gG : Gd one other gm) (gE : gm = [] ↔ one = [] ∧ other = [])
    (Gfar : Fn P w K mg base k "_law_far" [eL one, eL other] (.im (.int (dd one other one.length other.length)))) (Gpat : Fn P w K mg base k "patch" [eL one, eL other] (.im (eP gm))) (Glea : Fn P w K mg base k "_law_is_least" [eL one, eL other, eP gm] (.im (.bl true)))
    (Gf1 : Fn P w K mg base k "far" [eL one, eL other] (.im (.int (dd one other one.length other.length)))) (Gf2 : Fn P w K mg base k "far" [eL other, eL one] (.im (.int (dd one other one.length other.length)))) (Gf3 : Fn P w K mg base k "far" [eL one, eL one] (.im (.int 0)))
    (Gwlk : FnH P w K mg base k "_law_walk" [eL one, eL other] fun r => ∃ gs, r = .im (eP gs) ∧ Gd one other gs) (Gnea : FnH P w K mg base k "_law_near" [eL one] (someN 20))
    (S : ∀ gs, Gd one other gs → SF P w K mg base k one other gs)
    (TP : ∀ d, WD d → Fn P w K mg base k "_law_is_patch" [d] (.im (.bl (patB d)))) (TF : ∀ d, WD d → patB d = false → Fn P w K mg base k "is_patch_for" [eL one, eL other, d] (.im (.bl false)))
    (TT : ∀ gs : Gs, PatOk gs → gs.length ≤ 900 → Fn P w K mg base k "is_patch_for" [eL one, eL other, eP gs] (.im (.bl (decide (ledS one gs = some other)))) ∧ Fn P w K mg base k "_law_led" [eL one, eP gs] (.im (eO (ledS one gs))))
    (GA : ApdOk B' P w K mg base k) (d : Df K mg "_law_pair_right" sPrr ["hand", "one", "other"]) : FnCH B P w K mg base (k + 1) "_law_pair_right" [eL one, eL other] (.bl true) := by
  refine fnCH_mk d scPrr rfl fun f cdv A outer s H E c hgd hr hB => ?_
  have nd := scPrr.nd
  have hu64 := hr.units
  have hn := dd_nn one other one.length other.length
  have hz := dd_zero h1 h2
  have hH := Kn.hand c hB
  have hrow : dd one other one.length other.length ≤ 400 := by
    omega
  have hlow : ∀ gs, Gd one other gs → dd one other one.length other.length ≤ cst gs := fun gs g => g.d
  generalize dd one other one.length other.length = low at hlow Gfar Gf1 Gf2 hn hz hrow
  have r2 : Rp 6600014 2 (.tup [eL one, eL other]) := by
    refine (rp_tup (n := 2200002) (dp := 1) (ds := [eL one, eL other]) fun d hd => ?_).mono (by simp) (Nat.le_refl _)
    simp only [List.mem_cons, List.not_mem_nil, or_false] at hd
    rcases hd with rfl | rfl
    · exact rp_eL h1.2 (by omega)
    · exact rp_eL h2.2 (by omega)
  have n1 : 6600014 ≤ sizeLine := by decide
  have n2 : 7044802 ≤ sizeLine := by decide
  have sL1 := shaped_strs (strsOk_of h1.2)
  have sL2 := shaped_strs (strsOk_of h2.2)
  have s0 : SeqAt.shaped (py (.tup [])) = true := by decide +kernel
  have rG : ∀ gs, Gd one other gs → Rp 7044802 3 (eP gs) := fun gs g => rp_ePs g.p.1 (by have := g.l; omega) fun x hx => ⟨by have := (g.w x hx).1; omega, (g.w x hx).2⟩
  show WPs _ _ _ [.hand, .im (eL one), .im (eL other), .any, .any, .any, .any, .any, .any, .any, .any, .any, .any, .any, .any] _
  refine wps_cons <| wst_par 3 4 rfl nd (by decide) <| wp_repr (dp := 2) m.repr hgd hu64 n1 (by decide) <| wp_tup <| wpa_cons <| wp_name 1 rfl rfl <| wpa_cons <| wp_name 2 rfl rfl <| wpa_nil ⟨[eL one, eL other], rfl, Le rfl, _, rfl, .inl ⟨_, rfl⟩, r2, wp_fn Gfar hr <| wpa_cons <| wp_name 1 rfl rfl <| wpa_cons <| wp_name 2 rfl rfl <| wpa_nil ⟨rfl, rfl, rfl, ?_⟩⟩
  refine wps_cons <| wst_set 5 nd <| wp_fn Gpat hr <| wpa_cons <| wp_name 1 rfl rfl <| wpa_cons <| wp_name 2 rfl rfl <| wpa_nil ⟨rfl, rfl, ?_⟩
  refine wps_cons <| wst_if <| wpt_or2 (x := false) (y := false) (wpt_not <| wpt_val <| wp_fn Glea hr <| wpa_cons <| wp_name 1 rfl rfl <| wpa_cons <| wp_name 2 rfl rfl <| wpa_cons <| wp_name 5 rfl rfl <| wpa_nil ⟨rfl, true, rfl, rfl⟩)
    (fun _ => wpt_cmp <| wp_repr (dp := 3) m.repr hgd hu64 n2 (by decide) <| wp_fn Gpat hr <| wpa_cons <| wp_name 1 rfl rfl <| wpa_cons <| wp_name 2 rfl rfl <| wpa_nil ⟨rfl, _, rfl, .inl ⟨_, rfl⟩, rG gm gG, wp_repr (dp := 3) m.repr hgd hu64 n2 (by decide) <| wp_name 5 rfl rfl ⟨_, rfl, .inl ⟨_, rfl⟩, rG gm gG, od_neS ⟨_, rfl, nee _⟩⟩⟩) ⟨fun z => absurd z (by decide), fun _ => wps_nil ?_⟩
  refine wps_cons <| wst_set 6 nd <| wp_lst <| wpa_cons <| wp_fn Gf1 hr <| wpa_cons <| wp_name 1 rfl rfl <| wpa_cons <| wp_name 2 rfl rfl <| wpa_nil ⟨rfl, wpa_cons <| wp_fn Gf2 hr <| wpa_cons <| wp_name 2 rfl rfl <| wpa_cons <| wp_name 1 rfl rfl <| wpa_nil ⟨rfl, wpa_cons <| wp_fn Gf3 hr <| wpa_cons <| wp_name 1 rfl rfl <| wpa_cons <| wp_name 1 rfl rfl <| wpa_nil ⟨rfl, wpa_nil ⟨[.int low, .int low, .int 0], rfl, Le rfl, rfl, ?_⟩⟩⟩⟩
  refine wps_freeze 6 rfl ?_
  have rR : Rp 6600014 2 (.lst [.int low, .int low, .int 0]) := by
    obtain ⟨n, rfl⟩ := Int.eq_ofNat_of_zero_le hn.1
    refine (rp_lst (n := 20) (dp := 0) (ds := [.int (n : Int), .int (n : Int), .int 0]) fun d hd => ?_).mono (by simp) (by decide)
    simp only [List.mem_cons, List.not_mem_nil, or_false] at hd
    rcases hd with rfl | rfl | rfl
    · exact rp_nat (by omega)
    · exact rp_nat (by omega)
    · exact rp_nat (n := 0) (by omega)
  refine wps_cons <| wst_if <| wpt_cmp <| wp_repr (dp := 2) m.repr hgd hu64 n1 (by decide) <| wp_name 6 rfl rfl ⟨_, rfl, .inr ⟨_, rfl⟩, rR, wp_repr (dp := 2) m.repr hgd hu64 n1 (by decide) <| wp_lst <| wpa_cons <| wp_name 4 rfl rfl <| wpa_cons <| wp_name 4 rfl rfl <| wpa_cons <| wp_int <| wpa_nil ⟨[.int low, .int low, .int 0], rfl, Le rfl, _, rfl, .inr ⟨_, rfl⟩, rR, od_neS ⟨_, rfl, fun z => absurd (z.symm.trans (nee _)) (by decide), fun _ => wps_nil ?_⟩⟩⟩
  have e1 : decide (low = 0) = PyData.eqv (py (eL one)) (py (eL other)) := by
    show _ = PyData.eqv (py (.tup (one.map D.str))) (py (.tup (other.map D.str)))
    rw [eqv_strs]
    exact decide_eq_decide.mpr hz
  refine wps_cons <| wst_if <| wpt_or2 (x := false) (y := false) (wpt_cmp <| wp_cmp <| wp_name 4 rfl rfl <| wp_int <| od_eqI <| wp_cmp <| wp_name 1 rfl rfl <| wp_name 2 rfl rfl <| od_eqD hu64 sL1 sL2 <| od_neD hu64 (sh_b _) (sh_b _) ⟨_, rfl, ne_bb e1⟩)
    (fun _ => wpt_cmp <| wp_cmp <| wp_name 5 rfl rfl <| wp_tup <| wpa_nil ⟨[], rfl, Le rfl, od_eqD hu64 (shaped_rp (rG gm gG) (by decide)) s0 <| wp_and <| wp_cmp <| wp_name 1 rfl rfl <| wp_tup <| wpa_nil ⟨[], rfl, Le rfl, od_eqD hu64 sL1 s0 ⟨_, rfl, fun z1 => ?_, fun z1 => ?_⟩⟩⟩) ⟨fun z => absurd z (by decide), fun _ => wps_nil ?_⟩
  · have z1 : PyData.eqv (py (eL one)) (py (.tup [])) = true := z1
    have q1 : one = [] := of_decide_eq_true ((eqv_strs0 one).symm.trans z1)
    refine wp_one <| wp_cmp <| wp_name 2 rfl rfl <| wp_tup <| wpa_nil ⟨[], rfl, Le rfl, od_eqD hu64 sL2 s0 <| od_neD hu64 (sh_b _) (sh_b _) ⟨_, rfl, ne_bb ?_⟩⟩
    rw [eqv_eP_nil]
    refine Eq.trans ?_ (eqv_strs0 other).symm
    exact decide_eq_decide.mpr ⟨fun e => (gE.mp e).2, fun e => gE.mpr ⟨q1, e⟩⟩
  · have z1 : PyData.eqv (py (eL one)) (py (.tup [])) = false := z1
    have q1 : one ≠ [] := of_decide_eq_false ((eqv_strs0 one).symm.trans z1)
    refine od_neD hu64 (sh_b _) (sh_b _) ⟨_, rfl, ne_bb ?_⟩
    rw [eqv_eP_nil]
    exact decide_eq_false fun e => q1 (gE.mp e).1
  refine wps_cons <| wst_setLc (own := [("turn", 14)]) 7 (fun i acc => ∃ gl : List Gs, gl.length = i ∧ (∀ gs ∈ gl, Gd one other gs) ∧ acc = gl.map eP) rfl nd (blk_of (N' := ["hand", "one", "other", "kept", "low", "told", "row", "walks", "steps", "back", "again", "thing", "due", "flag", "turn"]) (sc' := defScope sPrr) (by decide +kernel)) (by rfl) <|
    wpi_range1 m.range <| wpa_cons <| wp_int <| wpa_nil ⟨_, rfl, by decide, by decide, ⟨[], rfl, fun s hs => (List.not_mem_nil hs).elim, rfl⟩, fun F1 H1 i acc hi hJ Y hY => ?_, fun acc hJ => ?_⟩
  · obtain ⟨s', H', C, cl, fp, rfl⟩ := hY
    refine gtc_name 14 nd fun Y hY => ⟨fun _ Y hY => ?_, fun z => absurd z (by decide)⟩
    obtain ⟨s', H', C, cl, fp, rfl⟩ := hY
    refine wp_fnHT (by first | exact hH | exact hH.at _ _ | exact ⟨hH.ex⟩) Gwlk hr <| wpa_cons <| wp_name 0 rfl rfl <| wpa_cons <| wp_name 1 rfl rfl <| wpa_cons <| wp_name 2 rfl rfl <| wpa_nil ⟨rfl, fun r hv hp => ?_⟩
    obtain ⟨gs, rfl, hgs⟩ := hp
    obtain ⟨gl, hgl, hgw, rfl⟩ := hJ
    refine ⟨eP gs, rfl, ?_, gl ++ [gs], by simp [hgl], fun x hx => (List.mem_append.mp hx).elim (hgw x) fun z => by rw [List.mem_singleton.mp z]; exact hgs, ?_⟩
    · rw [List.length_map]
      exact Nat.lt_of_lt_of_le (show gl.length < 1000 by have : i < 2 := hi; omega) (by decide)
    · rw [List.map_append]
      rfl
  obtain ⟨gl, hgl, hgw, rfl⟩ := hJ
  have hgl : gl.length = 2 := hgl
  refine wps_freeze 7 rfl ?_
  generalize hk : (py (.tup [eL one, eL other])).shown = kp
  have sl3 : [eP gm].length + (gl.map eP).length ≤ sizeLine := by
    rw [List.length_map, hgl]
    exact (show 1 + 2 ≤ sizeLine by decide)
  have it : ∀ i, i < ([eP gm] ++ gl.map eP).length → ∃ gs, Gd one other gs ∧ ([eP gm] ++ gl.map eP).getD i .non = eP gs := fun i hi => by
    cases i with
    | zero => exact ⟨gm, gG, rfl⟩
    | succ i =>
      have h3 : i < gl.length := by simpa using hi
      refine ⟨gl[i], hgw _ (List.getElem_mem h3), ?_⟩
      show (gl.map eP).getD i .non = _
      exact map_getD eP gl h3
  refine wps_cons <| wst_for (fun i Γ => ∃ s8 s9 s10 s11 s12 s13 s14, Γ = [.hand, .im (eL one), .im (eL other), .im (.str kp), .im (.int low), .im (eP gm), .im (.lst [.int low, .int low, .int 0]), .im (.lst (gl.map eP)), s8, s9, s10, s11, s12, s13, s14]) <| wpi_list <| wp_binop <| wp_lst <| wpa_cons <| wp_name 5 rfl rfl <| wpa_nil ⟨[eP gm], rfl, Le rfl, wp_name 7 rfl rfl <| od_cat rfl rfl sl3 ⟨_, rfl, ⟨_, _, _, _, _, _, _, rfl⟩, fun F1 i Γ' hi hj => ?_, fun Γ' hj => ?_⟩⟩
  · obtain ⟨s8, s9, s10, s11, s12, s13, s14, rfl⟩ := hj
    obtain ⟨gs, hgs, e⟩ := it i hi
    show GtD _ _ _ (.im (([eP gm] ++ gl.map eP).getD i .non)) _ _
    rw [e]
    have F := S gs hgs
    have hB1 := Kn.up c F1 hB
    have hH1 := Kn.hand _ hB1
    have hB1' : ∀ F H, B' ((c.up F1).at F H) := fun F H => Kn.sub _ (Kn.at_ _ F H hB1)
    have shI : Sh (.int (cst gs)) := by
      show (cst gs).natAbs.log2 < 1920
      have := hgs.c
      by_cases h0 : (cst gs).natAbs = 0
      · rw [h0]
        decide
      · exact (Nat.log2_lt h0).mpr (Nat.lt_of_lt_of_le (show (cst gs).natAbs < 2 ^ 9 by omega) (Nat.pow_le_pow_right (by decide) (by decide)))
    refine gt_name 8 rfl nd ?_
    refine wps_cons <| wst_if <| wpt_or2 (x := false) (y := false) (wpt_cmp <| wp_callB m.repr PyProof.Rows.boot_repr <| wpa_cons <| wp_fn F.cof hr <| wpa_cons <| wp_name 8 rfl rfl <| wpa_nil ⟨rfl, wpa_nil <| cd_reprA hgd hu64 shI <| wp_callB m.repr PyProof.Rows.boot_repr <| wpa_cons <| wp_fn F.cst hr <| wpa_cons <| wp_name 8 rfl rfl <| wpa_nil ⟨rfl, wpa_nil <| cd_reprA hgd hu64 shI <| od_neS ⟨_, rfl, nee _⟩⟩⟩)
      (fun _ => wpt_cmp <| wp_fn F.cst hr <| wpa_cons <| wp_name 8 rfl rfl <| wpa_nil ⟨rfl, wp_name 4 rfl rfl <| od_lt ⟨_, rfl, decide_eq_false (by have := hlow gs hgs; omega)⟩⟩) ⟨fun z => absurd z (by decide), fun _ => wps_nil ?_⟩
    refine wps_cons <| wst_set 9 nd <| wp_fn F.tpd hr <| wpa_cons <| wp_name 8 rfl rfl <| wpa_nil ⟨rfl, rfl, ?_⟩
    have nL : (!PyData.eqv (py (eL one)) (py (eL one))) = false := by rw [eqv_eL_self]; rfl
    have nP : (!PyData.eqv (py (eP gs)) (py (eP gs))) = false := by rw [eqv_eP_self]; rfl
    have shP := shaped_rp (rG gs hgs) (by decide)
    refine wps_cons <| wst_if <| wpt_or2 (x := false) (y := false) (wpt_cmp <| wp_repr (dp := 3) m.repr hgd hu64 n2 (by decide) <| wp_name 9 rfl rfl ⟨_, rfl, .inl ⟨_, rfl⟩, hgs.r, wp_repr (dp := 3) m.repr hgd hu64 n2 (by decide) <| wp_fn F.tnd hr <| wpa_cons <| wp_name 8 rfl rfl <| wpa_nil ⟨rfl, _, rfl, .inl ⟨_, rfl⟩, hgs.r, od_neS ⟨_, rfl, nee _⟩⟩⟩)
      (fun _ => wpt_cmp <| wp_fn F.apl hr <| wpa_cons <| wp_name 2 rfl rfl <| wpa_cons <| wp_name 9 rfl rfl <| wpa_nil ⟨rfl, wp_name 1 rfl rfl <| od_neD hu64 sL1 sL1 ⟨_, rfl, nL⟩⟩) ⟨fun z => absurd z (by decide), fun _ => wps_nil ?_⟩
    refine wps_cons <| wst_if <| wpt_or2 (x := false) (y := false) (wpt_cmp <| wp_fn F.tpb hr <| wpa_cons <| wp_name 9 rfl rfl <| wpa_nil ⟨rfl, wp_name 8 rfl rfl <| od_neD hu64 shP shP ⟨_, rfl, nP⟩⟩)
      (fun _ => wpt_cmp <| wp_fn F.pfo hr <| wpa_cons <| wp_name 1 rfl rfl <| wpa_cons <| wp_name 2 rfl rfl <| wpa_cons <| wp_name 8 rfl rfl <| wpa_nil ⟨rfl, wp_bl <| od_notB ⟨_, rfl, by decide⟩⟩) ⟨fun z => absurd z (by decide), fun _ => wps_nil ?_⟩
    refine wps_cons <| wst_if <| wpt_or2 (x := false) (y := false) (wpt_not <| wpt_val <| wp_apd hB1' GA hgd hr <| wpa_cons <| wp_name 1 rfl rfl <| wpa_cons <| wp_name 8 rfl rfl <| wpa_nil ⟨one, gs, h1, hgs.p, by have := hgs.l; omega, rfl, true, rfl, rfl⟩)
      (fun _ => wpt_not <| wpt_val <| wp_apd hB1' GA hgd hr <| wpa_cons <| wp_fnHT hH1 Gnea hr <| wpa_cons <| wp_name 0 rfl rfl <| wpa_cons <| wp_name 1 rfl rfl <| wpa_nil ⟨rfl, fun r hv hp => ?_⟩) ⟨fun z => absurd z (by decide), fun _ => wps_nil ?_⟩
    · obtain ⟨ls, q1, q2, rfl⟩ := hp
      exact wpa_cons <| wp_name 8 rfl rfl <| wpa_nil ⟨ls, gs, ⟨by omega, fun s hs => okN_W s (q2 s hs)⟩, hgs.p, by have := hgs.l; omega, rfl, true, rfl, rfl⟩
    refine wps_cons <| wst_for (fun _ Γ => ∃ t10 t11 t12 t13 t14, Γ = [.hand, .im (eL one), .im (eL other), .im (.str kp), .im (.int low), .im (eP gm), .im (.lst [.int low, .int low, .int 0]), .im (.lst (gl.map eP)), .im (eP gs), .im (eP (tn gs)), t10, t11, t12, t13, t14]) <| wpi_range1 m.range <| wpa_cons <| wp_int <| wpa_nil ⟨_, rfl, by decide, by decide, ⟨_, _, _, _, _, rfl⟩, fun F2 j Γ' hi2 hj => ?_, fun Γ' hj => ?_⟩
    · obtain ⟨t10, t11, t12, t13, t14, rfl⟩ := hj
      have hB2 := Kn.up _ F2 hB1
      have hH2 := Kn.hand _ hB2
      have hB2' : ∀ F H, B' (((c.up F1).up F2).at F H) := fun F H => Kn.sub _ (Kn.at_ _ F H hB2)
      show GtD _ _ _ (.im (.int _)) _ _
      refine gt_name 10 rfl nd ?_
      refine wps_cons <| wst_set 11 nd <| wp_fnHT hH2 F.bnt hr <| wpa_cons <| wp_name 0 rfl rfl <| wpa_cons <| wp_name 8 rfl rfl <| wpa_nil ⟨rfl, fun r hv hp => ?_⟩
      obtain ⟨d, rfl, hd⟩ := hp
      refine ⟨rfl, ?_⟩
      cases hb : patB d with
      | true =>
        have TPd := TP d hd
        rw [hb] at TPd
        obtain ⟨gs2, rfl, hp2, hl2⟩ := gs_of hb hd
        obtain ⟨G1, G2⟩ := TT gs2 hp2 hl2
        refine wps_cons <| wst_set 12 nd <| wp_and <| wp_fn TPd hr <| wpa_cons <| wp_name 11 rfl rfl <| wpa_nil ⟨rfl, true, rfl, fun _ => wp_one <| wp_cmp <| wp_fn G2 hr <| wpa_cons <| wp_name 1 rfl rfl <| wpa_cons <| wp_name 11 rfl rfl <| wpa_nil ⟨rfl, wp_name 2 rfl rfl <| od_eqD hu64 (sh_eO fun l e => (ledS_ok h1 hp2 e).2) sL2 ⟨rfl, ?_⟩⟩, fun z => absurd z (by decide)⟩
        refine wps_cons <| wst_set 13 nd <| wp_fn G1 hr <| wpa_cons <| wp_name 1 rfl rfl <| wpa_cons <| wp_name 2 rfl rfl <| wpa_cons <| wp_name 11 rfl rfl <| wpa_nil ⟨rfl, rfl, ?_⟩
        refine wps_cons <| wst_if <| wpt_or2 (x := false) (y := false) (wpt_not <| wpt_val <| wp_isi m.isi m.bool PyProof.Rows.boot_bool <| wp_name 13 rfl rfl ⟨"bool", true, rfl, by decide, by decide +kernel, true, rfl, rfl⟩)
          (fun _ => wpt_cmp <| wp_name 13 rfl rfl <| wp_name 12 rfl rfl <| od_neD hu64 (sh_b _) (sh_b _) ⟨_, rfl, ne_bb (eqv_eO _ _).symm⟩) ⟨fun z => absurd z (by decide), fun _ => wps_nil ?_⟩
        refine wps_cons <| wst_if <| wpt_and2 (x := true) (y := false) (wpt_val <| wp_fn TPd hr <| wpa_cons <| wp_name 11 rfl rfl <| wpa_nil ⟨rfl, true, rfl, rfl⟩)
          (fun _ => wpt_not <| wpt_val <| wp_apd hB2' GA hgd hr <| wpa_cons <| wp_name 1 rfl rfl <| wpa_cons <| wp_name 11 rfl rfl <| wpa_nil ⟨one, gs2, h1, hp2, hl2, rfl, true, rfl, rfl⟩) ⟨fun z => absurd z (by decide), fun _ => wps_nil <| wps_nil ⟨_, _, _, _, _, rfl⟩⟩
      | false =>
        have TPd := TP d hd
        have TFd := TF d hd hb
        rw [hb] at TPd
        refine wps_cons <| wst_set 12 nd <| wp_and <| wp_fn TPd hr <| wpa_cons <| wp_name 11 rfl rfl <| wpa_nil ⟨rfl, false, rfl, fun z => absurd z (by decide), fun _ => ⟨rfl, ?_⟩⟩
        refine wps_cons <| wst_set 13 nd <| wp_fn TFd hr <| wpa_cons <| wp_name 1 rfl rfl <| wpa_cons <| wp_name 2 rfl rfl <| wpa_cons <| wp_name 11 rfl rfl <| wpa_nil ⟨rfl, rfl, ?_⟩
        refine wps_cons <| wst_if <| wpt_or2 (x := false) (y := false) (wpt_not <| wpt_val <| wp_isi m.isi m.bool PyProof.Rows.boot_bool <| wp_name 13 rfl rfl ⟨"bool", true, rfl, by decide, by decide +kernel, true, rfl, rfl⟩)
          (fun _ => wpt_cmp <| wp_name 13 rfl rfl <| wp_name 12 rfl rfl <| od_neD hu64 (sh_b _) (sh_b _) ⟨_, rfl, ne_bb rfl⟩) ⟨fun z => absurd z (by decide), fun _ => wps_nil ?_⟩
        refine wps_cons <| wst_if <| wpt_and2 (x := false) (y := false) (wpt_val <| wp_fn TPd hr <| wpa_cons <| wp_name 11 rfl rfl <| wpa_nil ⟨rfl, false, rfl, rfl⟩)
          (fun z => absurd z (by decide)) ⟨fun z => absurd z (by decide), fun _ => wps_nil <| wps_nil ⟨_, _, _, _, _, rfl⟩⟩
    · obtain ⟨t10, t11, t12, t13, t14, rfl⟩ := hj
      exact wps_nil ⟨_, _, _, _, _, _, _, rfl⟩
  · obtain ⟨s8, s9, s10, s11, s12, s13, s14, rfl⟩ := hj
    refine wps_cons <| wst_ret <| wp_cmp <| wp_repr (dp := 2) m.repr hgd hu64 n1 (by decide) <| wp_tup <| wpa_cons <| wp_name 1 rfl rfl <| wpa_cons <| wp_name 2 rfl rfl <| wpa_nil ⟨[eL one, eL other], rfl, Le rfl, _, rfl, .inl ⟨_, rfl⟩, r2, wp_name 3 rfl rfl <| od_eqS ?_⟩
    rw [hk]
    exact congrArg (fun b => Sl.im (.bl b)) (decide_eq_true rfl)
end
end K84

set_option Elab.async false
set_option linter.all false
set_option pp.maxSteps 300
set_option maxRecDepth 100000
set_option maxHeartbeats 1000000
/-! M15: k82, the walk: _law_are_followed -/
namespace K84
open PySem PySem.Spec PyProof.Rows L2 DL
/-- a call with the hand, the promise at many arguments -/
theorem wp_clYT {X : Cx} {c : C0} {Γ : List Sl} {Kk : Sl → Prop} {pos p : Pos} {k n : Nat} {x : Str} {e : Expr} {es : List Expr} {pre : List Sl → Prop} {post : List Sl → Sl → Prop} (hcd : HandC c) (G : ClY X.prog X.w X.K X.mg X.base k x n pre post) (hr : Room k X.A) (h : WPa X c (e :: es) Γ fun rs => ∃ ds : List D, rs = Sl.hand :: ds.map Sl.im ∧ ds.length + 1 = n ∧ pre rs ∧ ∀ r, post rs r → isv r = false ∧ Kk r) (hg : Gl X x := by rfl)
    (hn : starEach (e :: es) X.env = (false, eval e X.env) :: starEach es X.env := by rfl) (hdb : (x == ("__debug__" : Str)) = false := by decide) (hpl : (backTo pos (starEach es X.env)).any (·.1) = false := by rfl) : WPe X c (.Call (.Name x p) (e :: es) [] pos) Γ Kk := by
  obtain ⟨f, fd, ps, hps, G, hm, hk, hb⟩ := G
  subst hps
  exact wp_callYT hcd G hr hm hk hb h hg hn hdb hpl
section
variable {P : Program} {w : World} {K : PySem.W.Frag} {mg : Str → Option Value} {base : Heap} {f : Addr} {fd : FuncData} {k : Nat} {B : C0 → Prop}
abbrev sFld : Stmt := topS 48
theorem scFld : FnScope ["hand", "one", "other", "third", "steps", "more", "late"] ["hand", "one", "other", "third"] (defScope sFld) := ⟨rfl, rfl, rfl, by decide +kernel, rfl, by decide +kernel, by decide +kernel⟩
/-- a row as the law draws it -/
def Rw14 (l : List Str) : Prop := l.length ≤ 14 ∧ ∀ s ∈ l, s ∈ okN
theorem Rw14.lns {l : List Str} (h : Rw14 l) : Lns l := ⟨by have := h.1; omega, fun s hs => okN_W s (h.2 s hs)⟩
/-- _law_are_followed's promise at any rows -/
def FldOk (B : C0 → Prop) (P : Program) (w : World) (K : PySem.W.Frag) (mg : Str → Option Value) (base : Heap) (k : Nat) : Prop :=
  ∃ (f : Addr) (fd : FuncData) (ps : List Str), ps.length = 4 ∧ FnG P w K mg base k f fd ps (SpC B ps.length (fun rs => ∃ a b t : List Str, Rw14 a ∧ Rw14 b ∧ Rw14 t ∧ rs = [.hand, .im (eL a), .im (eL b), .im (eL t)]) fun _ r => r = .im (.bl true)) ∧ mg "_law_are_followed" = some (.ref f) ∧ PySem.W.keepIn K (.ref f) = true ∧ Binds K fd ps []
/-- what _law_are_followed wants at three rows -/
structure FldH (P : Program) (w : World) (K : PySem.W.Frag) (mg : Str → Option Value) (base : Heap) (k : Nat) (N : Addr) (one other third : List Str) (gt : Gs) (z1 z2 z3 : Int) (A1 A2 A3 : Gs → Prop) : Prop where
  w1 : FnH P w K mg base k "_law_walk" [eL one, eL other] fun r => ∃ gs, r = .im (eP gs) ∧ A1 gs
  w2 : FnH P w K mg base k "_law_walk" [eL other, eL third] fun r => ∃ gs, r = .im (eP gs) ∧ A2 gs
  w3 : ClY P w K mg base k "_law_walk" 3 (fun rs => ∃ ls : List Str, ls.length ≤ 20 ∧ (∀ s ∈ ls, s ∈ okN) ∧ rs = [.hand, .im (eL ls), .im (eL third)]) fun rs r => isv r = false ∧ ∃ gs, r = .im (eP gs) ∧ A3 gs
  n : FnH P w K mg base k "_law_near" [eL other] (someN 20)
  f : ∀ g1 g2, A1 g1 → A2 g2 → Fn P w K mg base k "followed_by" [eL one, eP g1, eP g2] (.im (eP gt))
  l : Fn P w K mg base k "_law_is_least" [eL one, eL third, eP gt] (.im (.bl true))
  f1 : Fn P w K mg base k "far" [eL one, eL third] (.im (.int z1))
  f2 : Fn P w K mg base k "far" [eL one, eL other] (.im (.int z2))
  f3 : Fn P w K mg base k "far" [eL other, eL third] (.im (.int z3))
  z : z1 ≤ z2 + z3
  d : ∀ gs, A3 gs → Fn P w K mg base k "_law_led" [eL other, eP gs] (.im (eO (ledS other gs)))
  e : ∀ g1 gs, A1 g1 → A3 gs → ledS other gs = none → FnE P w K mg base k "followed_by" [eL one, eP g1, eP gs] (.ref N)
  s : ∀ g1 gs mid, A1 g1 → A3 gs → ledS other gs = some mid → ∃ r : D, Fn P w K mg base k "followed_by" [eL one, eP g1, eP gs] (.im r) ∧ Fn P w K mg base k "_law_is_least" [eL one, eL mid, r] (.im (.bl true))
theorem ok_fld (m : M mg) {L N cd Pt : Addr} (t : TldM K mg L N) (hBh : ∀ c, B c → HandC c) (hBt : ∀ c, B c → TabC c Pt "_law_are_followed.<locals>.<lambda>")
    (FH : ∀ one other third : List Str, Rw14 one → Rw14 other → Rw14 third → ∃ gt z1 z2 z3 A1 A2 A3, FldH P w K mg base k N one other third gt z1 z2 z3 A1 A2 A3)
    (dT : Df K mg "_law_told" sTld ["call"]) (Fc : FunC K "_law_are_followed" sFld f fd cd) (hm : mg "_law_are_followed" = some (.ref f)) (hbd : Binds K fd ["hand", "one", "other", "third"] []) (TB : LamX.TabB base mg cd Pt) :
    FldOk B P w K mg base (k + 3) := by
  obtain ⟨g, gd, Fg, hmg, hbg⟩ := dT.ex
  refine ⟨f, fd, ["hand", "one", "other", "third"], rfl, fn_GC Fc scFld fun A outer s H E c rs hgd0 hr hB hlr hpre => ?_, hm, Fc.kp, hbd⟩
  obtain ⟨one, other, third, r1, r2, r3, rfl⟩ := hpre
  obtain ⟨gt, z1, z2, z3, A1, A2, A3, Gw1, Gw2, Gw3, Gn, Gf, Gl, F1, F2, F3, hz, Gd, Ge, Gs⟩ := FH one other third r1 r2 r3
  have nd := scFld.nd
  have hu64 := hr.units
  have hrk := hr.mono (show k ≤ k + 2 by omega)
  have hH := hBh c hB
  have hT := hBt c hB
  have sN : SeqAt.shaped (py (.tup [.str "not fitting"])) = true := by decide +kernel
  have eN : PyData.eqv (py (.tup [.str "not fitting"])) (py (.tup [.str "not fitting"])) = true := by decide +kernel
  show WPs _ _ _ [.hand, .im (eL one), .im (eL other), .im (eL third), .any, .any, .any] _
  refine wps_cons <| wst_tup2 4 5 rfl nd (by decide) <| wp_fnHT hH Gw1 hrk <| wpa_cons <| wp_name 0 rfl rfl <| wpa_cons <| wp_name 1 rfl rfl <| wpa_cons <| wp_name 2 rfl rfl <| wpa_nil ⟨rfl, fun r hv hp => ?_⟩
  obtain ⟨g1, rfl, a1⟩ := hp
  refine wp_fnHT hH Gw2 hrk <| wpa_cons <| wp_name 0 rfl rfl <| wpa_cons <| wp_name 2 rfl rfl <| wpa_cons <| wp_name 3 rfl rfl <| wpa_nil ⟨rfl, fun r hv hp => ?_⟩
  obtain ⟨g2, rfl, a2⟩ := hp
  refine ⟨rfl, rfl, ?_⟩
  show WPs _ _ _ [.hand, .im (eL one), .im (eL other), .im (eL third), .im (eP g1), .im (eP g2), .any] _
  refine wps_cons <| wst_if <| wpt_not <| wpt_val <| wp_fn Gl hrk <| wpa_cons <| wp_name 1 rfl rfl <| wpa_cons <| wp_name 3 rfl rfl <| wpa_cons <| wp_fn (Gf g1 g2 a1 a2) hrk <| wpa_cons <| wp_name 1 rfl rfl <| wpa_cons <| wp_name 4 rfl rfl <| wpa_cons <| wp_name 5 rfl rfl <| wpa_nil ⟨rfl, wpa_nil ⟨rfl, true, rfl, fun z => absurd z (by decide), fun _ => wps_nil ?_⟩⟩
  refine wps_cons <| wst_if <| wpt_cmp <| wp_fn F1 hrk <| wpa_cons <| wp_name 1 rfl rfl <| wpa_cons <| wp_name 3 rfl rfl <| wpa_nil ⟨rfl, wp_binop <| wp_fn F2 hrk <| wpa_cons <| wp_name 1 rfl rfl <| wpa_cons <| wp_name 2 rfl rfl <| wpa_nil ⟨rfl, wp_fn F3 hrk <| wpa_cons <| wp_name 2 rfl rfl <| wpa_cons <| wp_name 3 rfl rfl <| wpa_nil ⟨rfl, od_add <| od_gt ⟨_, rfl, fun z => ?_, fun _ => wps_nil ?_⟩⟩⟩⟩
  · have := of_decide_eq_true z
    omega
  refine wps_cons <| wst_set 6 nd <| wp_clYT hH Gw3 hrk <| wpa_cons <| wp_name 0 rfl rfl <| wpa_cons <| wp_fnHT hH Gn hrk <| wpa_cons <| wp_name 0 rfl rfl <| wpa_cons <| wp_name 2 rfl rfl <| wpa_nil ⟨rfl, fun r hv hp => ?_⟩
  obtain ⟨ls, q1, q2, rfl⟩ := hp
  refine wpa_cons <| wp_name 3 rfl rfl <| wpa_nil ⟨[eL ls, eL third], rfl, rfl, ⟨ls, q1, q2, rfl⟩, fun r hp => ⟨hp.1, hp.1, ?_⟩⟩
  obtain ⟨_, g3, rfl, a3⟩ := hp
  cases ho : ledS other g3 with
  | none =>
    have Gd3 := Gd g3 a3
    rw [ho] at Gd3
    refine wps_cons <| wst_if <| wpt_cmp <| wp_fn Gd3 hrk <| wpa_cons <| wp_name 2 rfl rfl <| wpa_cons <| wp_name 6 rfl rfl <| wpa_nil ⟨rfl, wp_non <| od_isN ⟨_, rfl, fun _ => ?_, fun z => Bool.noConfusion (show true = false from z)⟩⟩
    refine wps_cons <| wst_ret <| wp_cmp <| wp_told (Ng := ["call", "e"]) (a := "call") (w1 := "told") (w2 := "not fitting") (C := N) (k := k) (P := Pt) hT Fg scTld rfl hmg hbg (fun cdv => told_ok t) TB rfl hr (.inl rfl) (LamX.lamS_by (by rfl)) ?_
    refine .inr ⟨?_, fun E' A' outer' s' F0 HH H0 f' c' hr' R => ?_⟩
    · refine wp_tup <| wpa_cons <| wp_str <| wpa_nil ⟨[.str "not fitting"], rfl, Le rfl, od_eqD hu64 sN sN ?_⟩
      exact congrArg (fun b => Sl.im (.bl b)) eN
    · exact wp_fnE (Ge g1 g3 a1 a3 ho) R hr' <| wpa_cons <| wp_name 1 rfl rfl <| wpa_cons <| wp_name 4 rfl rfl <| wpa_cons <| wp_name 6 rfl rfl <| wpa_nil rfl
  | some mid =>
    have Gd3 := Gd g3 a3
    rw [ho] at Gd3
    obtain ⟨r, Gr, Gm⟩ := Gs g1 g3 mid a1 a3 ho
    refine wps_cons <| wst_if <| wpt_cmp <| wp_fn Gd3 hrk <| wpa_cons <| wp_name 2 rfl rfl <| wpa_cons <| wp_name 6 rfl rfl <| wpa_nil ⟨rfl, wp_non <| od_isN ⟨_, rfl, fun z => Bool.noConfusion (show false = true from z), fun _ => wps_nil ?_⟩⟩
    exact wps_cons <| wst_ret <| wp_fn Gm hrk <| wpa_cons <| wp_name 1 rfl rfl <| wpa_cons <| wp_fn Gd3 hrk <| wpa_cons <| wp_name 2 rfl rfl <| wpa_cons <| wp_name 6 rfl rfl <| wpa_nil ⟨rfl, wpa_cons <| wp_fn Gr hrk <| wpa_cons <| wp_name 1 rfl rfl <| wpa_cons <| wp_name 4 rfl rfl <| wpa_cons <| wp_name 6 rfl rfl <| wpa_nil ⟨rfl, wpa_nil ⟨rfl, rfl⟩⟩⟩
end
end K84

set_option Elab.async false
set_option linter.all false
set_option pp.maxSteps 300
set_option maxRecDepth 100000
set_option maxHeartbeats 2000000
/-! M16: k82, _law_walk at any two rows -/
namespace K84
open PySem PySem.Spec PyProof.Rows L2 DL
section
variable {P : Program} {w : World} {K : PySem.W.Frag} {mg : Str → Option Value} {base : Heap} {f : Addr} {fd : FuncData} {k : Nat}
theorem clY_mk {x : Str} {st : Stmt} {N ps : List Str} {pre : List Sl → Prop} {post : List Sl → Sl → Prop} (d : Df K mg x st ps) (S : FnScope N ps (defScope st))
    (hb : ∀ (f : Addr) (cdv : Value) (A : Around) (outer : List Env) (s : Shared) (H : Hp) (E : XK) (c : C0) (rs : List Sl), Room k (A.deeper (PyProof.Rows.envOfC x (defScope st) s.heap.objs.size f cdv)) → Handy c → pre rs →
      WPs (cxOf L2.CX0 P w K mg base N x (defScope st) f cdv A outer s H E).nox c (defBody st) (rs ++ List.replicate (N.length - ps.length) .any) { nx := fun _ => post rs (.im .non), rt := post rs }) : ClY P w K mg base (k + 1) x ps.length pre post := by
  obtain ⟨f, fd, F, hm, hbd⟩ := d.ex
  exact ⟨f, fd, ps, rfl, fn_DH F S fun cdv A outer s H E c rs hr hc hl hpre => hb f cdv A outer s H E c rs hr hc hpre, hm, F.kp, hbd⟩
theorem ok_wlkA (m : M mg) (Gd : ∀ n : Nat, 0 < n → n ≤ 1000 → FnH P w K mg base k "_law_draw" [.int (n : Nat)] (digit n))
    (Gj : ∀ ws : List Ed, ws.length ≤ 400 → Fn P w K mg base k "_law_joined" [.lst (ws.map eS)] (.im (eP (jd ws)))) (d : Df K mg "_law_walk" sWlk ["hand", "one", "other"]) :
    ClY P w K mg base (k + 1) "_law_walk" 3 (fun rs => ∃ one other : List Str, Lns one ∧ Lns other ∧ one.length ≤ 90 ∧ other.length ≤ 90 ∧ rs = [.hand, .im (eL one), .im (eL other)]) fun rs r => isv r = false ∧ ∃ one other : List Str, rs = [.hand, .im (eL one), .im (eL other)] ∧ Wlk one other r := by
  refine clY_mk d scWlk fun f cdv A outer s H E c rs hr hcd hpre => ?_
  obtain ⟨one, other, h1, h2, l1, l2, rfl⟩ := hpre
  refine WPs.mono (D := { nx := fun _ => Wlk one other (.im .non), rt := fun r => isv r = false ∧ Wlk one other r }) ?_ (fun _ h => ⟨rfl, one, other, rfl, h⟩) (fun _ h => ⟨h.1, one, other, rfl, h.2⟩) (fun _ h => h) (fun _ h => h)
  have nd := scWlk.nd
  have hu64 := hr.units
  have szl : ∀ n : Nat, n ≤ 900 → n < sizeLine := fun n hn => Nat.lt_of_lt_of_le (show n < 1000 by omega) (by decide)
  show WPs _ _ _ [.hand, .im (eL one), .im (eL other), .any, .any, .any, .any] _
  refine wps_cons <| wst_par3 3 4 5 rfl nd (by decide) (by decide) (by decide) <| wp_int <| wp_int <| wp_lst <| wpa_nil <| ⟨[], rfl, Le rfl, rfl, rfl, rfl, ?_⟩
  refine wps_cons <| wst_while (fun mm Γ => ∃ (a b : Nat) (ws : List Ed) (s6 : Sl), Γ = [.hand, .im (eL one), .im (eL other), .im (.int (a : Nat)), .im (.int (b : Nat)), .own (.lst (ws.map eS)), s6] ∧ a ≤ one.length ∧ b ≤ other.length ∧ esrc ws = one.take a ∧ edst ws = other.take b ∧ ws.length ≤ a + b ∧ (∀ e ∈ ws, e.s ∈ one ∨ e.s ∈ other) ∧ mm = (one.length - a) + (other.length - b)) (one.length + other.length) ⟨0, 0, [], _, rfl, Nat.zero_le _, Nat.zero_le _, rfl, rfl, Nat.le_refl _, fun e he => (List.not_mem_nil he).elim, rfl⟩ fun mm Γ' hJ => ?_
  obtain ⟨a, b, ws, s6, rfl, ha, hb, hs, hd, hl, hm, rfl⟩ := hJ
  refine wpt_or2 (x := decide ((a : Int) < (one.length : Nat))) (y := decide ((b : Int) < (other.length : Nat))) (wpt_cmp <| wp_name 3 rfl rfl <| wp_callB m.len PySem.boot_len <| wpa_cons <| wp_name 1 rfl rfl <| wpa_nil <| cd_len rfl <| od_lt ⟨_, rfl, by rw [List.length_map]⟩) (fun _ => wpt_cmp <| wp_name 4 rfl rfl <| wp_callB m.len PySem.boot_len <| wpa_cons <| wp_name 2 rfl rfl <| wpa_nil <| cd_len rfl <| od_lt ⟨_, rfl, by rw [List.length_map]⟩) ⟨fun hx => ?_, fun hx => ?_⟩
  · have hx : a < one.length ∨ b < other.length := by
      simp only [Bool.or_eq_true, decide_eq_true_eq] at hx
      omega
    -- the next steps
    have mkeep : a < one.length → b < other.length → one.getD a "" = other.getD b "" → ∀ s6 : Sl, ∃ m', m' < (one.length - a) + (other.length - b) ∧ ∃ (a' b' : Nat) (ws' : List Ed) (s6' : Sl), ([.hand, .im (eL one), .im (eL other), .im (.int ((a + 1 : Nat) : Int)), .im (.int ((b + 1 : Nat) : Int)), .own (.lst ((ws ++ [Ed.keep (one.getD a "")]).map eS)), s6] : List Sl) = [.hand, .im (eL one), .im (eL other), .im (.int (a' : Nat)), .im (.int (b' : Nat)), .own (.lst (ws'.map eS)), s6'] ∧ a' ≤ one.length ∧ b' ≤ other.length ∧ esrc ws' = one.take a' ∧ edst ws' = other.take b' ∧ ws'.length ≤ a' + b' ∧ (∀ e ∈ ws', e.s ∈ one ∨ e.s ∈ other) ∧ m' = (one.length - a') + (other.length - b') := fun q1 q2 q3 s6 => by
      refine ⟨_, ?_, a + 1, b + 1, _, s6, rfl, q1, q2, ?_, ?_, ?_, fun e he => ?_, rfl⟩
      · omega
      · rw [esrc_app, esrc_one, hs, take_getD q1]
        rfl
      · rw [edst_app, edst_one, hd, take_getD q2, ← q3]
        rfl
      · rw [List.length_append, List.length_singleton]
        omega
      · rcases List.mem_append.mp he with z | z
        · exact hm e z
        · rw [List.mem_singleton.mp z]
          exact .inl (by show one.getD a "" ∈ one; rw [getD_eq q1]; exact List.getElem_mem _)
    have mdrop : a < one.length → ∀ s6 : Sl, ∃ m', m' < (one.length - a) + (other.length - b) ∧ ∃ (a' b' : Nat) (ws' : List Ed) (s6' : Sl), ([.hand, .im (eL one), .im (eL other), .im (.int ((a + 1 : Nat) : Int)), .im (.int (b : Nat)), .own (.lst ((ws ++ [Ed.drop (one.getD a "")]).map eS)), s6] : List Sl) = [.hand, .im (eL one), .im (eL other), .im (.int (a' : Nat)), .im (.int (b' : Nat)), .own (.lst (ws'.map eS)), s6'] ∧ a' ≤ one.length ∧ b' ≤ other.length ∧ esrc ws' = one.take a' ∧ edst ws' = other.take b' ∧ ws'.length ≤ a' + b' ∧ (∀ e ∈ ws', e.s ∈ one ∨ e.s ∈ other) ∧ m' = (one.length - a') + (other.length - b') := fun q1 s6 => by
      refine ⟨_, ?_, a + 1, b, _, s6, rfl, q1, hb, ?_, ?_, ?_, fun e he => ?_, rfl⟩
      · omega
      · rw [esrc_app, esrc_one, hs, take_getD q1]
        rfl
      · rw [edst_app, edst_one, hd]
        exact List.append_nil _
      · rw [List.length_append, List.length_singleton]
        omega
      · rcases List.mem_append.mp he with z | z
        · exact hm e z
        · rw [List.mem_singleton.mp z]
          exact .inl (by show one.getD a "" ∈ one; rw [getD_eq q1]; exact List.getElem_mem _)
    have mput : b < other.length → ∀ s6 : Sl, ∃ m', m' < (one.length - a) + (other.length - b) ∧ ∃ (a' b' : Nat) (ws' : List Ed) (s6' : Sl), ([.hand, .im (eL one), .im (eL other), .im (.int (a : Nat)), .im (.int ((b + 1 : Nat) : Int)), .own (.lst ((ws ++ [Ed.put (other.getD b "")]).map eS)), s6] : List Sl) = [.hand, .im (eL one), .im (eL other), .im (.int (a' : Nat)), .im (.int (b' : Nat)), .own (.lst (ws'.map eS)), s6'] ∧ a' ≤ one.length ∧ b' ≤ other.length ∧ esrc ws' = one.take a' ∧ edst ws' = other.take b' ∧ ws'.length ≤ a' + b' ∧ (∀ e ∈ ws', e.s ∈ one ∨ e.s ∈ other) ∧ m' = (one.length - a') + (other.length - b') := fun q1 s6 => by
      refine ⟨_, ?_, a, b + 1, _, s6, rfl, ha, q1, ?_, ?_, ?_, fun e he => ?_, rfl⟩
      · omega
      · rw [esrc_app, esrc_one, hs]
        exact List.append_nil _
      · rw [edst_app, edst_one, hd, take_getD q1]
        rfl
      · rw [List.length_append, List.length_singleton]
        omega
      · rcases List.mem_append.mp he with z | z
        · exact hm e z
        · rw [List.mem_singleton.mp z]
          exact .inr (by show other.getD b "" ∈ other; rw [getD_eq q1]; exact List.getElem_mem _)
    have hws : ∀ e : Ed, (ws.map eS) ++ [eS e] = (ws ++ [e]).map eS := fun e => by rw [List.map_append]; rfl
    have hsz : (ws.map eS).length < sizeLine := by
      rw [List.length_map]
      exact szl _ (by omega)
    have cast1 : ∀ n : Nat, (n : Int) + 1 = ((n + 1 : Nat) : Int) := fun n => by omega
    have cutA : cutD (one.map D.str) (some (a : Int)) (some ((a : Int) + 1)) = (lineAt one a).map D.str := by rw [cutD_map, cut_line]
    have cutB : cutD (other.map D.str) (some (b : Int)) (some ((b : Int) + 1)) = (lineAt other b).map D.str := by rw [cutD_map, cut_line]
    have memA : ∀ x ∈ lineAt one a, x ∈ okW := fun x hx => by
      by_cases q : a < one.length
      · rw [lineAt_lt q] at hx
        rw [List.mem_singleton.mp hx, getD_eq q]
        exact h1.2 _ (List.getElem_mem _)
      · rw [lineAt_ge (by omega)] at hx
        cases hx
    have memB : ∀ x ∈ lineAt other b, x ∈ okW := fun x hx => by
      by_cases q : b < other.length
      · rw [lineAt_lt q] at hx
        rw [List.mem_singleton.mp hx, getD_eq q]
        exact h2.2 _ (List.getElem_mem _)
      · rw [lineAt_ge (by omega)] at hx
        cases hx
    have hslA := shaped_strs (strsOk_of memA)
    have hslB := shaped_strs (strsOk_of memB)
    have hsl0 : SeqAt.shaped (py (.tup [])) = true := shaped_strs (l := []) (strsOk_of fun s hs => (List.not_mem_nil hs).elim)
    refine wps_seq (fun Γ => Γ = [.hand, .im (eL one), .im (eL other), .im (.int (a : Nat)), .im (.int (b : Nat)), .own (.lst (ws.map eS)), .im (.bl (decide (lineAt one a = lineAt other b) && !decide (lineAt other b = [])))]) ?_ ?_
    · refine wst_set 6 nd <| wp_cmp2 <| wp_sliceT <| wp_name 1 rfl rfl <| ⟨_, rfl, wpo_some <| wp_name 3 rfl rfl ⟨_, rfl, wpo_some <| wp_binop <| wp_name 3 rfl rfl <| wp_int <| od_add ⟨_, rfl, ?_⟩⟩⟩
      refine wp_sliceT <| wp_name 2 rfl rfl <| ⟨_, rfl, wpo_some <| wp_name 4 rfl rfl ⟨_, rfl, wpo_some <| wp_binop <| wp_name 4 rfl rfl <| wp_int <| od_add ⟨_, rfl, ?_⟩⟩⟩
      refine ⟨.tup ((lineAt one a).map D.str), .tup ((lineAt other b).map D.str), by rw [cutA]; rfl, by rw [cutB]; rfl, od_eqD hu64 hslA hslB ⟨_, rfl, fun hx => ?_, fun hx => ?_⟩⟩
      · rw [eqv_strs] at hx
        refine wp_tup <| wpa_nil ⟨[], rfl, Le rfl, od_neD hu64 hslB hsl0 ⟨rfl, ?_⟩⟩
        rw [hx, eqv_strs0]
        rfl
      · rw [eqv_strs] at hx
        rw [hx]
        exact ⟨rfl, rfl⟩
    rintro Γ rfl
    refine wps_cons <| wst_if <| WPt.mono (KB := fun x => x = true → a < one.length ∧ b < other.length ∧ one.getD a "" = other.getD b "") ?_ fun x hx => ⟨fun z => ?_, fun z => ?_⟩
    · refine wpt_w <| wpw_and <| wpt_val <| wp_name 6 rfl rfl ⟨_, rfl, fun hy => ?_, fun hy z => by cases z⟩
      refine wpw_and1 <| wpt_cmp <| wp_fnH (Gd 5 (by decide) (by decide)) hr <| wpa_cons <| wp_name 0 rfl rfl <| wpa_cons <| wp_int <| wpa_nil ⟨rfl, fun r hv hp => ?_⟩
      obtain ⟨j, _, rfl⟩ := hp
      refine wp_int <| od_gt ⟨_, rfl, fun _ => ?_⟩
      simp only [Bool.and_eq_true, decide_eq_true_eq, Bool.not_eq_true', decide_eq_false_iff_not] at hy
      obtain ⟨y1, y2⟩ := hy
      have q2 : b < other.length := by
        by_cases q : b < other.length
        · exact q
        · exact absurd (lineAt_ge (by omega)) y2
      rw [lineAt_lt q2] at y1
      have q1 : a < one.length := by
        by_cases q : a < one.length
        · exact q
        · rw [lineAt_ge (by omega)] at y1
          cases y1
      rw [lineAt_lt q1] at y1
      exact ⟨q1, q2, by simpa using y1⟩
    · obtain ⟨q1, q2, q3⟩ := hx z
      refine wps_cons <| wst_append 5 rfl hsz <| wp_tup <| wpa_cons <| wp_str <| wpa_cons <| wp_ix <| wp_name 1 rfl rfl <| wp_name 3 rfl rfl <| xd_seq rfl (atI_str rfl q1) <| wpa_nil ⟨[.str "keep", .str (one.getD a "")], rfl, Le rfl, _, rfl, ?_⟩
      refine wps_cons <| wst_par 3 4 rfl nd (by decide) <| wp_binop <| wp_name 3 rfl rfl <| wp_int <| od_add <| wp_binop <| wp_name 4 rfl rfl <| wp_int <| od_add ⟨rfl, rfl, ?_⟩
      show WPs _ _ _ [.hand, .im (eL one), .im (eL other), .im (.int ((a : Int) + 1)), .im (.int ((b : Int) + 1)), .own (.lst (ws.map eS ++ [eS (.keep (one.getD a ""))])), _] _
      rw [hws, cast1, cast1]
      exact wps_nil <| wps_nil <| mkeep q1 q2 q3 _
    · refine wps_cons <| wst_if <| WPt.mono (KB := fun x => (x = true → a < one.length) ∧ (x = false → b < other.length)) ?_ fun x hx => ⟨fun z => ?_, fun z => ?_⟩
      · refine wpt_w <| wpw_or <| wpt_cmp <| wp_name 4 rfl rfl <| wp_callB m.len PySem.boot_len <| wpa_cons <| wp_name 2 rfl rfl <| wpa_nil <| cd_len rfl <| od_eqI ⟨_, rfl, fun hy => ⟨fun _ => ?_, fun z => absurd z (by decide)⟩, fun hy => ?_⟩
        · have := of_decide_eq_true hy
          rw [List.length_map] at this
          omega
        have hy := of_decide_eq_false hy
        rw [List.length_map] at hy
        refine wpw_or1 <| wpt_w <| wpw_and <| wpt_cmp <| wp_name 3 rfl rfl <| wp_callB m.len PySem.boot_len <| wpa_cons <| wp_name 1 rfl rfl <| wpa_nil <| cd_len rfl <| od_lt ⟨_, rfl, fun hz => ?_, fun hz => ⟨fun z => absurd z (by decide), fun _ => by omega⟩⟩
        have hz := of_decide_eq_true hz
        rw [List.length_map] at hz
        refine wpw_and1 <| wpt_cmp <| wp_fnH (Gd 2 (by decide) (by decide)) hr <| wpa_cons <| wp_name 0 rfl rfl <| wpa_cons <| wp_int <| wpa_nil ⟨rfl, fun r hv hp => ?_⟩
        obtain ⟨j, _, rfl⟩ := hp
        exact wp_int <| od_eqI ⟨_, rfl, fun _ => by omega, fun _ => by omega⟩
      · have q1 := hx.1 z
        refine wps_cons <| wst_append 5 rfl hsz <| wp_tup <| wpa_cons <| wp_str <| wpa_cons <| wp_ix <| wp_name 1 rfl rfl <| wp_name 3 rfl rfl <| xd_seq rfl (atI_str rfl q1) <| wpa_nil ⟨[.str "drop", .str (one.getD a "")], rfl, Le rfl, _, rfl, ?_⟩
        refine wps_cons <| wst_set 3 nd <| wp_binop <| wp_name 3 rfl rfl <| wp_int <| od_add ⟨rfl, ?_⟩
        show WPs _ _ _ [.hand, .im (eL one), .im (eL other), .im (.int ((a : Int) + 1)), .im (.int (b : Nat)), .own (.lst (ws.map eS ++ [eS (.drop (one.getD a ""))])), _] _
        rw [hws, cast1]
        exact wps_nil <| wps_nil <| wps_nil <| mdrop q1 _
      · have q1 := hx.2 z
        refine wps_cons <| wst_append 5 rfl hsz <| wp_tup <| wpa_cons <| wp_str <| wpa_cons <| wp_ix <| wp_name 2 rfl rfl <| wp_name 4 rfl rfl <| xd_seq rfl (atI_str rfl q1) <| wpa_nil ⟨[.str "put", .str (other.getD b "")], rfl, Le rfl, _, rfl, ?_⟩
        refine wps_cons <| wst_set 4 nd <| wp_binop <| wp_name 4 rfl rfl <| wp_int <| od_add ⟨rfl, ?_⟩
        show WPs _ _ _ [.hand, .im (eL one), .im (eL other), .im (.int (a : Nat)), .im (.int ((b : Int) + 1)), .own (.lst (ws.map eS ++ [eS (.put (other.getD b ""))])), _] _
        rw [hws, cast1]
        exact wps_nil <| wps_nil <| wps_nil <| mput q1 _
  · have hx : a = one.length ∧ b = other.length := by
      simp only [Bool.or_eq_false_iff, decide_eq_false_iff_not] at hx
      omega
    obtain ⟨rfl, rfl⟩ := hx
    rw [List.take_length] at hs hd
    have J := jd_ok ws
    have wk : ∀ e ∈ ws, e.s ∈ okW := fun e he => (hm e he).elim (fun z => h1.2 _ z) fun z => h2.2 _ z
    refine wps_freeze 5 rfl ?_
    refine wps_cons <| wst_ret <| wp_fn (Gj ws (by omega)) hr <| wpa_cons <| wp_name 5 rfl rfl <| wpa_nil ⟨rfl, rfl, jd ws, rfl, jd_pat (by omega) wk, ?_, ?_, ?_, ?_, ?_, ?_⟩
    · rw [← hs, ← J.s, List.append_nil]
    · rw [← hd, ← J.d, List.append_nil]
    · have := J.t
      simp only [List.length_nil] at this
      omega
    · have := gs_len J
      simp only [List.length_nil] at this
      omega
    · intro g hg s hs'
      obtain ⟨e, he, rfl⟩ := J.m g hg s hs'
      exact wk e he
    · have := dd_le (one := one) (other := other) ws one.length other.length (Nat.le_refl _) (Nat.le_refl _) (by rw [hs, List.take_length]) (by rw [hd, List.take_length])
      have h3 := J.c
      simp only [List.length_nil] at h3
      omega
end
end K84

set_option Elab.async false
set_option linter.all false
set_option pp.maxSteps 300
set_option maxRecDepth 100000
set_option maxHeartbeats 2000000
/-! M17: k82, the walk: _law_hand, all that was there stays -/
namespace K84
open PySem PySem.Spec PyProof.Rows L2 DL
section
variable {P : Program} {w : World} {K : PySem.W.Frag} {mg : Str → Option Value} {base : Heap} {f : Addr} {fd : FuncData} {k : Nat}
def spHandT (K : PySem.W.Frag) : Sp := fun vs H Q _ => ∃ (a : Addr) (ns : List Int), vs = [.ref a] ∧ SqL K H a (ns.map V.int) ∧ ∀ (p q1 q2 : Addr) (H' : Hp), p ≠ q1 → p ≠ q2 → q1 ≠ q2 → HandAt p q1 q2 H' → (∀ b o, H b = some o → H' b = some o) → Q (.ref p) H'
theorem ok_hndT (m : M mg) (F : Fun K "_law_hand" "_law_hand" sHnd f fd) : FnOk P w K mg base L2.CX0 (k + 1) f fd ["script"] (spHandT K) := by
  refine fn_raw F scHnd (fun vs H Q E h => ?_) fun cdv A outer s H vs Q E hr h => ?_
  · obtain ⟨a, ns, rfl, _⟩ := h
    rfl
  obtain ⟨a, ns, rfl, hS, q⟩ := h
  have nd := scHnd.nd
  have E0 : EnvS (cScr (fun _ => none) H a) (fun _ => none) H [some (.ref a), none, none, none, none] [.hand, .any, .any, .any, .any] := by
    have e1 : EnvR (cScr (fun _ => none) H a) (fun _ => none) H [] [] := env_args (ds := []) (vs := []) (fun b o z => by cases z) rfl trivial (fun a z => by cases z) rfl rfl
    exact ⟨(e1.pushS (s := .hand) ⟨rfl, rfl⟩).rest (n := 4), fun s hs => by
      simp only [List.mem_cons, List.not_mem_nil, or_false] at hs
      rcases hs with rfl | rfl | rfl | rfl | rfl <;> rfl⟩
  have bl : ∀ n : Nat, n ≤ 64 → n < sizeLine := fun n hn => Nat.lt_of_lt_of_le (show n < 1000 by omega) (by decide)
  refine (?_ : WPsE _ (cScr (fun _ => none) H a) _ _ _) _ _ _ E0
  refine wpsE_cons <| wst_setLc (own := [("cell", 4)]) 1 (fun i acc => ∃ cs : List Int, cs.length ≤ i ∧ acc = cs.map D.int) rfl nd (blk_of (N' := ["script", "cells", "small", "great", "cell"]) (sc' := defScope sHnd) (by decide +kernel)) (by rfl) <|
    wpi_list <| wp_sliceScr (ns := ns) hS rfl <| wp_name 0 rfl rfl ⟨rfl, wpo_none <| wpo_some <| wp_int ⟨63, rfl, ?_⟩⟩
  refine ⟨_, rfl, ⟨[], Nat.le_refl _, rfl⟩, fun F1 H1 i acc hi hJ Y hY => ?_, fun acc hJ => ?_⟩
  · obtain ⟨s', H', C, cl, fp, rfl⟩ := hY
    obtain ⟨cs, hl, rfl⟩ := hJ
    rw [cutD_map, List.length_map] at hi
    have h63 := cut63 ns
    show GtC _ _ _ (.im ((cutD (ns.map D.int) none (some 63)).getD i .non)) _ _ _
    rw [cutD_map, getD_int' hi]
    refine gtc_name 4 nd fun Y hY => ⟨fun _ Y hY => ?_, fun z => absurd z (by decide)⟩
    obtain ⟨s', H', C, cl, fp, rfl⟩ := hY
    exact wp_callB m.abs PyProof.Rows.boot_abs <| wpa_cons <| wp_callTy m.int PyProof.Rows.boot_int <| wpa_cons <| wp_name 4 rfl rfl <| wpa_nil <| cd_int <| wpa_nil <| cd_abs ⟨_, rfl, bl _ (by rw [List.length_map]; omega), cs ++ [if (cutG ns none (some 63))[i] < 0 then -(cutG ns none (some 63))[i] else (cutG ns none (some 63))[i]], by rw [List.length_append]; exact Nat.add_le_add_right hl 1, snocI _ _⟩
  obtain ⟨cs, hl, rfl⟩ := hJ
  have hcl : cs.length ≤ 63 := by
    rw [cutD_map, List.length_map] at hl
    exact Nat.le_trans hl (cut63 ns)
  clear hl
  refine wpsE_freeze 1 rfl ?_
  refine wpsE_cons <| wst_setLc (own := [("cell", 4)]) 2 (fun i acc => ∃ ss : List Int, ss.length ≤ i ∧ acc = ss.map D.int) rfl nd (blk_of (N' := ["script", "cells", "small", "great", "cell"]) (sc' := defScope sHnd) (by decide +kernel)) (by rfl) <|
    wpi_list <| wp_name 1 rfl rfl ⟨_, rfl, ⟨[], Nat.le_refl _, rfl⟩, fun F1 H1 i acc hi hJ Y hY => ?_, fun acc hJ => ?_⟩
  · obtain ⟨s', H', C, cl, fp, rfl⟩ := hY
    obtain ⟨ss, hl, rfl⟩ := hJ
    rw [List.length_map] at hi
    show GtC _ _ _ (.im ((cs.map D.int).getD i .non)) _ _ _
    rw [getD_int' hi]
    refine gtc_name 4 nd fun Y hY => ?_
    obtain ⟨s', H', C, cl, fp, rfl⟩ := hY
    refine wpt_cmp <| wp_name 4 rfl rfl <| wp_binop <| wp_int <| wp_int <| od_pow ⟨by decide, by decide, by decide⟩ <| od_lt ⟨_, rfl, fun hx Y hY => ?_, fun hx => ⟨ss, Nat.le_succ_of_le hl, rfl⟩⟩
    obtain ⟨s', H', C, cl, fp, rfl⟩ := hY
    exact wp_binop <| wp_callTy m.int PyProof.Rows.boot_int <| wpa_cons <| wp_name 4 rfl rfl <| wpa_nil <| cd_int <| wp_int <| od_mod (by decide) ⟨_, rfl, bl _ (by rw [List.length_map]; omega), ss ++ [cs[i] % 1000000007], by rw [List.length_append]; exact Nat.add_le_add_right hl 1, snocI _ _⟩
  obtain ⟨ss, hl, rfl⟩ := hJ
  have hsl : ss.length ≤ 63 := by
    rw [List.length_map] at hl
    exact Nat.le_trans hl hcl
  clear hl
  show WPsE _ _ _ [.hand, .im (.lst (cs.map D.int)), .own (.lst (ss.map D.int)), .any, .any] _
  refine wpsE_cons <| wst_append 2 rfl (bl _ (by rw [List.length_map]; omega)) <| wp_binop <| wp_binop <| wp_int <| wp_callB m.len PySem.boot_len <| wpa_cons <| wp_name 1 rfl rfl <| wpa_nil <| cd_len rfl <| od_mul (.inl (by decide)) <| wp_int <| od_add ⟨_, rfl, ?_⟩
  have e2 : ∀ z : Int, ss.map D.int ++ [D.int z] = (ss ++ [z]).map D.int := fun z => snocI _ _
  show WPsE _ _ _ [.hand, .im (.lst (cs.map D.int)), .own (.lst (ss.map D.int ++ [D.int _])), .any, .any] _
  rw [e2]
  have hne : ∀ z : Int, ss ++ [z] ≠ [] ∧ (ss ++ [z]).length ≤ 64 := fun z => ⟨by simp, by rw [List.length_append]; exact Nat.add_le_add_right hsl 1⟩
  have hne := hne (37 * ((cs.map D.int).length : Nat) + 11)
  generalize ss ++ [37 * (((cs.map D.int).length : Nat) : Int) + 11] = tt at *
  refine wpsE_cons <| wst_setLc (own := [("cell", 4)]) 3 (fun i acc => ∃ ss : List Int, ss.length ≤ i ∧ acc = ss.map D.int) rfl nd (blk_of (N' := ["script", "cells", "small", "great", "cell"]) (sc' := defScope sHnd) (by decide +kernel)) (by rfl) <|
    wpi_list <| wp_name 1 rfl rfl ⟨_, rfl, ⟨[], Nat.le_refl _, rfl⟩, fun F1 H1 i acc hi hJ Y hY => ?_, fun acc hJ => ?_⟩
  · obtain ⟨s', H', C, cl, fp, rfl⟩ := hY
    obtain ⟨ss, hl, rfl⟩ := hJ
    rw [List.length_map] at hi
    show GtC _ _ _ (.im ((cs.map D.int).getD i .non)) _ _ _
    rw [getD_int' hi]
    refine gtc_name 4 nd fun Y hY => ?_
    obtain ⟨s', H', C, cl, fp, rfl⟩ := hY
    refine wpt_cmp <| wp_name 4 rfl rfl <| wp_binop <| wp_int <| wp_int <| od_pow ⟨by decide, by decide, by decide⟩ <| od_ge ⟨_, rfl, fun hx Y hY => ?_, fun hx => ⟨ss, Nat.le_succ_of_le hl, rfl⟩⟩
    obtain ⟨s', H', C, cl, fp, rfl⟩ := hY
    exact wp_name 4 rfl rfl ⟨_, rfl, bl _ (by rw [List.length_map]; omega), ss ++ [cs[i]], by rw [List.length_append]; exact Nat.add_le_add_right hl 1, snocI _ _⟩
  obtain ⟨gs, hl, rfl⟩ := hJ
  have hgl : gs.length ≤ 63 := by
    rw [List.length_map] at hl
    exact Nat.le_trans hl hcl
  clear hl
  show WPsE _ _ _ [.hand, .im (.lst (cs.map D.int)), .own (.lst (tt.map D.int)), .own (.lst (gs.map D.int)), .any] _
  intro F1 H1 σ Ev
  -- the parts' places
  obtain ⟨p2, e2, ⟨vs2, h2, d2⟩, f2, _, _⟩ := Ev.env.own (i := 2) rfl
  obtain ⟨p1, e1, ⟨vs1, h1, d1⟩, f1, _, _⟩ := Ev.env.own (i := 3) rfl
  have hne12 : p1 ≠ p2 := Ev.env.apart (i := 3) (j := 2) rfl rfl e1 e2 (by decide)
  obtain ⟨F2, Ea⟩ := Ev.env.freeze (i := 2) rfl
  obtain ⟨F3, Eb⟩ := Ea.freeze (i := 3) rfl
  have Eb : EnvR (cScr (fun _ => none) H a) F3 H1 σ [.hand, .im (.lst (cs.map D.int)), .im (.lst (tt.map D.int)), .im (.lst (gs.map D.int)), .any] := Eb
  refine wss_of (pss_cons (ps_ret (pe_disp (pps_cons pe_str (pe_var (i := 3) rfl (Or.inl rfl)) (pps_cons pe_str (pe_var (i := 2) rfl (Or.inl rfl)) (pps_cons pe_str pe_we (pps_cons pe_str pe_int pps_nil)))) rfl rfl (by simp) (by decide))) pss_nil) ?_
  intro p hp
  have hnp : ∀ {b : Addr} {o : HO}, H1 b = some o → b ≠ p := fun h e => by rw [e, hp] at h; cases h
  have hFp : F3 p = none := Eb.ex.back hp
  have Ec := Eb.reb (fun s hs => by
    simp only [List.mem_cons, List.not_mem_nil, or_false] at hs
    rcases hs with rfl | rfl | rfl | rfl | rfl <;> exact ⟨rfl, rfl⟩) (H1 := L2.upd H1 p (.dK [])) (Ex.mut Eb.ex hFp) trivial
  have hg1 : H1 p1 = some (.lst (gs.map V.int)) := by rw [h1, dats_ints d1]
  have hg2 : H1 p2 = some (.lst (tt.map V.int)) := by rw [h2, dats_ints d2]
  refine ⟨.ref p1, e1, .ref p2, e2, ?_⟩
  refine (?_ : WPe _ { cScr (fun _ => none) H a with F0 := F3, H0 := L2.upd H1 p (.dK []) } _ _ fun r => ∃ z : Int, r = .im (.int z)) F3 _ [] [] σ rfl Ec _ fun v r F4 H4 hz E4 => ?_
  · exact wp_binop <| wp_callTy m.int PyProof.Rows.boot_int <| wpa_cons <| wp_callB m.sum PyProof.Rows.boot_sum <| wpa_cons <| wp_name 2 rfl rfl <| wpa_nil <| cd_sum rfl rfl <| wpa_nil <| cd_int <| wp_int <| od_mod (by decide) ⟨_, rfl⟩
  obtain ⟨z, rfl⟩ := hz
  have hv : v = .int z := E4.imAt (i := 0) rfl rfl
  subst hv
  have k4 : ∀ {b : Addr} {o : HO}, L2.upd H1 p (.dK []) b = some o → H4 b = some o := fun h => E4.fr _ _ h List.not_mem_nil
  refine ⟨k4 upd_same, [(.inr "great", .ref p1), (.inr "small", .ref p2), (.inr "sum", .int z), (.inr "turn", .int 0)], rfl, Nat.le_of_ble_eq_true rfl, ?_⟩
  refine q p p1 p2 _ (hnp hg1).symm (hnp hg2).symm hne12 ⟨gs, tt, z, 0, ?_, ?_, ?_, hne.1, by omega, by omega⟩ fun b o hb => by
    have h9 := Ev.env.fr b o hb List.not_mem_nil
    rw [upd_ne (hnp h9)]
    refine k4 ?_
    rw [upd_ne (hnp h9)]
    exact h9
  · rw [upd_same]
    rfl
  · rw [upd_ne (hnp hg1)]
    exact k4 (by rw [upd_ne (hnp hg1)]; exact hg1)
  · rw [upd_ne (hnp hg2)]
    exact k4 (by rw [upd_ne (hnp hg2)]; exact hg2)

end
end K84

set_option Elab.async false
set_option linter.all false
set_option pp.maxSteps 300
set_option maxRecDepth 100000
set_option maxHeartbeats 1000000
/-! M18: k82, the walk: law behind its hand -/
namespace K84
open PySem PySem.Spec PyProof.Rows L2 DL
section
variable {P : Program} {w : World} {K : PySem.W.Frag} {mg : Str → Option Value} {base : Heap} {f : Addr} {fd : FuncData} {k : Nat} {B : C0 → Prop}
abbrev sLaw : Stmt := topS 49
theorem scLaw : FnScope ["script", "hand", "one", "other", "due", "turn"] ["script"] (defScope sLaw) := ⟨rfl, rfl, rfl, by decide +kernel, rfl, by decide +kernel, by decide +kernel⟩
def dueK : D := .tup [.tup [.str "drop", .tup [.str "a"]], .tup [.str "keep", .int 1], .tup [.str "put", .tup [.str "x"]], .tup [.str "keep", .int 1]]
theorem wp_fld {X : Cx} {c : C0} {Γ : List Sl} {Kk : Sl → Prop} {pos p : Pos} {k : Nat} {e : Expr} {es : List Expr} (hB : ∀ F H, B (c.at F H)) (G : FldOk B X.prog X.w X.K X.mg X.base k) (hgd : X.A.guards = some []) (hr : Room k X.A) (h : WPa X c (e :: es) Γ fun rs => ∃ a b t : List Str, Rw14 a ∧ Rw14 b ∧ Rw14 t ∧ rs = [.hand, .im (eL a), .im (eL b), .im (eL t)] ∧ Kk (.im (.bl true))) (hg : Gl X "_law_are_followed" := by rfl)
    (hn : starEach (e :: es) X.env = (false, eval e X.env) :: starEach es X.env := by rfl) (hpl : (backTo pos (starEach es X.env)).any (·.1) = false := by rfl) : WPe X c (.Call (.Name "_law_are_followed" p) (e :: es) [] pos) Γ Kk := by
  obtain ⟨f, fd, ps, hps, G, hm, hk, hb⟩ := G
  refine wp_callCH hB G hgd hr hm hk hb (fun F H stk S σ hl E Q q => h F H stk S σ hl E Q fun vs rs F' H' k => ?_) hg hn (by decide) hpl
  obtain ⟨a, b, t, q1, q2, q3, rfl, k⟩ := k
  exact q vs _ F' H' ⟨[eL a, eL b, eL t], rfl, hps.symm, ⟨a, b, t, q1, q2, q3, rfl⟩, fun r hp => by
    rw [hp]
    exact ⟨rfl, k⟩⟩
theorem law_body (m : M mg) (hBa : ∀ c F H, B c → B (c.at F H)) (hBu : ∀ c F, B c → B (c.up F)) (hBh : ∀ c, B c → HandC c)
    (Gp1 : Fn P w K mg base k "patch" [eL ["a", "b", "c"], eL ["b", "x", "c"]] (.im dueK)) (Gf : Fn P w K mg base k "far" [eL ["a", "b", "c"], eL ["b", "x", "c"]] (.im (.int 2))) (Gp2 : Fn P w K mg base k "patch" [eL [], eL []] (.im (.tup [])))
    (Gl : FnH P w K mg base k "_law_lines" [.int ((12 : Nat) : Int)] (someL 12)) (Gn : ∀ ls : List Str, ls.length ≤ 40 → (∀ s ∈ ls, s ∈ okN) → FnH P w K mg base k "_law_near" [eL ls] (someN (min 14 (ls.length + 5)))) (Gd : FnH P w K mg base k "_law_draw" [.int ((4 : Nat) : Int)] (digit 4))
    {cdv : Value} {A : Around} {outer : List Env} {s : Shared} {H : Hp} {E : XK} {c : C0} (hB : B c) (hgd : (A.deeper (PyProof.Rows.envOfC "law" (defScope sLaw) s.heap.objs.size f cdv)).guards = some []) (hr : Room k (A.deeper (PyProof.Rows.envOfC "law" (defScope sLaw) s.heap.objs.size f cdv)))
    (GF : FldOk B P w K mg base k) (Gr : ∀ a b : List Str, Rw14 a → Rw14 b → FnCH B P w K mg base k "_law_pair_right" [eL a, eL b] (.bl true)) :
    WPs (cxOf L2.CX0 P w K mg base ["script", "hand", "one", "other", "due", "turn"] "law" (defScope sLaw) f cdv A outer s H E).nox c ((defBody sLaw).drop 1) [.any, .hand, .any, .any, .any, .any] { nx := fun _ => False, rt := fun r => r = .im (.bl true) } := by
  have nd := scLaw.nd
  have hu64 := hr.units
  have sd : SeqAt.shaped (py dueK) = true := by decide +kernel
  have nd1 : (!PyData.eqv (py dueK) (py dueK)) = false := by decide +kernel
  have s0 : SeqAt.shaped (py (.tup [])) = true := by decide +kernel
  have n0 : (!PyData.eqv (py (.tup [])) (py (.tup []))) = false := by decide +kernel
  refine wps_cons <| wst_tup2 2 3 rfl nd (by decide) <| wp_tup <| wpa_cons <| wp_str <| wpa_cons <| wp_str <| wpa_cons <| wp_str <| wpa_nil ⟨(["a", "b", "c"] : List Str).map D.str, rfl, Le rfl, wp_tup <| wpa_cons <| wp_str <| wpa_cons <| wp_str <| wpa_cons <| wp_str <| wpa_nil ⟨(["b", "x", "c"] : List Str).map D.str, rfl, Le rfl, rfl, rfl, ?_⟩⟩
  show WPs _ _ _ [.any, .hand, .im (eL ["a", "b", "c"]), .im (eL ["b", "x", "c"]), .any, .any] _
  refine wps_cons ?_
  refine wst_set 4 ?ndA ?hA (hs := ?hsA) (hf := ?hfA) (hx := ?hxA) (hi := ?hiA) (hl := ?hlA)
  case ndA => exact nd
  case hlA => exact Nat.le_of_ble_eq_true rfl
  case hiA => exact rfl
  case hxA => exact .inl rfl
  case hfA => exact .inr rfl
  case hsA => exact rfl
  refine wp_tup <| wpa_cons <| wp_tup <| wpa_cons <| wp_str <| wpa_cons <| wp_tup <| wpa_cons <| wp_str <| wpa_nil ⟨[.str "a"], rfl, Le rfl, wpa_nil ⟨[.str "drop", .tup [.str "a"]], rfl, Le rfl, wpa_cons <| wp_tup <| wpa_cons <| wp_str <| wpa_cons <| wp_int <| wpa_nil ⟨[.str "keep", .int 1], rfl, Le rfl, wpa_cons <| wp_tup <| wpa_cons <| wp_str <| wpa_cons <| wp_tup <| wpa_cons <| wp_str <| wpa_nil ⟨[.str "x"], rfl, Le rfl, wpa_nil ⟨[.str "put", .tup [.str "x"]], rfl, Le rfl, wpa_cons <| wp_tup <| wpa_cons <| wp_str <| wpa_cons <| wp_int <| wpa_nil ⟨[.str "keep", .int 1], rfl, Le rfl, wpa_nil ⟨[.tup [.str "drop", .tup [.str "a"]], .tup [.str "keep", .int 1], .tup [.str "put", .tup [.str "x"]], .tup [.str "keep", .int 1]], rfl, Le rfl, rfl, ?_⟩⟩⟩⟩⟩⟩⟩
  show WPs _ _ _ [.any, .hand, .im (eL ["a", "b", "c"]), .im (eL ["b", "x", "c"]), .im dueK, .any] _
  refine wps_cons <| wst_if <| wpt_or3 (x := false) (y := false) (z := false) (wpt_cmp <| wp_fn Gp1 hr <| wpa_cons <| wp_name 2 rfl rfl <| wpa_cons <| wp_name 3 rfl rfl <| wpa_nil ⟨rfl, wp_name 4 rfl rfl <| od_neD hu64 sd sd ⟨_, rfl, nd1⟩⟩)
    (fun _ => wpt_cmp <| wp_fn Gf hr <| wpa_cons <| wp_name 2 rfl rfl <| wpa_cons <| wp_name 3 rfl rfl <| wpa_nil ⟨rfl, wp_int <| od_neI ⟨_, rfl, rfl⟩⟩)
    (fun _ _ => wpt_cmp <| wp_fn Gp2 hr <| wpa_cons <| wp_tup <| wpa_nil ⟨[], rfl, Le rfl, wpa_cons <| wp_tup <| wpa_nil ⟨[], rfl, Le rfl, wpa_nil ⟨rfl, wp_tup <| wpa_nil ⟨[], rfl, Le rfl, od_neD hu64 s0 s0 ⟨_, rfl, n0⟩⟩⟩⟩⟩) ⟨fun z => absurd z (by decide), fun _ => wps_nil ?_⟩
  refine wps_cons <| wst_for (fun i Γ => ∃ s2 s3 s4 s5 : Sl, Γ = [.any, .hand, s2, s3, s4, s5]) <|
    wpi_range1 m.range <| wpa_cons <| wp_int <| wpa_nil ⟨4, rfl, by decide, by decide, ⟨_, _, _, _, rfl⟩, fun F1 i Γ' hi hj => ?_, fun Γ' hj => ?_⟩
  · obtain ⟨s2, s3, s4, s5, rfl⟩ := hj
    have hB1 := hBu c F1 hB
    have hH1 := hBh _ hB1
    have hB1' : ∀ F H, B ((c.up F1).at F H) := fun F H => hBa _ F H hB1
    refine gt_name 5 rfl nd ?_
    refine wps_cons <| wst_set 2 nd <| wp_fnHT hH1 Gl hr <| wpa_cons <| wp_name 1 rfl rfl <| wpa_cons <| wp_int <| wpa_nil ⟨rfl, fun r hv hp => ?_⟩
    obtain ⟨bs, hb1, hb2, rfl⟩ := hp
    refine ⟨rfl, ?_⟩
    have hb3 : ∀ s ∈ bs, s ∈ okN := fun s hs => okL_N s (hb2 s hs)
    have Rb : Rw14 bs := ⟨by omega, hb3⟩
    refine wps_cons <| wst_set 3 nd <| WPe.mono (K := fun r => ∃ os : List Str, Rw14 os ∧ r = .im (eL os)) ?_ fun r hr2 => ?_
    · refine wp_ifExp <| wpt_cmp <| wp_fnHT hH1 Gd hr <| wpa_cons <| wp_name 1 rfl rfl <| wpa_cons <| wp_int <| wpa_nil ⟨rfl, fun r hv hp => ?_⟩
      obtain ⟨j, hj, rfl⟩ := hp
      refine wp_int <| od_gt ⟨_, rfl, fun _ => ?_, fun _ => ?_⟩
      · refine wp_fnHT hH1 (Gn bs (by omega) hb3) hr <| wpa_cons <| wp_name 1 rfl rfl <| wpa_cons <| wp_name 2 rfl rfl <| wpa_nil ⟨rfl, fun r hv hp => ?_⟩
        obtain ⟨os, ho1, ho2, rfl⟩ := hp
        exact ⟨os, ⟨Nat.le_trans ho1 (Nat.min_le_left _ _), ho2⟩, rfl⟩
      · refine wp_fnHT hH1 Gl hr <| wpa_cons <| wp_name 1 rfl rfl <| wpa_cons <| wp_int <| wpa_nil ⟨rfl, fun r hv hp => ?_⟩
        obtain ⟨os, ho1, ho2, rfl⟩ := hp
        exact ⟨os, ⟨by omega, fun s hs => okL_N s (ho2 s hs)⟩, rfl⟩
    obtain ⟨os, Ro, rfl⟩ := hr2
    refine ⟨rfl, ?_⟩
    refine wps_cons <| wst_if <| wpt_not <| wpt_val <| wp_fnCH hB1' (Gr bs os Rb Ro) hgd hr <| wpa_cons <| wp_name 1 rfl rfl <| wpa_cons <| wp_name 2 rfl rfl <| wpa_cons <| wp_name 3 rfl rfl <| wpa_nil ⟨rfl, true, rfl, fun z => absurd z (by decide), fun _ => wps_nil ?_⟩
    refine wps_cons <| wst_if <| wpt_not <| wpt_val <| wp_fld hB1' GF hgd hr <| wpa_cons <| wp_name 1 rfl rfl <| wpa_cons <| wp_name 2 rfl rfl <| wpa_cons <| wp_name 3 rfl rfl <| wpa_cons <| wp_fnHT hH1 (Gn os (by have := Ro.1; omega) Ro.2) hr <| wpa_cons <| wp_name 1 rfl rfl <| wpa_cons <| wp_name 3 rfl rfl <| wpa_nil ⟨rfl, fun r hv hp => ?_⟩
    obtain ⟨ts, ht1, ht2, rfl⟩ := hp
    exact wpa_nil ⟨bs, os, ts, Rb, Ro, ⟨Nat.le_trans ht1 (Nat.min_le_left _ _), ht2⟩, rfl, true, rfl, fun z => absurd z (by decide), fun _ => wps_nil <| wps_nil ⟨_, _, _, _, rfl⟩⟩
  · obtain ⟨s2, s3, s4, s5, rfl⟩ := hj
    exact wps_cons <| wst_ret <| wp_bl rfl
end
end K84

set_option Elab.async false
set_option linter.all false
set_option pp.maxSteps 300
set_option maxRecDepth 100000
set_option maxHeartbeats 1000000
/-! M19: k82: the law's C0 -/
namespace K84
open PySem PySem.Spec PyProof.Rows L2 DL
/-- the law's own C0 is one: hand and both tables -/
def Blaw (P1 P2 : Addr) (q1 q2 : Str) (c : C0) : Prop := HandC c ∧ TabC c P1 q1 ∧ TabC c P2 q2
theorem blaw_at {P1 P2 : Addr} {q1 q2 : Str} (c : C0) (F H : Hp) (h : Blaw P1 P2 q1 q2 c) : Blaw P1 P2 q1 q2 (c.at F H) := ⟨h.1.at F H, h.2.1.at F H, h.2.2.at F H⟩
theorem blaw_up {P1 P2 : Addr} {q1 q2 : Str} (c : C0) (F : Hp) (h : Blaw P1 P2 q1 q2 c) : Blaw P1 P2 q1 q2 (c.up F) := ⟨⟨h.1.ex⟩, ⟨h.2.1.w, h.2.1.t, h.2.1.s⟩, ⟨h.2.2.w, h.2.2.t, h.2.2.s⟩⟩
theorem blaw_knd {P1 P2 : Addr} {q1 q2 : Str} : Knd (Blaw P1 P2 q1 q2) (fun c => TabC c P1 q1) := ⟨fun c F H h => blaw_at c F H h, fun c F h => blaw_up c F h, fun c h => h.1, fun c h => h.2.1⟩
theorem blaw_tab {F H : Hp} {p a b P1 P2 : Addr} {q1 q2 : Str} (h1 : p ≠ a) (h2 : p ≠ b) (h3 : a ≠ b) (hne : P1 ≠ P2) (n1 : P1 ∉ [p, a, b]) (n2 : P2 ∉ [p, a, b]) : Blaw P1 P2 q1 q2 (cTab F H p a b [(P1, q1), (P2, q2)]) := by
  refine ⟨cTab_hand h1 h2 h3 fun t ht => ?_, cTab_tab (by simp) fun t ht e => ?_, cTab_tab (by simp) fun t ht e => ?_⟩
  · simp only [List.mem_cons, List.not_mem_nil, or_false] at ht
    rcases ht with rfl | rfl
    · exact n1
    · exact n2
  · simp only [List.mem_cons, List.not_mem_nil, or_false] at ht
    rcases ht with rfl | rfl
    · rfl
    · exact absurd e.symm hne
  · simp only [List.mem_cons, List.not_mem_nil, or_false] at ht
    rcases ht with rfl | rfl
    · exact absurd e hne
    · rfl
end K84

set_option Elab.async false
set_option linter.all false
set_option pp.maxSteps 300
set_option maxRecDepth 100000
set_option maxHeartbeats 1000000
/-! M20: k82, the walk: law -/
namespace K84
open PySem PySem.Spec PyProof.Rows L2 DL
section
variable {P : Program} {w : World} {K : PySem.W.Frag} {mg : Str → Option Value} {base : Heap} {f fh : Addr} {fd fdh : FuncData} {k : Nat} {P1 P2 : Addr} {a1 a2 : Str}
theorem ok_lawT (m : M mg) {n : Nat} (hne : P1 ≠ P2) (Gh : FnOk P w K mg base L2.CX0 k fh fdh ["script"] (spHandT K)) (hmh : mg "_law_hand" = some (.ref fh)) (hkh : PySem.W.keepIn K (.ref fh) = true) (hbh : Binds K fdh ["script"] [])
    (Gp1 : Fn P w K mg base k "patch" [eL ["a", "b", "c"], eL ["b", "x", "c"]] (.im dueK)) (Gf : Fn P w K mg base k "far" [eL ["a", "b", "c"], eL ["b", "x", "c"]] (.im (.int 2))) (Gp2 : Fn P w K mg base k "patch" [eL [], eL []] (.im (.tup [])))
    (Gl : FnH P w K mg base k "_law_lines" [.int ((12 : Nat) : Int)] (someL 12)) (Gn : ∀ ls : List Str, ls.length ≤ 40 → (∀ s ∈ ls, s ∈ okN) → FnH P w K mg base k "_law_near" [eL ls] (someN (min 14 (ls.length + 5)))) (Gd : FnH P w K mg base k "_law_draw" [.int ((4 : Nat) : Int)] (digit 4))
    (GF : FldOk (Blaw P1 P2 a1 a2) P w K mg base k) (Gr : ∀ a b : List Str, Rw14 a → Rw14 b → FnCH (Blaw P1 P2 a1 a2) P w K mg base k "_law_pair_right" [eL a, eL b] (.bl true))
    (F : Fun K "law" "law" sLaw f fd) : FnG P w K mg base (k + 1) f fd ["script"] (fun vs H Q _ => ∃ (a : Addr) (ns : List Int), vs = [.ref a] ∧ ns.length ≤ n ∧ (H P1 = some (.tbl #[]) ∧ H P2 = some (.tbl #[])) ∧ SqL K H a (ns.map V.int) ∧ ∀ H', Q (.bl true) H') := by
  refine fn_rawG F scLaw (fun vs H Q E h => ?_) fun cdv A outer s H vs Q E hgd0 hr h => ?_
  · obtain ⟨a, ns, rfl, _⟩ := h
    rfl
  obtain ⟨a, ns, rfl, _, ⟨t1, t2⟩, hS, hq⟩ := h
  have hgd : (A.deeper (PyProof.Rows.envOfC "law" (defScope sLaw) s.heap.objs.size f cdv)).guards = some [] := guards_deeper hgd0
  have nd := scLaw.nd
  have hu := hu1 hr
  refine wss_of (pss_cons (ps_set (i := 1) nd rfl (Or.inl rfl) (pe_call (E := L2.E0) Gh hr (by rfl) hmh hkh hbh .nil L2.pass0 (pa_cons (pe_var (i := 0) rfl (Or.inl rfl)) pa_nil) (by decide) (by rfl) (by rfl)) (by rfl) (.inr rfl)) pss_wss) ?_
  refine ⟨.ref a, rfl, a, ns, rfl, hS, fun p q1 q2 H1 n1 n2 n3 hh keep => ?_⟩
  have t1 := keep _ _ t1
  have t2 := keep _ _ t2
  have nin : ∀ {b : Addr}, H1 b = some (.tbl #[]) → b ∉ [p, q1, q2] := fun {b} e z => by
    obtain ⟨gs, ss, su, tu, e1, e2, e3, _⟩ := hh
    simp only [List.mem_cons, List.not_mem_nil, or_false] at z
    rcases z with rfl | rfl | rfl
    · rw [e1] at e; cases e
    · rw [e2] at e; cases e
    · rw [e3] at e; cases e
  have hB : Blaw P1 P2 a1 a2 (cTab (fun _ => none) H1 p q1 q2 [(P1, a1), (P2, a2)]) := blaw_tab n1 n2 n3 hne (nin t1) (nin t2)
  have hok : (cTab (fun _ => none) H1 p q1 q2 [(P1, a1), (P2, a2)]).hok H1 := ⟨hh, fun t ht => by
    simp only [List.mem_cons, List.not_mem_nil, or_false] at ht
    rcases ht with rfl | rfl
    · exact LamX.TabS.nil t1
    · exact LamX.TabS.nil t2⟩
  have E0 : EnvS (cTab (fun _ => none) H1 p q1 q2 [(P1, a1), (P2, a2)]) (fun _ => none) H1 [some (.ref a), some (.ref p), none, none, none, none] [.any, .hand, .any, .any, .any, .any] := by
    have e1 : EnvR (cTab (fun _ => none) H1 p q1 q2 [(P1, a1), (P2, a2)]) (fun _ => none) H1 [] [] := env_args (ds := []) (vs := []) (fun b o z => by cases z) rfl hok (fun a z => rfl) rfl rfl
    exact ⟨((e1.pushS (x := some (.ref p)) (s := .hand) ⟨rfl, rfl⟩).pushS (x := some (.ref a)) (s := .any) rfl).rest (n := 4), fun s hs => by
      simp only [List.mem_cons, List.not_mem_nil, or_false] at hs
      rcases hs with rfl | rfl | rfl | rfl | rfl | rfl <;> rfl⟩
  refine (law_body (E := E) m blaw_at blaw_up (fun c h => h.1) Gp1 Gf Gp2 Gl Gn Gd hB hgd hr GF Gr) _ _ _ E0 _ ⟨fun Γ F H σ z => z.elim, fun r v F H hr E' => ?_, fun Γ F H σ z => z.elim, fun Γ F H σ z => z.elim⟩
  subst hr
  have ev : v = .bl true := E'.imAt (i := 0) rfl rfl
  subst ev
  exact hq H
end
end K84

set_option Elab.async false
set_option linter.all false
set_option pp.maxSteps 300
set_option maxRecDepth 100000
set_option maxHeartbeats 2000000
/-! M21: k82: all promises, joined -/
namespace K84
open PySem PySem.Spec PyProof.Rows L2 DL
/-- where a def of the text stands behind the top -/
structure At (K : PySem.W.Frag) (x : Str) (st : Stmt) : Prop where
  ex : ∃ (f : Addr) (oc : Value) (od an : Option Addr) (osl : Array (Option Value)) (kV doc pm cdv ct : Value), PySem.W.nsIn K mainGlobals x = some (some (.ref f)) ∧
    K.lookup f = some ⟨oc, od, .func (PySem.W.fnOf x x (defArgs st) (defBody st) (defScope st) .none kV doc pm an cdv ct), osl⟩ ∧ PySem.W.codeIn K cdv x = true ∧ PySem.W.keepIn K (.ref f) = true
theorem at_mk {K : PySem.W.Frag} {x : Str} {st : Stmt} {f : Addr} {oc : Value} {od an : Option Addr} {osl : Array (Option Value)} {kV doc pm cdv ct : Value} (a : PySem.W.nsIn K mainGlobals x = some (some (.ref f)))
    (l : K.lookup f = some ⟨oc, od, .func (PySem.W.fnOf x x (defArgs st) (defBody st) (defScope st) .none kV doc pm an cdv ct), osl⟩) (c : PySem.W.codeIn K cdv x = true) (k : PySem.W.keepIn K (.ref f) = true) : At K x st := ⟨f, oc, od, an, osl, kV, doc, pm, cdv, ct, a, l, c, k⟩
section
variable {K : PySem.W.Frag} {h : Heap} {mg : Str → Option Value} {x : Str} {st : Stmt}
theorem At.fn (A : At K x st) (X : K.In h) (G : h.Ns mainGlobals mg) : ∃ f fd, Fun K x x st f fd ∧ mg x = some (.ref f) ∧ (∃ (kV doc pm : Value) (an : Option Addr) (cdv ct : Value), fd = PySem.W.fnOf x x (defArgs st) (defBody st) (defScope st) .none kV doc pm an cdv ct) := by
  obtain ⟨f, oc, od, an, osl, kV, doc, pm, cdv, ct, a, l, c, k⟩ := A.ex
  exact ⟨f, _, fun_mk l c k, PySem.W.mg_of X G a, kV, doc, pm, an, cdv, ct, rfl⟩
theorem At.df (A : At K x st) (X : K.In h) (G : h.Ns mainGlobals mg) {ps : List Str} (hb : ∀ (kV doc pm : Value) (an : Option Addr) (cdv ct : Value) (us : List Value), us.length = ps.length → bindArgs (PySem.W.fnOf x x (defArgs st) (defBody st) (defScope st) .none kV doc pm an cdv ct) ⟨us, []⟩ = pure (ps.zip us)) : Df K mg x st ps := by
  obtain ⟨f, fd, F, hm, _⟩ := A.fn X G
  exact ⟨f, fd, F, hm, F.binds hb⟩
end
structure Cns (K : PySem.W.Frag) (x : Str) (s : Str) : Prop where
  ex : ∃ t, PySem.W.nsIn K mainGlobals x = some (some (.str s t))
structure Cni (K : PySem.W.Frag) (x : Str) (s : Int) : Prop where
  ex : ∃ t, PySem.W.nsIn K mainGlobals x = some (some (.int s t))
theorem cns_mk {K : PySem.W.Frag} {x s : Str} {t : Tok} (a : PySem.W.nsIn K mainGlobals x = some (some (.str s t))) : Cns K x s := ⟨t, a⟩
theorem cni_mk {K : PySem.W.Frag} {x : Str} {s : Int} {t : Tok} (a : PySem.W.nsIn K mainGlobals x = some (some (.int s t))) : Cni K x s := ⟨t, a⟩

/-- a def with a table of code objects, as it stands behind the top -/
structure AtT (K : PySem.W.Frag) (x : Str) (st : Stmt) (f cd P : Addr) : Prop where
  a : PySem.W.nsIn K mainGlobals x = some (some (.ref f))
  l : ∃ (oc : Value) (od an : Option Addr) (osl : Array (Option Value)) (kV doc pm ct : Value), K.lookup f = some ⟨oc, od, .func (PySem.W.fnOf x x (defArgs st) (defBody st) (defScope st) .none kV doc pm an (.ref cd) ct), osl⟩
  c : PySem.W.codeIn K (.ref cd) x = true
  k : PySem.W.keepIn K (.ref f) = true
  t : ∃ (oc : Value) (od : Option Addr) (vs : Array Value) (osl : Array (Option Value)), K.lookup cd = some ⟨oc, od, .fields vs, osl⟩ ∧ vs[11]? = some (.ref P)
  h : PySem.W.codeHdIn K cd P = true
  n : K.lookup P = none
theorem atT_mk {K : PySem.W.Frag} {x : Str} {st : Stmt} {f cd P : Addr} {oc : Value} {od an : Option Addr} {osl : Array (Option Value)} {kV doc pm ct : Value} {oc2 : Value} {od2 : Option Addr} {vs : Array Value} {osl2 : Array (Option Value)} (a : PySem.W.nsIn K mainGlobals x = some (some (.ref f)))
    (l : K.lookup f = some ⟨oc, od, .func (PySem.W.fnOf x x (defArgs st) (defBody st) (defScope st) .none kV doc pm an (.ref cd) ct), osl⟩) (c : PySem.W.codeIn K (.ref cd) x = true) (k : PySem.W.keepIn K (.ref f) = true)
    (t : K.lookup cd = some ⟨oc2, od2, .fields vs, osl2⟩) (t2 : vs[11]? = some (.ref P)) (h : PySem.W.codeHdIn K cd P = true) (n : K.lookup P = none) : AtT K x st f cd P := ⟨a, ⟨_, _, _, _, _, _, _, _, l⟩, c, k, ⟨_, _, _, _, t, t2⟩, h, n⟩
theorem AtT.tab {K : PySem.W.Frag} {x : Str} {st : Stmt} {f cd P : Addr} (A : AtT K x st f cd P) : PySem.W.tabIn K x = some (cd, P) := by
  obtain ⟨oc, od, an, osl, kV, doc, pm, ct, l⟩ := A.l
  obtain ⟨oc2, od2, vs, osl2, t, t2⟩ := A.t
  unfold PySem.W.tabIn
  rw [A.a]
  dsimp only
  rw [l]
  dsimp only
  show (match K.lookup cd with
        | some ⟨_, _, .fields vs, _⟩ => (match (vs[11]? : Option Value) with
          | some (.ref P) => some (cd, P)
          | _ => none)
        | _ => none) = _
  rw [t]
  dsimp only
  rw [t2]
theorem AtT.funC {K : PySem.W.Frag} {x : Str} {st : Stmt} {f cd P : Addr} (A : AtT K x st f cd P) : ∃ fd, FunC K x st f fd cd ∧ ∃ (kV doc pm : Value) (an : Option Addr) (ct : Value), fd = PySem.W.fnOf x x (defArgs st) (defBody st) (defScope st) .none kV doc pm an (.ref cd) ct := by
  obtain ⟨oc, od, an, osl, kV, doc, pm, ct, l⟩ := A.l
  exact ⟨_, ⟨⟨oc, od, kV, doc, pm, an, ct, osl, rfl, l, A.c⟩, A.k⟩, kV, doc, pm, an, ct, rfl⟩
/-- the error class, as it stands behind the top -/
structure ErS (K : PySem.W.Frag) (L N : Addr) : Prop where
  l : PySem.W.nsIn K mainGlobals "LockError" = some (some (.ref L))
  n : PySem.W.nsIn K mainGlobals "NotFittingPatch" = some (some (.ref N))
  v : PySem.W.nsIn K mainGlobals "ValueError" = some none
  x : PySem.W.exmOne K (.ref N) (.ref L) = some true
  k1 : PySem.W.kitOne K (.ref N) (.ref N) = some true
  k2 : PySem.W.kitOne K (.ref N) (.type "ValueError") = some true
  c : ExcC K N
  q : PySem.W.excIn K N [.type "ValueError", .type "Exception", .type "BaseException", .type "object"] "ValueError.__new__" = true
  k : PySem.W.keepIn K (.ref N) = true
  r1 : PySem.W.subIn K (.ref N) (.type "BaseException") = some true
  r2 : PySem.W.typeIn K (.ref N) = some (.type "type")
/-- all that stands behind the top -/
structure Sts (K : PySem.W.Frag) (f1 c1 P1 f2 c2 P2 L N : Addr) : Prop where
  d0 : At K "is_integer" sIntP
  d1 : At K "are_lines" sAre
  d2 : At K "check_lines" sChk
  d3 : At K "is_step" sStep
  d4 : At K "is_patch" sPch
  d5 : At K "check_patch" sCpt
  d6 : At K "heights_of" sHts
  d7 : At K "joined_steps" sJoi
  d8 : At K "sorted_steps" sSrt
  d9 : At K "patch" sPat
  d10 : At K "far" sFarP
  d11 : At K "cost_of" sCof
  d12 : At K "led_by" sLby
  d13 : At K "applied" sApl
  d14 : At K "turned_patch" sTpd
  d15 : At K "followed_by" sFol
  d16 : At K "is_patch_for" sPfo
  d17 : At K "_law_hand" sHnd
  d18 : At K "_law_draw" sDrw
  d19 : At K "_law_any" sAny
  d20 : At K "_law_is_int" sIsInt
  d21 : At K "_law_lines" sLin
  d22 : At K "_law_near" sNea
  d23 : At K "_law_far" sFar
  d24 : At K "_law_are_lines" sLAre
  d25 : At K "_law_is_patch" sIsP
  d26 : At K "_law_led" sLed
  d27 : At K "_law_cost" sCst
  d28 : At K "_law_joined" sJnd
  d29 : At K "_law_walk" sWlk
  d30 : At K "_law_turned" sTnd
  d31 : At K "_law_bent" sBnt
  d32 : At K "_law_told" sTld
  d33 : At K "_law_is_least" sLea
  d34 : At K "_law_pair_right" sPrr
  d35 : At K "law" sLaw
  z0 : PySem.W.nsIn K mainGlobals "isinstance" = some none
  z1 : PySem.W.nsIn K mainGlobals "tuple" = some none
  z2 : PySem.W.nsIn K mainGlobals "str" = some none
  z3 : PySem.W.nsIn K mainGlobals "int" = some none
  z4 : PySem.W.nsIn K mainGlobals "bool" = some none
  z5 : PySem.W.nsIn K mainGlobals "len" = some none
  z6 : PySem.W.nsIn K mainGlobals "all" = some none
  z7 : PySem.W.nsIn K mainGlobals "sum" = some none
  z8 : PySem.W.nsIn K mainGlobals "min" = some none
  z9 : PySem.W.nsIn K mainGlobals "list" = some none
  z10 : PySem.W.nsIn K mainGlobals "range" = some none
  z11 : PySem.W.nsIn K mainGlobals "enumerate" = some none
  z12 : PySem.W.nsIn K mainGlobals "zip" = some none
  z13 : PySem.W.nsIn K mainGlobals "sorted" = some none
  z14 : PySem.W.nsIn K mainGlobals "repr" = some none
  z15 : PySem.W.nsIn K mainGlobals "abs" = some none
  g0 : Cni K "MOST_LINES" 200
  g1 : Cns K "KEEP" "keep"
  g2 : Cns K "DROP" "drop"
  g3 : Cns K "PUT" "put"
  a1 : AtT K "_law_is_applied" sApd f1 c1 P1
  a2 : AtT K "_law_are_followed" sFld f2 c2 P2
  er : ErS K L N
  ne : P1 ≠ P2
structure Dfs (K : PySem.W.Frag) (mg : Str → Option Value) : Prop where
  dIntP : Df K mg "is_integer" sIntP ["thing"]
  dAre : Df K mg "are_lines" sAre ["thing"]
  dChk : Df K mg "check_lines" sChk ["thing"]
  dStep : Df K mg "is_step" sStep ["thing"]
  dPch : Df K mg "is_patch" sPch ["thing"]
  dCpt : Df K mg "check_patch" sCpt ["thing"]
  dHts : Df K mg "heights_of" sHts ["one", "other"]
  dJoi : Df K mg "joined_steps" sJoi ["words"]
  dSrt : Df K mg "sorted_steps" sSrt ["words"]
  dPat : Df K mg "patch" sPat ["one", "other"]
  dFarP : Df K mg "far" sFarP ["one", "other"]
  dCof : Df K mg "cost_of" sCof ["steps"]
  dLby : Df K mg "led_by" sLby ["one", "steps"]
  dApl : Df K mg "applied" sApl ["one", "steps"]
  dTpd : Df K mg "turned_patch" sTpd ["steps"]
  dFol : Df K mg "followed_by" sFol ["one", "steps", "more"]
  dPfo : Df K mg "is_patch_for" sPfo ["one", "other", "thing"]
  dHnd : Df K mg "_law_hand" sHnd ["script"]
  dDrw : Df K mg "_law_draw" sDrw ["hand", "many"]
  dAny : Df K mg "_law_any" sAny ["hand", "things"]
  dIsInt : Df K mg "_law_is_int" sIsInt ["thing"]
  dLin : Df K mg "_law_lines" sLin ["hand", "most"]
  dNea : Df K mg "_law_near" sNea ["hand", "lines"]
  dFar : Df K mg "_law_far" sFar ["one", "other"]
  dLAre : Df K mg "_law_are_lines" sLAre ["thing"]
  dIsP : Df K mg "_law_is_patch" sIsP ["thing"]
  dLed : Df K mg "_law_led" sLed ["one", "steps"]
  dCst : Df K mg "_law_cost" sCst ["steps"]
  dJnd : Df K mg "_law_joined" sJnd ["words"]
  dWlk : Df K mg "_law_walk" sWlk ["hand", "one", "other"]
  dTnd : Df K mg "_law_turned" sTnd ["steps"]
  dBnt : Df K mg "_law_bent" sBnt ["hand", "steps"]
  dTld : Df K mg "_law_told" sTld ["call"]
  dLea : Df K mg "_law_is_least" sLea ["one", "other", "steps"]
  dPrr : Df K mg "_law_pair_right" sPrr ["hand", "one", "other"]
section
variable {K : PySem.W.Frag} {h : Heap} {mg : Str → Option Value} {f1 c1 P1 f2 c2 P2 L N : Addr}
theorem Sts.m (S : Sts K f1 c1 P1 f2 c2 P2 L N) (X : K.In h) (G : h.Ns mainGlobals mg) : M mg where
  isi := PySem.W.mg_none_of X G S.z0
  tup := PySem.W.mg_none_of X G S.z1
  str := PySem.W.mg_none_of X G S.z2
  int := PySem.W.mg_none_of X G S.z3
  bool := PySem.W.mg_none_of X G S.z4
  len := PySem.W.mg_none_of X G S.z5
  all := PySem.W.mg_none_of X G S.z6
  sum := PySem.W.mg_none_of X G S.z7
  min := PySem.W.mg_none_of X G S.z8
  list := PySem.W.mg_none_of X G S.z9
  range := PySem.W.mg_none_of X G S.z10
  enum := PySem.W.mg_none_of X G S.z11
  zip := PySem.W.mg_none_of X G S.z12
  sorted := PySem.W.mg_none_of X G S.z13
  repr := PySem.W.mg_none_of X G S.z14
  abs := PySem.W.mg_none_of X G S.z15
  most := let ⟨t, a⟩ := S.g0.ex; ⟨t, PySem.W.mg_of X G a⟩
  keep := let ⟨t, a⟩ := S.g1.ex; ⟨t, PySem.W.mg_of X G a⟩
  drop := let ⟨t, a⟩ := S.g2.ex; ⟨t, PySem.W.mg_of X G a⟩
  put := let ⟨t, a⟩ := S.g3.ex; ⟨t, PySem.W.mg_of X G a⟩
theorem Sts.tld (S : Sts K f1 c1 P1 f2 c2 P2 L N) (X : K.In h) (G : h.Ns mainGlobals mg) : TldM K mg L N := ⟨PySem.W.mg_of X G S.er.l, PySem.W.mg_of X G S.er.n, PySem.W.mg_none_of X G S.z0, PySem.W.mg_none_of X G S.er.v, S.er.x, S.er.k1, S.er.k2, S.er.c⟩
theorem Sts.own (S : Sts K f1 c1 P1 f2 c2 P2 L N) (X : K.In h) (G : h.Ns mainGlobals mg) : OwnE K mg "NotFittingPatch" N := ⟨⟨_, _, _, _, PySem.F.excBase_ValueError, S.er.q⟩, PySem.W.mg_of X G S.er.n, S.er.k, S.er.r1, S.er.r2⟩
theorem Sts.dfs (S : Sts K f1 c1 P1 f2 c2 P2 L N) (X : K.In h) (G : h.Ns mainGlobals mg) : Dfs K mg where
  dIntP := S.d0.df X G fun _ _ _ _ _ _ us hl => match us, hl with | [_], _ => rfl
  dAre := S.d1.df X G fun _ _ _ _ _ _ us hl => match us, hl with | [_], _ => rfl
  dChk := S.d2.df X G fun _ _ _ _ _ _ us hl => match us, hl with | [_], _ => rfl
  dStep := S.d3.df X G fun _ _ _ _ _ _ us hl => match us, hl with | [_], _ => rfl
  dPch := S.d4.df X G fun _ _ _ _ _ _ us hl => match us, hl with | [_], _ => rfl
  dCpt := S.d5.df X G fun _ _ _ _ _ _ us hl => match us, hl with | [_], _ => rfl
  dHts := S.d6.df X G fun _ _ _ _ _ _ us hl => match us, hl with | [_, _], _ => rfl
  dJoi := S.d7.df X G fun _ _ _ _ _ _ us hl => match us, hl with | [_], _ => rfl
  dSrt := S.d8.df X G fun _ _ _ _ _ _ us hl => match us, hl with | [_], _ => rfl
  dPat := S.d9.df X G fun _ _ _ _ _ _ us hl => match us, hl with | [_, _], _ => rfl
  dFarP := S.d10.df X G fun _ _ _ _ _ _ us hl => match us, hl with | [_, _], _ => rfl
  dCof := S.d11.df X G fun _ _ _ _ _ _ us hl => match us, hl with | [_], _ => rfl
  dLby := S.d12.df X G fun _ _ _ _ _ _ us hl => match us, hl with | [_, _], _ => rfl
  dApl := S.d13.df X G fun _ _ _ _ _ _ us hl => match us, hl with | [_, _], _ => rfl
  dTpd := S.d14.df X G fun _ _ _ _ _ _ us hl => match us, hl with | [_], _ => rfl
  dFol := S.d15.df X G fun _ _ _ _ _ _ us hl => match us, hl with | [_, _, _], _ => rfl
  dPfo := S.d16.df X G fun _ _ _ _ _ _ us hl => match us, hl with | [_, _, _], _ => rfl
  dHnd := S.d17.df X G fun _ _ _ _ _ _ us hl => match us, hl with | [_], _ => rfl
  dDrw := S.d18.df X G fun _ _ _ _ _ _ us hl => match us, hl with | [_, _], _ => rfl
  dAny := S.d19.df X G fun _ _ _ _ _ _ us hl => match us, hl with | [_, _], _ => rfl
  dIsInt := S.d20.df X G fun _ _ _ _ _ _ us hl => match us, hl with | [_], _ => rfl
  dLin := S.d21.df X G fun _ _ _ _ _ _ us hl => match us, hl with | [_, _], _ => rfl
  dNea := S.d22.df X G fun _ _ _ _ _ _ us hl => match us, hl with | [_, _], _ => rfl
  dFar := S.d23.df X G fun _ _ _ _ _ _ us hl => match us, hl with | [_, _], _ => rfl
  dLAre := S.d24.df X G fun _ _ _ _ _ _ us hl => match us, hl with | [_], _ => rfl
  dIsP := S.d25.df X G fun _ _ _ _ _ _ us hl => match us, hl with | [_], _ => rfl
  dLed := S.d26.df X G fun _ _ _ _ _ _ us hl => match us, hl with | [_, _], _ => rfl
  dCst := S.d27.df X G fun _ _ _ _ _ _ us hl => match us, hl with | [_], _ => rfl
  dJnd := S.d28.df X G fun _ _ _ _ _ _ us hl => match us, hl with | [_], _ => rfl
  dWlk := S.d29.df X G fun _ _ _ _ _ _ us hl => match us, hl with | [_, _, _], _ => rfl
  dTnd := S.d30.df X G fun _ _ _ _ _ _ us hl => match us, hl with | [_], _ => rfl
  dBnt := S.d31.df X G fun _ _ _ _ _ _ us hl => match us, hl with | [_, _], _ => rfl
  dTld := S.d32.df X G fun _ _ _ _ _ _ us hl => match us, hl with | [_], _ => rfl
  dLea := S.d33.df X G fun _ _ _ _ _ _ us hl => match us, hl with | [_, _, _], _ => rfl
  dPrr := S.d34.df X G fun _ _ _ _ _ _ us hl => match us, hl with | [_, _, _], _ => rfl
end
/-! ### bounds -/
theorem tot_cons (g : Str × List Str) (gs : Gs) : tot (g :: gs) = g.2.length + tot gs := by simp [tot]
theorem tot_sd : ∀ {gs : Gs}, tot gs ≤ (srcG gs).length + (dstG gs).length
  | [] => Nat.zero_le _
  | g :: gs => by
    have ih := tot_sd (gs := gs)
    have e1 : (srcG (g :: gs)).length = (sG g).length + (srcG gs).length := by simp [srcG]
    have e2 : (dstG (g :: gs)).length = (dG g).length + (dstG gs).length := by simp [dstG]
    have e3 : g.2.length ≤ (sG g).length + (dG g).length := by
      unfold sG dG
      by_cases h : g.1 = ("put" : Str)
      · rw [if_pos h, if_neg (by rw [h]; decide)]
        exact Nat.le_add_left _ _
      · rw [if_neg h]
        exact Nat.le_add_right _ _
    rw [tot_cons, e1, e2]
    omega
theorem cst_cons (g : Str × List Str) (gs : Gs) : cst (g :: gs) = cst [g] + cst gs := cst_app [g] gs
theorem cst_tot : ∀ {gs : Gs}, 0 ≤ cst gs ∧ cst gs ≤ tot gs
  | [] => by simp [cst, tot]
  | g :: gs => by
    have ih := cst_tot (gs := gs)
    obtain ⟨w, ls⟩ := g
    rw [cst_cons, tot_cons, cst_one]
    split
    · constructor <;> omega
    · constructor <;> push_cast <;> omega
/-- a walk's facts, of rows that are not long -/
theorem gd_mk {one other : List Str} {gs : Gs} (l1 : one.length ≤ 40) (l2 : other.length ≤ 40) (hp : PatOk gs) (hs : srcG gs = one) (he : dstG gs = other) (hl : gs.length ≤ 200) (hd : dd one other one.length other.length ≤ cst gs) : Gd one other gs := by
  have ht : tot gs ≤ 80 := by
    have := tot_sd (gs := gs)
    rw [hs, he] at this
    omega
  have hc := cst_tot (gs := gs)
  have T := tn_ok hp
  have TP := T.p hp
  exact ⟨hp, by omega, hl, fun g hg => ⟨by have := le_tot hg; omega, (hp.2.1 g hg).2.2⟩, hd, ⟨hc.1, by omega⟩, rp_ePs TP.1 (by rw [T.l]; omega) fun g hg => ⟨by have := (TP.2.1 g hg).2.1; omega, (TP.2.1 g hg).2.2⟩, hs, he⟩
theorem fnH_post {P : Program} {w : World} {K : PySem.W.Frag} {mg : Str → Option Value} {base : Heap} {k : Nat} {x : Str} {args : List D} {post post' : Sl → Prop} (G : FnH P w K mg base k x args post) (h : ∀ r, post r → post' r) : FnH P w K mg base k x args post' := by
  obtain ⟨f, fd, ps, hps, G, hm, hk, hb⟩ := G
  refine ⟨f, fd, ps, hps, G.imp fun vs H Q E hsp => ?_, hm, hk, hb⟩
  obtain ⟨h1, c, F, rs, h2, h3, h4, h5, h6, h7, h8, q⟩ := hsp
  exact ⟨h1, c, F, rs, h2, h3, h4, h5, h6, h7, h8, fun v r F' H' hp E' => q v r F' H' ⟨hp.1, h r hp.2⟩ E'⟩
theorem clY_post {P : Program} {w : World} {K : PySem.W.Frag} {mg : Str → Option Value} {base : Heap} {k n : Nat} {x : Str} {pre pre' : List Sl → Prop} {post post' : List Sl → Sl → Prop} (G : ClY P w K mg base k x n pre post) (h1 : ∀ rs, pre' rs → pre rs) (h2 : ∀ rs r, pre' rs → post rs r → post' rs r) : ClY P w K mg base k x n pre' post' := by
  obtain ⟨f, fd, ps, hps, G, hm, hk, hb⟩ := G
  refine ⟨f, fd, ps, hps, G.imp fun vs H Q E hsp => ?_, hm, hk, hb⟩
  obtain ⟨g1, c, F, rs, g2, g3, g4, g5, g6, g7, g8, q⟩ := hsp
  exact ⟨g1, c, F, rs, g2, g3, h1 rs g4, g5, g6, g7, g8, fun v r F' H' hp E' => q v r F' H' (h2 rs r g4 hp) E'⟩
/-! ### the promises -/
section
variable {P : Program} {w : World} {K : PySem.W.Frag} {mg : Str → Option Value} {base : Heap} (m : M mg) (D : Dfs K mg)
include m D
theorem t_are (x : DL.D) : Fn P w K mg base 1 "are_lines" [x] (.im (.bl (alB x))) := ok_AreG (k := 0) m D.dAre
theorem t_areL {l : List Str} (h : Lns l) : Fn P w K mg base 1 "are_lines" [eL l] (.im (.bl true)) := ok_are (k := 0) m h D.dAre
theorem t_chk {l : List Str} (h : Lns l) : Fn P w K mg base 2 "check_lines" [eL l] (.im .non) := ok_chk (t_areL m D h) D.dChk
theorem t_step (x : DL.D) : Fn P w K mg base 2 "is_step" [x] (.im (.bl (sB x))) := ok_stepG m (fun y => ok_intP (k := 0) m D.dIntP) (fun y => t_are m D y) D.dStep
theorem t_pch (x : DL.D) (hl : ∀ l, x = .tup l → l.length ≤ 900) : Fn P w K mg base 3 "is_patch" [x] (.im (.bl (patB x))) := ok_pchG m hl (fun y => t_step m D y) D.dPch
theorem t_pchT {gs : Gs} (hp : PatOk gs) (hl : gs.length ≤ 900) : Fn P w K mg base 3 "is_patch" [eP gs] (.im (.bl true)) := by
  have := t_pch (P := P) (w := w) (base := base) m D (eP gs) fun l e => by cases e; rw [List.length_map]; exact hl
  rw [patB_eP hp] at this
  exact this
theorem t_cpt {gs : Gs} (hp : PatOk gs) (hl : gs.length ≤ 900) : Fn P w K mg base 4 "check_patch" [eP gs] (.im .non) := ok_cpt (t_pchT m D hp hl) D.dCpt
theorem t_hts {a b : List Str} (ha : Lns a) (hb : Lns b) : Fn P w K mg base 1 "heights_of" [eL a, eL b] (.own (.lst (eHts a b (a.length + 1)))) := ok_hts (k := 0) m ha hb D.dHts
theorem t_pat {a b : List Str} (ha : Lns a) (hb : Lns b) : Fn P w K mg base 3 "patch" [eL a, eL b] (.im (eP (gsf a b))) :=
  ok_pat m ha hb (t_chk m D ha) (t_chk m D hb) ((t_hts m D ha hb).mono (by decide)) ((ok_srt (k := 0) m (by rw [← srt_len]; have := pt_len (one := a) (other := b); unfold pt at this; have h1 := ha.1; have h2 := hb.1; omega) D.dSrt).mono (by decide)) ((ok_joi (k := 0) m (by have := pt_len (one := a) (other := b); have h1 := ha.1; have h2 := hb.1; omega) D.dJoi).mono (by decide)) D.dPat
theorem t_farP {a b : List Str} (ha : Lns a) (hb : Lns b) : Fn P w K mg base 3 "far" [eL a, eL b] (.im (.int (dd a b a.length b.length))) := ok_farP (t_chk m D ha) (t_chk m D hb) ((t_hts m D ha hb).mono (by decide)) D.dFarP
theorem t_cof {gs : Gs} (hp : PatOk gs) (hl : gs.length ≤ 900) : Fn P w K mg base 5 "cost_of" [eP gs] (.im (.int (cst gs))) := ok_cof m hl (t_cpt m D hp hl) D.dCof
theorem t_lby {one : List Str} {gs : Gs} (h1 : Lns one) (hp : PatOk gs) (hl : gs.length ≤ 900) : Fn P w K mg base 1 "led_by" [eL one, eP gs] (.im (eO (ledS one gs))) := ok_LbyG (k := 0) m h1 hp hl D.dLby
theorem t_led {one : List Str} {gs : Gs} (h1 : Lns one) (hp : PatOk gs) (hl : gs.length ≤ 900) : Fn P w K mg base 1 "_law_led" [eL one, eP gs] (.im (eO (ledS one gs))) := ok_LedG (k := 0) m h1 hp hl D.dLed
theorem t_apl {one due : List Str} {gs : Gs} (h1 : Lns one) (hp : PatOk gs) (hl : gs.length ≤ 900) (hd : ledS one gs = some due) : Fn P w K mg base 5 "applied" [eL one, eP gs] (.im (eL due)) := ok_apl m hd ((t_chk m D h1).mono (by decide)) (t_cpt m D hp hl) ((t_lby m D h1 hp hl).mono (by decide)) D.dApl
theorem t_aplE {one : List Str} {gs : Gs} {N : Addr} (O : OwnE K mg "NotFittingPatch" N) (h1 : Lns one) (hp : PatOk gs) (hl : gs.length ≤ 900) (hd : ledS one gs = none) : FnE P w K mg base 5 "applied" [eL one, eP gs] (.ref N) := ok_aplE m O hd ((t_chk m D h1).mono (by decide)) (t_cpt m D hp hl) ((t_lby m D h1 hp hl).mono (by decide)) D.dApl
theorem t_tpd {gs : Gs} (hp : PatOk gs) (hl : gs.length ≤ 900) : Fn P w K mg base 5 "turned_patch" [eP gs] (.im (eP (tn gs))) := ok_tpd m hl hp (t_cpt m D hp hl) D.dTpd
theorem t_isP (x : DL.D) : Fn P w K mg base 2 "_law_is_patch" [x] (.im (.bl (patB x))) := ok_isPG m (fun y => ok_isIntD (k := 0) m D.dIsInt) (fun y => ok_LAreG (k := 0) m D.dLAre) D.dIsP
theorem t_far {a b : List Str} (ha : Lns a) (hb : Lns b) : Fn P w K mg base 1 "_law_far" [eL a, eL b] (.im (.int (dd a b a.length b.length))) := ok_far (k := 0) m ha hb D.dFar
theorem t_lea {a b : List Str} (ha : Lns a) (hb : Lns b) (hl : (gsf a b).length ≤ 900) : Fn P w K mg base 3 "_law_is_least" [eL a, eL b, eP (gsf a b)] (.im (.bl true)) := by
  have hp : PatOk (gsf a b) := gsf_ok ha hb
  have G1 := t_isP (P := P) (w := w) (base := base) m D (eP (gsf a b))
  rw [patB_eP hp] at G1
  have G2 := t_led (P := P) (w := w) (base := base) m D ha hp hl
  have e : ledS a (gsf a b) = some b := by
    have := ledS_src hp.1
    rw [gsf_src, gsf_dst] at this
    exact this
  rw [e] at G2
  have G4 := t_far (P := P) (w := w) (base := base) m D ha hb
  rw [← gsf_cst] at G4
  exact ok_lea m hb G1 (G2.mono (by decide)) ((ok_cst (k := 0) m hl D.dCst).mono (by decide)) (G4.mono (by decide)) D.dLea
theorem t_drw {n : Nat} (h0 : 0 < n) (hn : n ≤ 1000) : FnH P w K mg base 1 "_law_draw" [.int (n : Nat)] (digit n) := ok_drw (k := 0) m h0 (by omega) D.dDrw
theorem t_any : AnyOk P w K mg base 2 := ok_any m (fun n h0 hn => t_drw m D h0 hn) D.dAny
theorem t_lin {n : Nat} (hn : n ≤ 100) : FnH P w K mg base 3 "_law_lines" [.int (n : Nat)] (someL n) :=
  ok_lin m hn ((t_any m D).fn (by decide) (by decide)) (fun l h1 h2 => (t_any m D).fn h1 h2) ((t_drw m D (by omega) (by omega)).mono (by decide)) D.dLin
theorem t_nea {ls : List Str} (hl : ls.length ≤ 40) (hw : ∀ s ∈ ls, s ∈ okN) : FnH P w K mg base 3 "_law_near" [eL ls] (someN (min 14 (ls.length + 5))) :=
  ok_nea m hl hw (fun l h1 h2 => (t_any m D).fn h1 h2) (fun n h0 hn => (t_drw m D h0 hn).mono (by decide)) D.dNea
theorem t_nea20 {ls : List Str} (hl : ls.length ≤ 40) (hw : ∀ s ∈ ls, s ∈ okN) : FnH P w K mg base 3 "_law_near" [eL ls] (someN 20) :=
  fnH_post (t_nea m D hl hw) fun r ⟨l, h1, h2⟩ => ⟨l, by omega, h2⟩
theorem t_wlk {a b : List Str} (ha : Lns a) (hb : Lns b) (la : a.length ≤ 40) (lb : b.length ≤ 40) : FnH P w K mg base 2 "_law_walk" [eL a, eL b] fun r => ∃ gs, r = .im (eP gs) ∧ Gd a b gs :=
  fnH_post (ok_wlk m ha hb (by omega) (by omega) (fun n h0 hn => t_drw m D h0 hn) (fun ws hl => ok_jnd (k := 0) m hl D.dJnd) D.dWlk) fun r ⟨gs, e, hp, hs, hd, ht, hl, hw, hc⟩ => ⟨gs, e, gd_mk la lb hp hs hd hl hc⟩
theorem t_bnt {gs : Gs} (hP : PatOk gs) (hl : gs.length ≤ 800) (hs : ∀ g ∈ gs, g.2.length ≤ 150) : FnH P w K mg base 3 "_law_bent" [eP gs] Bnt := ok_bnt m hP hl hs (fun n h0 hn => (t_drw m D h0 hn).mono (by decide)) (t_any m D) D.dBnt
theorem t_sf {a b : List Str} {gs : Gs} (ha : Lns a) (hb : Lns b) (g : Gd a b gs) : SF P w K mg base 8 a b gs := by
  have T := tn_ok g.p
  have TP := T.p g.p
  have hl : gs.length ≤ 900 := by have := g.l; omega
  have hl2 : (tn gs).length ≤ 900 := by rw [T.l]; exact hl
  have e1 : ledS b (tn gs) = some a := by
    have := ledS_src TP.1
    rw [T.s, T.d, g.s, g.e] at this
    exact this
  have e2 : ledS a gs = some b := by
    have := ledS_src g.p.1
    rw [g.s, g.e] at this
    exact this
  have p1 := ok_pfoT (P := P) (w := w) (base := base) (k := 3) m ha hb g.p ((t_chk m D ha).mono (by decide)) ((t_chk m D hb).mono (by decide)) (t_pchT m D g.p hl) ((t_lby m D ha g.p hl).mono (by decide)) D.dPfo
  rw [e2, decide_eq_true rfl] at p1
  have t1 := t_tpd (P := P) (w := w) (base := base) m D TP hl2
  rw [T.b] at t1
  exact ⟨(t_cof m D g.p hl).mono (by decide), (ok_cst (k := 0) m hl D.dCst).mono (by decide), (t_tpd m D g.p hl).mono (by decide), (ok_tnd (k := 0) m hl g.p.1 D.dTnd).mono (by decide), (t_apl m D hb TP hl2 e1).mono (by decide), t1.mono (by decide), p1.mono (by decide), (t_bnt m D g.p (by have := g.l; omega) fun x hx => (g.w x hx).1).mono (by decide)⟩
theorem gd_gsf {a b : List Str} (ha : Lns a) (hb : Lns b) (la : a.length ≤ 40) (lb : b.length ≤ 40) : Gd a b (gsf a b) :=
  gd_mk la lb (gsf_ok ha hb) gsf_src gsf_dst (by have := gsf_len (one := a) (other := b); omega) (Int.le_of_eq gsf_cst.symm)
theorem t_prr {B B' : C0 → Prop} (Kn : Knd B B') (GA : ApdOk B' P w K mg base 8) {a b : List Str} (ra : Rw14 a) (rb : Rw14 b) : FnCH B P w K mg base 9 "_law_pair_right" [eL a, eL b] (.bl true) := by
  have ha := ra.lns
  have hb := rb.lns
  have la := ra.1
  have lb := rb.1
  have f2 := t_farP (P := P) (w := w) (base := base) m D hb ha
  rw [dd_swap] at f2
  have f3 := t_farP (P := P) (w := w) (base := base) m D ha ha
  rw [dd_same] at f3
  exact ok_prr (k := 8) m Kn ha hb (by omega) (by omega) (gd_gsf m D ha hb (by omega) (by omega)) gsf_nil ((t_far m D ha hb).mono (by decide)) ((t_pat m D ha hb).mono (by decide)) ((t_lea m D ha hb (by have := gsf_len (one := a) (other := b); omega)).mono (by decide)) ((t_farP m D ha hb).mono (by decide)) (f2.mono (by decide)) (f3.mono (by decide))
    ((t_wlk m D ha hb (by omega) (by omega)).mono (by decide)) ((t_nea20 m D (by omega) ra.2).mono (by decide)) (fun gs g => t_sf m D ha hb g) (fun d _ => (t_isP m D d).mono (by decide))
    (fun d hd e => by
      have p := t_pch (P := P) (w := w) (base := base) m D d fun l e => (hd l e).1
      rw [e] at p
      exact (ok_pfoF (k := 3) m ((t_chk m D ha).mono (by decide)) ((t_chk m D hb).mono (by decide)) p D.dPfo).mono (by decide))
    (fun gs hp hl => ⟨(ok_pfoT (k := 3) m ha hb hp ((t_chk m D ha).mono (by decide)) ((t_chk m D hb).mono (by decide)) (t_pchT m D hp hl) ((t_lby m D ha hp hl).mono (by decide)) D.dPfo).mono (by decide), (t_led m D ha hp hl).mono (by decide)⟩) GA D.dPrr
theorem t_fldH {N : Addr} (O : OwnE K mg "NotFittingPatch" N) {a b c : List Str} (ra : Rw14 a) (rb : Rw14 b) (rc : Rw14 c) : ∃ gt z1 z2 z3 A1 A2 A3, FldH P w K mg base 6 N a b c gt z1 z2 z3 A1 A2 A3 := by
  have ha := ra.lns
  have hb := rb.lns
  have hc := rc.lns
  have la := ra.1
  have lb := rb.1
  have lc := rc.1
  refine ⟨gsf a c, dd a c a.length c.length, dd a b a.length b.length, dd b c b.length c.length, Gd a b, Gd b c, fun gs => PatOk gs ∧ gs.length ≤ 900 ∧ tot gs ≤ 100,
    (t_wlk m D ha hb (by omega) (by omega)).mono (by decide), (t_wlk m D hb hc (by omega) (by omega)).mono (by decide), ?_, (t_nea20 m D (by omega) rb.2).mono (by decide), fun g1 g2 d1 d2 => ?_, (t_lea m D ha hc (by have := gsf_len (one := a) (other := c); omega)).mono (by decide),
    (t_farP m D ha hc).mono (by decide), (t_farP m D ha hb).mono (by decide), (t_farP m D hb hc).mono (by decide), dd_tri a b c _ _ _, fun gs h => (t_led m D hb h.1 h.2.1).mono (by decide), fun g1 gs d1 h e => ?_, fun g1 gs mid d1 h e => ?_⟩
  · refine clY_post (ok_wlkA (k := 5) m (fun n h0 hn => (t_drw m D h0 hn).mono (by decide)) (fun ws hl => (ok_jnd (k := 0) m hl D.dJnd).mono (by decide)) D.dWlk) (fun rs h => ?_) fun rs r h hp => ⟨hp.1, ?_⟩
    · obtain ⟨ls, h1, h2, rfl⟩ := h
      exact ⟨ls, c, ⟨by omega, fun s hs => okN_W s (h2 s hs)⟩, hc, by omega, by omega, rfl⟩
    · obtain ⟨ls, h1, h2, rfl⟩ := h
      obtain ⟨_, one, other, e, gs, rfl, hp, hs, hd, ht, hl, hw, hcc⟩ := hp
      have e1 : eL ls = eL one := by
        have := congrArg (fun l : List Sl => l.getD 1 .any) e
        exact Sl.im.inj this
      have e2 : eL c = eL other := by
        have := congrArg (fun l : List Sl => l.getD 2 .any) e
        exact Sl.im.inj this
      have n1 : ls.length = one.length := by
        have := congrArg (fun d : DL.D => match d with | .tup l => l.length | _ => 0) e1
        simpa [eL] using this
      have n2 : c.length = other.length := by
        have := congrArg (fun d : DL.D => match d with | .tup l => l.length | _ => 0) e2
        simpa [eL] using this
      refine ⟨gs, rfl, hp, by omega, ?_⟩
      have := tot_sd (gs := gs)
      rw [hs, hd] at this
      omega
  · have e1 : ledS a g1 = some b := by
      have := ledS_src d1.p.1
      rw [d1.s, d1.e] at this
      exact this
    have e2 : ledS b g2 = some c := by
      have := ledS_src d2.p.1
      rw [d2.s, d2.e] at this
      exact this
    exact ok_fol (k := 5) (t_apl m D ha d1.p (by have := d1.l; omega) e1) (t_apl m D hb d2.p (by have := d2.l; omega) e2) ((t_pat m D ha hc).mono (by decide)) D.dFol
  · have e1 : ledS a g1 = some b := by
      have := ledS_src d1.p.1
      rw [d1.s, d1.e] at this
      exact this
    exact ok_folE (k := 5) (t_apl m D ha d1.p (by have := d1.l; omega) e1) (t_aplE m D O hb h.1 h.2.1 e) ((t_pat m D ha hb).mono (by decide)) D.dFol
  · have e1 : ledS a g1 = some b := by
      have := ledS_src d1.p.1
      rw [d1.s, d1.e] at this
      exact this
    have lm : Lns mid := ⟨by have := ledS_dst e; have := h.2.2; omega, (ledS_ok hb h.1 e).2⟩
    have lm2 := ledS_dst e
    exact ⟨eP (gsf a mid), ok_fol (k := 5) (t_apl m D ha d1.p (by have := d1.l; omega) e1) (t_apl m D hb h.1 h.2.1 e) ((t_pat m D ha lm).mono (by decide)) D.dFol, (t_lea m D ha lm (by have := gsf_len (one := a) (other := mid); have := h.2.2; omega)).mono (by decide)⟩
end
theorem ne_ab : ¬ (("a" : Str) = "b") := by decide +kernel
theorem ne_ax : ¬ (("a" : Str) = "x") := by decide +kernel
theorem ne_ac : ¬ (("a" : Str) = "c") := by decide +kernel
theorem ne_bx : ¬ (("b" : Str) = "x") := by decide +kernel
theorem ne_bc : ¬ (("b" : Str) = "c") := by decide +kernel
theorem ne_cb : ¬ (("c" : Str) = "b") := by decide +kernel
theorem ne_cx : ¬ (("c" : Str) = "x") := by decide +kernel
theorem dd_k : dd ["a", "b", "c"] ["b", "x", "c"] 3 3 = 2 := by
  simp [dd, ne_ab, ne_ax, ne_ac, ne_bx, ne_bc, ne_cb, ne_cx]
  omega
theorem btr_k : (btr ["a", "b", "c"] ["b", "x", "c"] 3 3).reverse = [Ed.drop "a", Ed.keep "b", Ed.put "x", Ed.keep "c"] := by
  simp [btr, dd, ne_ab, ne_ax, ne_ac, ne_bx, ne_bc, ne_cb, ne_cx]
  rw [if_pos (by omega)]
  rfl
theorem gsf_k : eP (gsf ["a", "b", "c"] ["b", "x", "c"]) = dueK := by
  have h : gsf ["a", "b", "c"] ["b", "x", "c"] = jn (srt [Ed.drop "a", Ed.keep "b", Ed.put "x", Ed.keep "c"]) := by
    show jn (srt (btr ["a", "b", "c"] ["b", "x", "c"] 3 3).reverse) = _
    rw [btr_k]
  rw [h]
  rfl
theorem gsf_0 : eP (gsf [] []) = .tup [] := by
  have h : gsf [] [] = jn (srt []) := by
    show jn (srt (btr [] [] 0 0).reverse) = _
    rw [btr]
    rfl
  rw [h]
  rfl
theorem all_mk {w : World} {K : PySem.W.Frag} {h : Heap} {mg : Str → Option Value} {fa f1 c1 P1 f2 c2 P2 L N : Addr} (X : K.In h) (G : h.Ns mainGlobals mg) (hfa : mg "law" = some (.ref fa)) (hT : ∀ y ∈ (["_law_is_applied", "_law_are_followed"] : List Str), ∀ c P, PySem.W.tabIn K y = some (c, P) → h.get? P = some noTab) (S : Sts K f1 c1 P1 f2 c2 P2 L N) :
    ∃ (fd : FuncData) (cs : List (Addr × Addr)), (∀ p ∈ cs, h.get? p.2 = some noTab) ∧ (∀ p ∈ cs, K.lookup p.2 = none) ∧ (∀ p ∈ cs, PySem.W.codeHdIn K p.1 p.2 = true) ∧ (∀ (s : Shared) (v : Value), BindsTo s fd ⟨[v], []⟩ [("script", v)]) ∧ LawT PySem.Challenge.rw_pinforge_k82_whole_least_patches.prog w K mg 10 fa fd "script" 63 cs := by
  have m := S.m X G
  have D := S.dfs X G
  have O := S.own X G
  have t := S.tld X G
  obtain ⟨f, fd, F, hm, kV, doc, pm, an, cdv, ct, e⟩ := S.d35.fn X G
  have e0 := hfa.symm.trans hm
  cases e0
  obtain ⟨fh, fdh, Fh, hmh, hbh⟩ := D.dHnd.ex
  obtain ⟨fd1, F1, kV1, doc1, pm1, an1, ct1, e1⟩ := S.a1.funC
  obtain ⟨fd2, F2, kV2, doc2, pm2, an2, ct2, e2⟩ := S.a2.funC
  refine ⟨fd, [(c1, P1), (c2, P2)], fun p hp => ?_, fun p hp => ?_, fun p hp => ?_, fun s v => by rw [e]; exact .of_eq rfl, fun base _ _ TB => ?_⟩
  · simp only [List.mem_cons, List.not_mem_nil, or_false] at hp
    rcases hp with rfl | rfl
    · exact hT _ (by simp) _ _ S.a1.tab
    · exact hT _ (by simp) _ _ S.a2.tab
  · simp only [List.mem_cons, List.not_mem_nil, or_false] at hp
    rcases hp with rfl | rfl
    · exact S.a1.n
    · exact S.a2.n
  · simp only [List.mem_cons, List.not_mem_nil, or_false] at hp
    rcases hp with rfl | rfl
    · exact S.a1.h
    · exact S.a2.h
  have b1 : Binds K fd1 ["lines", "steps"] [] := F1.fn.binds fun kV doc pm an cdv ct us hl => match us, hl with | [_, _], _ => rfl
  have b2 : Binds K fd2 ["hand", "one", "other", "third"] [] := F2.fn.binds fun kV doc pm an cdv ct us hl => match us, hl with | [_, _, _, _], _ => rfl
  have La : Lns ["a", "b", "c"] := ⟨by decide, by decide +kernel⟩
  have Lb : Lns ["b", "x", "c"] := ⟨by decide, by decide +kernel⟩
  have L0 : Lns [] := ⟨by decide, by decide +kernel⟩
  have GA : ApdOk (fun c => TabC c P1 "_law_is_applied.<locals>.<lambda>") PySem.Challenge.rw_pinforge_k82_whole_least_patches.prog w K mg base 8 := ok_apd (k := 5) m t (fun one gs h1 hp hl => (t_led m D h1 hp hl).mono (by decide)) (fun one gs due h1 hp hl e => t_apl m D h1 hp hl e) (fun one gs h1 hp hl e => t_aplE m D O h1 hp hl e) D.dTld F1 (PySem.W.mg_of X G S.a1.a) b1 (TB (c1, P1) (by simp))
  have GF : FldOk (Blaw P1 P2 "_law_is_applied.<locals>.<lambda>" "_law_are_followed.<locals>.<lambda>") PySem.Challenge.rw_pinforge_k82_whole_least_patches.prog w K mg base 9 := ok_fld (k := 6) m t (fun c h => h.1) (fun c h => h.2.2) (fun one other third r1 r2 r3 => t_fldH m D O r1 r2 r3) D.dTld F2 (PySem.W.mg_of X G S.a2.a) b2 (TB (c2, P2) (by simp))
  have p1 : Fn PySem.Challenge.rw_pinforge_k82_whole_least_patches.prog w K mg base 9 "patch" [eL ["a", "b", "c"], eL ["b", "x", "c"]] (.im dueK) := by
    have := t_pat (P := PySem.Challenge.rw_pinforge_k82_whole_least_patches.prog) (w := w) (base := base) m D La Lb
    rw [gsf_k] at this
    exact this.mono (by decide)
  have p2 : Fn PySem.Challenge.rw_pinforge_k82_whole_least_patches.prog w K mg base 9 "far" [eL ["a", "b", "c"], eL ["b", "x", "c"]] (.im (.int 2)) := by
    have := t_farP (P := PySem.Challenge.rw_pinforge_k82_whole_least_patches.prog) (w := w) (base := base) m D La Lb
    rw [show (["a", "b", "c"] : List Str).length = 3 from rfl, show (["b", "x", "c"] : List Str).length = 3 from rfl, dd_k] at this
    exact this.mono (by decide)
  have p3 : Fn PySem.Challenge.rw_pinforge_k82_whole_least_patches.prog w K mg base 9 "patch" [eL [], eL []] (.im (.tup [])) := by
    have := t_pat (P := PySem.Challenge.rw_pinforge_k82_whole_least_patches.prog) (w := w) (base := base) m D L0 L0
    rw [gsf_0] at this
    exact this.mono (by decide)
  have L := ok_lawT (k := 9) (n := 63) m S.ne ((ok_hndT (k := 0) m Fh).mono (by decide)) hmh Fh.kp hbh p1 p2 p3 ((t_lin (n := 12) m D (by decide)).mono (by decide)) (fun ls h1 h2 => (t_nea m D h1 h2).mono (by decide)) ((t_drw (n := 4) m D (by decide) (by decide)).mono (by decide)) GF (fun a b ra rb => t_prr m D blaw_knd GA ra rb) F
  refine ⟨fun vs H Q E h => ?_, fun A outer s H args us vs Q E hgd hr e0 hbd r h => L.go A outer s H args us vs Q E hgd hr e0 hbd r ?_⟩
  · obtain ⟨a, ns, rfl, _⟩ := h
    rfl
  obtain ⟨a, ns, h1, h2, h3, h4, h5⟩ := h
  exact ⟨a, ns, h1, h2, ⟨h3 (c1, P1) (by simp), h3 (c2, P2) (by simp)⟩, h4, h5⟩
end K84

set_option Elab.async false
set_option linter.all false
set_option maxRecDepth 100000
set_option maxHeartbeats 0
open PySem PySem.W PyProof.Rows
open_top hd82 for PySem.Challenge.rw_pinforge_k82_whole_least_patches

set_option Elab.async false
set_option linter.all false
set_option maxRecDepth 100000
set_option maxHeartbeats 0
/-! M22: k82: the end -/
open PySem PySem.W PyProof.Rows
theorem PySem.Challenge.cw_pinforge_k82_whole_least_patches_holds : PySem.Challenge.rw_pinforge_k82_whole_least_patches.Holds := by
  refine hd82 ?_
  k_fill
  refine DL.walk_ofTG (l := PySem.Challenge.rw_pinforge_k82_whole_least_patches) (n := 63) (k := 10) (x := "script") (names := ["_law_is_applied", "_law_are_followed"]) rfl (by decide) rfl ⟨rfl, by decide, by decide⟩ (by decide +kernel) (fun w h Y => PySem.W.km_in_of Y) ?F
  case F =>
    intro w mg fa h KX G hmg hT
    refine' K84.all_mk (f1 := ?f1) (c1 := ?c1) (P1 := ?P1) (f2 := ?f2) (c2 := ?c2) (P2 := ?P2) (L := ?L) (N := ?N) KX G hmg hT ?S
    case S =>
      refine' K84.Sts.mk ?d0 ?d1 ?d2 ?d3 ?d4 ?d5 ?d6 ?d7 ?d8 ?d9 ?d10 ?d11 ?d12 ?d13 ?d14 ?d15 ?d16 ?d17 ?d18 ?d19 ?d20 ?d21 ?d22 ?d23 ?d24 ?d25 ?d26 ?d27 ?d28 ?d29 ?d30 ?d31 ?d32 ?d33 ?d34 ?d35 ?z0 ?z1 ?z2 ?z3 ?z4 ?z5 ?z6 ?z7 ?z8 ?z9 ?z10 ?z11 ?z12 ?z13 ?z14 ?z15 ?g0 ?g1 ?g2 ?g3 ?a1 ?a2 ?er ?ne
      case d0 => refine' K84.at_mk ?a ?l ?c ?k; (case a => k_is); (case l => k_is); (case c => k_is); (case k => k_is)
      case d1 => refine' K84.at_mk ?a ?l ?c ?k; (case a => k_is); (case l => k_is); (case c => k_is); (case k => k_is)
      case d2 => refine' K84.at_mk ?a ?l ?c ?k; (case a => k_is); (case l => k_is); (case c => k_is); (case k => k_is)
      case d3 => refine' K84.at_mk ?a ?l ?c ?k; (case a => k_is); (case l => k_is); (case c => k_is); (case k => k_is)
      case d4 => refine' K84.at_mk ?a ?l ?c ?k; (case a => k_is); (case l => k_is); (case c => k_is); (case k => k_is)
      case d5 => refine' K84.at_mk ?a ?l ?c ?k; (case a => k_is); (case l => k_is); (case c => k_is); (case k => k_is)
      case d6 => refine' K84.at_mk ?a ?l ?c ?k; (case a => k_is); (case l => k_is); (case c => k_is); (case k => k_is)
      case d7 => refine' K84.at_mk ?a ?l ?c ?k; (case a => k_is); (case l => k_is); (case c => k_is); (case k => k_is)
      case d8 => refine' K84.at_mk ?a ?l ?c ?k; (case a => k_is); (case l => k_is); (case c => k_is); (case k => k_is)
      case d9 => refine' K84.at_mk ?a ?l ?c ?k; (case a => k_is); (case l => k_is); (case c => k_is); (case k => k_is)
      case d10 => refine' K84.at_mk ?a ?l ?c ?k; (case a => k_is); (case l => k_is); (case c => k_is); (case k => k_is)
      case d11 => refine' K84.at_mk ?a ?l ?c ?k; (case a => k_is); (case l => k_is); (case c => k_is); (case k => k_is)
      case d12 => refine' K84.at_mk ?a ?l ?c ?k; (case a => k_is); (case l => k_is); (case c => k_is); (case k => k_is)
      case d13 => refine' K84.at_mk ?a ?l ?c ?k; (case a => k_is); (case l => k_is); (case c => k_is); (case k => k_is)
      case d14 => refine' K84.at_mk ?a ?l ?c ?k; (case a => k_is); (case l => k_is); (case c => k_is); (case k => k_is)
      case d15 => refine' K84.at_mk ?a ?l ?c ?k; (case a => k_is); (case l => k_is); (case c => k_is); (case k => k_is)
      case d16 => refine' K84.at_mk ?a ?l ?c ?k; (case a => k_is); (case l => k_is); (case c => k_is); (case k => k_is)
      case d17 => refine' K84.at_mk ?a ?l ?c ?k; (case a => k_is); (case l => k_is); (case c => k_is); (case k => k_is)
      case d18 => refine' K84.at_mk ?a ?l ?c ?k; (case a => k_is); (case l => k_is); (case c => k_is); (case k => k_is)
      case d19 => refine' K84.at_mk ?a ?l ?c ?k; (case a => k_is); (case l => k_is); (case c => k_is); (case k => k_is)
      case d20 => refine' K84.at_mk ?a ?l ?c ?k; (case a => k_is); (case l => k_is); (case c => k_is); (case k => k_is)
      case d21 => refine' K84.at_mk ?a ?l ?c ?k; (case a => k_is); (case l => k_is); (case c => k_is); (case k => k_is)
      case d22 => refine' K84.at_mk ?a ?l ?c ?k; (case a => k_is); (case l => k_is); (case c => k_is); (case k => k_is)
      case d23 => refine' K84.at_mk ?a ?l ?c ?k; (case a => k_is); (case l => k_is); (case c => k_is); (case k => k_is)
      case d24 => refine' K84.at_mk ?a ?l ?c ?k; (case a => k_is); (case l => k_is); (case c => k_is); (case k => k_is)
      case d25 => refine' K84.at_mk ?a ?l ?c ?k; (case a => k_is); (case l => k_is); (case c => k_is); (case k => k_is)
      case d26 => refine' K84.at_mk ?a ?l ?c ?k; (case a => k_is); (case l => k_is); (case c => k_is); (case k => k_is)
      case d27 => refine' K84.at_mk ?a ?l ?c ?k; (case a => k_is); (case l => k_is); (case c => k_is); (case k => k_is)
      case d28 => refine' K84.at_mk ?a ?l ?c ?k; (case a => k_is); (case l => k_is); (case c => k_is); (case k => k_is)
      case d29 => refine' K84.at_mk ?a ?l ?c ?k; (case a => k_is); (case l => k_is); (case c => k_is); (case k => k_is)
      case d30 => refine' K84.at_mk ?a ?l ?c ?k; (case a => k_is); (case l => k_is); (case c => k_is); (case k => k_is)
      case d31 => refine' K84.at_mk ?a ?l ?c ?k; (case a => k_is); (case l => k_is); (case c => k_is); (case k => k_is)
      case d32 => refine' K84.at_mk ?a ?l ?c ?k; (case a => k_is); (case l => k_is); (case c => k_is); (case k => k_is)
      case d33 => refine' K84.at_mk ?a ?l ?c ?k; (case a => k_is); (case l => k_is); (case c => k_is); (case k => k_is)
      case d34 => refine' K84.at_mk ?a ?l ?c ?k; (case a => k_is); (case l => k_is); (case c => k_is); (case k => k_is)
      case d35 => refine' K84.at_mk ?a ?l ?c ?k; (case a => k_is); (case l => k_is); (case c => k_is); (case k => k_is)
      case z0 => k_is
      case z1 => k_is
      case z2 => k_is
      case z3 => k_is
      case z4 => k_is
      case z5 => k_is
      case z6 => k_is
      case z7 => k_is
      case z8 => k_is
      case z9 => k_is
      case z10 => k_is
      case z11 => k_is
      case z12 => k_is
      case z13 => k_is
      case z14 => k_is
      case z15 => k_is
      case g0 => refine' K84.cni_mk ?a; (case a => k_is)
      case g1 => refine' K84.cns_mk ?a; (case a => k_is)
      case g2 => refine' K84.cns_mk ?a; (case a => k_is)
      case g3 => refine' K84.cns_mk ?a; (case a => k_is)
      case a1 => refine' K84.atT_mk ?a ?l ?c ?k ?t ?t2 ?h ?n; (case a => k_is); (case l => k_is); (case c => k_is); (case k => k_is); (case t => k_is); (case t2 => exact rfl); (case h => kernel_rfl); (case n => kernel_rfl)
      case a2 => refine' K84.atT_mk ?a ?l ?c ?k ?t ?t2 ?h ?n; (case a => k_is); (case l => k_is); (case c => k_is); (case k => k_is); (case t => k_is); (case t2 => exact rfl); (case h => kernel_rfl); (case n => kernel_rfl)
      case er => refine' K84.ErS.mk ?l ?n ?v ?x ?k1 ?k2 ?c ?q ?k ?r1 ?r2; (case l => k_is); (case n => k_is); (case v => k_is); (case x => kts_exm); (case k1 => kit_is); (case k2 => kit_is); (case c => refine' L2.ExcC.mk ?hg ?hk ?hs ?hd ?ha ?hn ?ht ?hm; (case hg => k_is); (case hk => k_is); (case hs => k_is); (case hd => k_is); (case ha => k_is); (case hn => k_is); (case ht => k_is); (case hm => k_is)); (case q => k_exc); (case k => k_is); (case r1 => k_is); (case r2 => k_is)
      case ne => decide
