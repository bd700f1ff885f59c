import PyProof.Rows.All
import Wide.All
import OpenK.AllK
import Wide.FinOn
import HandS.ForMost
import HandS.Style
import HandS.DictComp
import HandS.IsInst
import HandS.Wide
import HandS.Conv
import HandS.TupAny
import PyProof.ReprRoads
import HandS.Zip
import KE.GoesEnum
import PyProof.DictUpdate
import PyProof.AutoSeq1
import HandS.NoneIn
import PyProof.CallFns
import HandS.ForExc
import HandS.ExcIs
import HandS.Lambda
import HandS.EndTab
import HandS.TupMul
import HandS.FStrTup
import PyProof.ReprLen
import PyProof.StrLawsRepr
import PySem.Challenge.RW_pinforge_k85_whole_logs_proofs_and_clash
set_option Elab.async false
set_option linter.all false
set_option maxRecDepth 100000
set_option maxHeartbeats 2000000
/-! DL1: data, slots, environments over the hand layer -/
namespace DL
open PySem PySem.Spec L2

/-! ### data -/
/-- data as it is read off the heap: nothing of addresses -/
inductive D where
  | non | bl (b : Bool) | int (i : Int) | str (s : Str)
  | tup (l : List D) | lst (l : List D) | dct (ks : List Key) (l : List D)

mutual
/-- v reads as the data in the known heap F -/
def Dat (F : Hp) : D → V → Prop
  | .non, v => v = .non
  | .bl b, v => v = .bl b
  | .int i, v => v = .int i
  | .str s, v => v = .str s
  | .tup l, v => ∃ p vs, v = .ref p ∧ F p = some (.tup vs) ∧ Dats F l vs
  | .lst l, v => ∃ p vs, v = .ref p ∧ F p = some (.lst vs) ∧ Dats F l vs
  | .dct ks l, v => ∃ p vs, v = .ref p ∧ F p = some (.dK (ks.zip vs)) ∧ ks.length = l.length ∧ Dats F l vs
def Dats (F : Hp) : List D → List V → Prop
  | [], vs => vs = []
  | d :: r, vs => ∃ v w, vs = v :: w ∧ Dat F d v ∧ Dats F r w
end

def Ex (F H : Hp) : Prop := ∀ a o, F a = some o → H a = some o
theorem Ex.refl (F : Hp) : Ex F F := fun _ _ h => h
theorem Ex.trans {F G H : Hp} (a : Ex F G) (b : Ex G H) : Ex F H := fun x o h => b x o (a x o h)
theorem Ex.new {F : Hp} {p : Addr} {o : HO} (h : F p = none) : Ex F (upd F p o) := fun a u e => by
  rw [upd_ne (ne_of_none e h)]
  exact e
theorem Ex.back {F H : Hp} {p : Addr} (e : Ex F H) (h : H p = none) : F p = none := by
  cases q : F p with
  | none => rfl
  | some o =>
    rw [e p o q] at h
    cases h
theorem Ex.upd {F H : Hp} {p : Addr} {o : HO} (e : Ex F H) : Ex (upd F p o) (L2.upd H p o) := fun a u h => by
  by_cases q : a = p
  · subst q
    rw [upd_same] at h ⊢
    exact h
  · rw [upd_ne q] at h ⊢
    exact e a u h
theorem Ex.mut {F H : Hp} {p : Addr} {o : HO} (e : Ex F H) (h : F p = none) : Ex F (L2.upd H p o) := fun a u ha => by
  rw [upd_ne (ne_of_none ha h)]
  exact e a u ha

mutual
theorem Dat.mono {F G : Hp} (e : Ex F G) : ∀ {d : D} {v : V}, Dat F d v → Dat G d v
  | .non, v, h => h
  | .bl b, v, h => h
  | .int i, v, h => h
  | .str s, v, h => h
  | .tup l, v, h => by
    obtain ⟨p, vs, h1, h2, h3⟩ := h
    exact ⟨p, vs, h1, e _ _ h2, Dats.mono e h3⟩
  | .lst l, v, h => by
    obtain ⟨p, vs, h1, h2, h3⟩ := h
    exact ⟨p, vs, h1, e _ _ h2, Dats.mono e h3⟩
  | .dct ks l, v, h => by
    obtain ⟨p, vs, h1, h2, h4, h3⟩ := h
    exact ⟨p, vs, h1, e _ _ h2, h4, Dats.mono e h3⟩
theorem Dats.mono {F G : Hp} (e : Ex F G) : ∀ {l : List D} {vs : List V}, Dats F l vs → Dats G l vs
  | [], vs, h => h
  | d :: r, vs, h => by
    obtain ⟨v, w, h1, h2, h3⟩ := h
    exact ⟨v, w, h1, Dat.mono e h2, Dats.mono e h3⟩
end
section
variable {F : Hp}
theorem Dats.nil : Dats F [] [] := rfl
theorem Dats.cons {d : D} {v : V} {l : List D} {vs : List V} (h : Dat F d v) (t : Dats F l vs) : Dats F (d :: l) (v :: vs) := ⟨v, vs, rfl, h, t⟩
theorem Dats.one {d : D} {v : V} (h : Dat F d v) : Dats F [d] [v] := .cons h .nil
theorem Dats.length : ∀ {l : List D} {vs : List V}, Dats F l vs → l.length = vs.length
  | [], vs, h => by
    have e : vs = [] := h
    rw [e]
    rfl
  | d :: r, vs, h => by
    obtain ⟨v, w, e, _, t⟩ := h
    rw [e]
    show r.length + 1 = w.length + 1
    rw [Dats.length t]
theorem Dats.get : ∀ {l : List D} {vs : List V} {i : Nat} {d : D}, Dats F l vs → l[i]? = some d → ∃ v, vs[i]? = some v ∧ Dat F d v
  | [], _, _, _, _, e => by simp at e
  | d :: r, vs, 0, d', h, e => by
    obtain ⟨v, w, rfl, hd, t⟩ := h
    have e' : d = d' := by simpa using e
    subst e'
    exact ⟨v, rfl, hd⟩
  | d :: r, vs, i + 1, d', h, e => by
    obtain ⟨v, w, rfl, hd, t⟩ := h
    obtain ⟨u, h1, h2⟩ := Dats.get (i := i) t (by simpa using e)
    exact ⟨u, by simpa using h1, h2⟩
theorem Dats.getV : ∀ {l : List D} {vs : List V} {i : Nat} {v : V}, Dats F l vs → vs[i]? = some v → ∃ d, l[i]? = some d ∧ Dat F d v
  | [], vs, _, _, h, e => by
    have e0 : vs = [] := h
    rw [e0] at e
    simp at e
  | d :: r, vs, 0, v', h, e => by
    obtain ⟨v, w, rfl, hd, t⟩ := h
    have e' : v = v' := by simpa using e
    subst e'
    exact ⟨d, rfl, hd⟩
  | d :: r, vs, i + 1, v', h, e => by
    obtain ⟨v, w, rfl, hd, t⟩ := h
    obtain ⟨u, h1, h2⟩ := Dats.getV (i := i) t (by simpa using e)
    exact ⟨u, by simpa using h1, h2⟩
theorem Dats.append : ∀ {l m : List D} {vs ws : List V}, Dats F l vs → Dats F m ws → Dats F (l ++ m) (vs ++ ws)
  | [], m, vs, ws, h, t => by
    have e : vs = [] := h
    rw [e]
    exact t
  | d :: r, m, vs, ws, h, t => by
    obtain ⟨v, w, rfl, hd, q⟩ := h
    exact ⟨v, w ++ ws, rfl, hd, Dats.append q t⟩
theorem Dats.take : ∀ {l : List D} {vs : List V} (n : Nat), Dats F l vs → Dats F (l.take n) (vs.take n)
  | l, vs, 0, h => rfl
  | [], vs, n + 1, h => by
    have e : vs = [] := h
    rw [e]
    rfl
  | d :: r, vs, n + 1, h => by
    obtain ⟨v, w, rfl, hd, q⟩ := h
    exact ⟨v, w.take n, rfl, hd, Dats.take n q⟩
theorem Dats.drop : ∀ {l : List D} {vs : List V} (n : Nat), Dats F l vs → Dats F (l.drop n) (vs.drop n)
  | l, vs, 0, h => h
  | [], vs, n + 1, h => by
    have e : vs = [] := h
    rw [e]
    rfl
  | d :: r, vs, n + 1, h => by
    obtain ⟨v, w, rfl, hd, q⟩ := h
    exact Dats.drop n q
theorem Dats.set : ∀ {l : List D} {vs : List V} (i : Nat) {d : D} {v : V}, Dats F l vs → Dat F d v → Dats F (l.set i d) (vs.set i v)
  | [], vs, i, d, v, h, _ => by
    have e : vs = [] := h
    rw [e]
    rfl
  | d :: r, vs, 0, d', v', h, hd' => by
    obtain ⟨v, w, rfl, hd, q⟩ := h
    exact ⟨v', w, rfl, hd', q⟩
  | d :: r, vs, i + 1, d', v', h, hd' => by
    obtain ⟨v, w, rfl, hd, q⟩ := h
    exact ⟨v, w.set i v', rfl, hd, Dats.set i q hd'⟩
theorem Dats.eraseIdx : ∀ {l : List D} {vs : List V} (i : Nat), Dats F l vs → Dats F (l.eraseIdx i) (vs.eraseIdx i)
  | [], vs, i, h => by
    have e : vs = [] := h
    rw [e]
    rfl
  | d :: r, vs, 0, h => by
    obtain ⟨v, w, rfl, hd, q⟩ := h
    exact q
  | d :: r, vs, i + 1, h => by
    obtain ⟨v, w, rfl, hd, q⟩ := h
    exact ⟨v, w.eraseIdx i, rfl, hd, Dats.eraseIdx i q⟩
theorem Dats.reverse : ∀ {l : List D} {vs : List V}, Dats F l vs → Dats F l.reverse vs.reverse
  | [], vs, h => by
    have e : vs = [] := h
    rw [e]
    rfl
  | d :: r, vs, h => by
    obtain ⟨v, w, rfl, hd, q⟩ := h
    rw [List.reverse_cons, List.reverse_cons]
    exact (Dats.reverse q).append (.one hd)
theorem Dats.ints : ∀ {ns : List Int} {vs : List V}, Dats F (ns.map D.int) vs → vs = ns.map V.int
  | [], vs, h => h
  | n :: r, vs, h => by
    obtain ⟨v, w, rfl, hd, q⟩ := h
    have e : v = .int n := hd
    rw [e, Dats.ints q]
    rfl
theorem Dats.of_ints : ∀ (ns : List Int), Dats F (ns.map D.int) (ns.map V.int)
  | [] => rfl
  | n :: r => ⟨.int n, _, rfl, rfl, Dats.of_ints r⟩
theorem Dats.strs : ∀ {ns : List Str} {vs : List V}, Dats F (ns.map D.str) vs → vs = ns.map V.str
  | [], vs, h => h
  | n :: r, vs, h => by
    obtain ⟨v, w, rfl, hd, q⟩ := h
    have e : v = .str n := hd
    rw [e, Dats.strs q]
    rfl
theorem Dats.of_strs : ∀ (ns : List Str), Dats F (ns.map D.str) (ns.map V.str)
  | [] => rfl
  | n :: r => ⟨.str n, _, rfl, rfl, Dats.of_strs r⟩
end

/-! ### own trees -/
/-- a node of an own tree: a list, a dict, an instance of the class at C -/
inductive Nd where
  | lst | dct (ks : List Key) | ins (C : Addr) (ns : List Str)
def Nd.ho : Nd → Addr → List V → HO
  | .lst, _, vs => .lst vs
  | .dct ks, _, vs => .dK (ks.zip vs)
  | .ins C ns, dx, vs => .ins C dx (ns.zip vs)
def Nd.fits : Nd → Nat → Prop
  | .lst, _ => True
  | .dct ks, n => ks.length = n
  | .ins _ ns, n => ns.length = n
theorem Nd.mut (k : Nd) (dx : Addr) (vs : List V) : Mut (some (k.ho dx vs)) := by cases k <;> trivial
/-- an own tree: known data, or an own node with own trees below -/
inductive O where
  | im (d : D) | nd (k : Nd) (l : List O)
mutual
/-- v reads as the own tree, whose nodes stand at fp -/
def OwnT (F H : Hp) : O → V → List Addr → Prop
  | .im d, v, fp => fp = [] ∧ Dat F d v
  | .nd k l, v, fp => ∃ p dx vs fq, v = .ref p ∧ fp = p :: fq ∧ H p = some (k.ho dx vs) ∧ k.fits l.length ∧ OwnTs F H l vs fq
def OwnTs (F H : Hp) : List O → List V → List Addr → Prop
  | [], vs, fp => vs = [] ∧ fp = []
  | o :: r, vs, fp => ∃ v w f1 f2, vs = v :: w ∧ fp = f1 ++ f2 ∧ OwnT F H o v f1 ∧ OwnTs F H r w f2
end
mutual
theorem OwnT.ne {F H : Hp} : ∀ {o : O} {v : V} {fp : List Addr}, OwnT F H o v fp → ∀ a ∈ fp, H a ≠ none
  | .im d, v, fp, h, a, ha => by
    rw [h.1] at ha
    cases ha
  | .nd k l, v, fp, h, a, ha => by
    obtain ⟨p, dx, vs, fq, _, rfl, h1, _, h2⟩ := h
    rcases List.mem_cons.mp ha with z | z
    · rw [z, h1]
      exact Option.some_ne_none _
    · exact OwnTs.ne h2 a z
theorem OwnTs.ne {F H : Hp} : ∀ {l : List O} {vs : List V} {fp : List Addr}, OwnTs F H l vs fp → ∀ a ∈ fp, H a ≠ none
  | [], vs, fp, h, a, ha => by
    rw [h.2] at ha
    cases ha
  | o :: r, vs, fp, h, a, ha => by
    obtain ⟨v, w, f1, f2, _, rfl, h1, h2⟩ := h
    rcases List.mem_append.mp ha with z | z
    · exact OwnT.ne h1 a z
    · exact OwnTs.ne h2 a z
end
mutual
theorem OwnT.mono {F G H H' : Hp} (e : Ex F G) : ∀ {o : O} {v : V} {fp : List Addr}, OwnT F H o v fp → (∀ a ∈ fp, H' a = H a) → OwnT G H' o v fp
  | .im d, v, fp, h, k => ⟨h.1, h.2.mono e⟩
  | .nd n l, v, fp, h, k => by
    obtain ⟨p, dx, vs, fq, h0, rfl, h1, h3, h2⟩ := h
    exact ⟨p, dx, vs, fq, h0, rfl, by rw [k p (List.mem_cons_self ..)]; exact h1, h3, OwnTs.mono e h2 fun a z => k a (List.mem_cons_of_mem _ z)⟩
theorem OwnTs.mono {F G H H' : Hp} (e : Ex F G) : ∀ {l : List O} {vs : List V} {fp : List Addr}, OwnTs F H l vs fp → (∀ a ∈ fp, H' a = H a) → OwnTs G H' l vs fp
  | [], vs, fp, h, k => h
  | o :: r, vs, fp, h, k => by
    obtain ⟨v, w, f1, f2, h0, rfl, h1, h2⟩ := h
    exact ⟨v, w, f1, f2, h0, rfl, OwnT.mono e h1 fun a z => k a (List.mem_append_left _ z), OwnTs.mono e h2 fun a z => k a (List.mem_append_right _ z)⟩
end
/-- the things that a thing holds -/
def kids : HO → List V
  | .lst vs => vs
  | .dK kvs => kvs.map (·.2)
  | .ins _ _ fs => fs.map (·.2)
  | _ => []
/-- the way from one value down to another one, through things that are none of W -/
def Adr (W : List Addr) (H : Hp) : V → List Nat → V → Prop
  | v, [], w => w = v
  | v, n :: π, w => ∃ p h u, v = .ref p ∧ p ∉ W ∧ H p = some h ∧ (kids h)[n]? = some u ∧ Adr W H u π w
theorem Adr.mono {W : List Addr} {H H' : Hp} (k : ∀ a, H a ≠ none → a ∉ W → H' a = H a) : ∀ {π : List Nat} {v w : V}, Adr W H v π w → Adr W H' v π w
  | [], v, w, h => h
  | n :: π, v, w, h => by
    obtain ⟨p, o, u, h1, h2, h3, h4, h5⟩ := h
    exact ⟨p, o, u, h1, h2, by rw [k p (by rw [h3]; exact Option.some_ne_none _) h2]; exact h3, h4, Adr.mono k h5⟩

/-! ### slots -/
/-- what is known of a slot, or of a value on the way: nothing; known data; an own list or dict of known items, that nobody else has; a look at such; the hand; an own tree; a look at one -/
inductive Sl where
  | any | im (d : D) | own (d : D) | vw (d : D) | hand | deep (v : V) (o : O) | vo (v : V) (π : List Nat) (o : O)
def isv : Sl → Bool
  | .vw _ => true
  | .vo _ _ _ => true
  | _ => false
/-- what is only told of by a word stays -/
def ExtX (H H' : Hp) : Prop := ∀ a φ, H a = some (HO.ext φ) → H' a = some (HO.ext φ)
theorem extx_new {H : Hp} {p : Addr} {o : HO} (hp : H p = none) : ExtX H (upd H p o) := fun a φ h => by
  rw [upd_ne (ne_of_none h hp)]
  exact h
theorem extx_mut {H : Hp} {p : Addr} {o : HO} (hp : ∀ φ, H p ≠ some (HO.ext φ)) : ExtX H (upd H p o) := fun a φ h => by
  rw [upd_ne (fun z => hp φ (by rw [← z]; exact h))]
  exact h
/-- a def's run: what was known, what stood, at the entry; what the run may change of what stood; the hand, what is true of it -/
structure C0 where
  F0 : Hp
  H0 : Hp
  W : List Addr
  hp : Addr
  hok : Hp → Prop
  stab : ∀ H H' : Hp, (∀ a ∈ W, H' a = H a) → ExtX H H' → hok H → hok H'
  wl : ∀ H, hok H → ∀ a ∈ W, H a ≠ none
/-- an own object's content -/
def Own (F H : Hp) (p : Addr) : D → Prop
  | .lst l => ∃ vs, H p = some (.lst vs) ∧ Dats F l vs
  | .dct ks l => ∃ vs, H p = some (.dK (ks.zip vs)) ∧ ks.length = l.length ∧ Dats F l vs
  | _ => False
theorem Own.some {F H : Hp} {p : Addr} {d : D} (h : Own F H p d) : ∃ o, H p = some o ∧ Mut (some o) := by
  cases d with
  | lst l =>
    obtain ⟨vs, h1, _⟩ := h
    exact ⟨_, h1, trivial⟩
  | dct ks l =>
    obtain ⟨vs, h1, _⟩ := h
    exact ⟨_, h1, trivial⟩
  | non => exact h.elim
  | bl => exact h.elim
  | int => exact h.elim
  | str => exact h.elim
  | tup => exact h.elim
theorem Own.ne {F H : Hp} {p : Addr} {d : D} (h : Own F H p d) : H p ≠ none := by
  obtain ⟨o, e, _⟩ := h.some
  rw [e]
  exact fun z => by cases z
theorem Own.mono {F G H H' : Hp} {p : Addr} {d : D} (h : Own F H p d) (e : Ex F G) (k : H' p = H p) : Own G H' p d := by
  cases d with
  | lst l =>
    obtain ⟨vs, h1, h2⟩ := h
    exact ⟨vs, by rw [k]; exact h1, h2.mono e⟩
  | dct ks l =>
    obtain ⟨vs, h1, h3, h2⟩ := h
    exact ⟨vs, by rw [k]; exact h1, h3, h2.mono e⟩
  | non => exact h.elim
  | bl => exact h.elim
  | int => exact h.elim
  | str => exact h.elim
  | tup => exact h.elim
def SlR (c : C0) (F H : Hp) (x : Option V) (fp : List Addr) : Sl → Prop
  | .any => fp = []
  | .im d => fp = [] ∧ ∃ v, x = some v ∧ Dat F d v
  | .own d => ∃ p, fp = [p] ∧ x = some (.ref p) ∧ Own F H p d ∧ F p = none ∧ p ∉ c.W ∧ c.H0 p = none
  | .vw d => fp = [] ∧ ∃ p, x = some (.ref p) ∧ Own F H p d ∧ p ∉ c.W
  | .hand => fp = [] ∧ x = some (.ref c.hp)
  | .deep v o => x = some v ∧ OwnT F H o v fp ∧ fp.Nodup ∧ ∀ a ∈ fp, F a = none ∧ a ∉ c.W ∧ c.H0 a = none
  | .vo v π o => fp = [] ∧ ∃ w fq, x = some w ∧ Adr c.W H v π w ∧ OwnT F H o w fq ∧ ∀ a ∈ fq, a ∉ c.W
section
variable {c : C0} {F F' H H' : Hp} {x : Option V} {fp : List Addr} {s : Sl}
theorem Nd.ho_ext {k : Nd} {dx : Addr} {vs : List V} {φ : Heap → Prop} : k.ho dx vs ≠ HO.ext φ := by
  cases k <;> exact fun z => by cases z
mutual
theorem OwnT.noExt {F H : Hp} : ∀ {o : O} {v : V} {fp : List Addr}, OwnT F H o v fp → ∀ a ∈ fp, ∀ φ, H a ≠ some (HO.ext φ)
  | .im d, v, fp, h, a, ha => by
    rw [h.1] at ha
    cases ha
  | .nd k l, v, fp, h, a, ha => by
    obtain ⟨p, dx, vs, fq, _, rfl, h1, _, h2⟩ := h
    intro φ z
    rcases List.mem_cons.mp ha with y | y
    · rw [y, h1] at z
      exact Nd.ho_ext (Option.some.inj z)
    · exact OwnTs.noExt h2 a y φ z
theorem OwnTs.noExt {F H : Hp} : ∀ {l : List O} {vs : List V} {fp : List Addr}, OwnTs F H l vs fp → ∀ a ∈ fp, ∀ φ, H a ≠ some (HO.ext φ)
  | [], vs, fp, h, a, ha => by
    rw [h.2] at ha
    cases ha
  | o :: r, vs, fp, h, a, ha => by
    obtain ⟨v, w, f1, f2, _, rfl, h1, h2⟩ := h
    rcases List.mem_append.mp ha with z | z
    · exact OwnT.noExt h1 a z
    · exact OwnTs.noExt h2 a z
end
theorem own_noExt {F H : Hp} {p : Addr} {d : D} (h : Own F H p d) (φ : Heap → Prop) : H p ≠ some (HO.ext φ) := by
  intro z
  cases d with
  | lst l =>
    obtain ⟨vs, h1, _⟩ := h
    rw [h1] at z
    cases z
  | dct ks l =>
    obtain ⟨vs, h1, _⟩ := h
    rw [h1] at z
    cases z
  | non => exact h.elim
  | bl => exact h.elim
  | int => exact h.elim
  | str => exact h.elim
  | tup => exact h.elim
theorem SlR.noExt (r : SlR c F H x fp s) {a : Addr} (ha : a ∈ fp) : ∀ φ, H a ≠ some (HO.ext φ) := by
  cases s with
  | any => rw [show fp = [] from r] at ha; cases ha
  | im d => rw [r.1] at ha; cases ha
  | vw d => rw [r.1] at ha; cases ha
  | hand => rw [r.1] at ha; cases ha
  | vo v π o => rw [r.1] at ha; cases ha
  | own d =>
    obtain ⟨p, rfl, r2, r3, r4, r5, r6⟩ := r
    rw [List.mem_singleton.mp ha]
    exact own_noExt r3
  | deep v o =>
    obtain ⟨r1, r2, r3, r4⟩ := r
    exact r2.noExt a ha
/-- what is own stands, is not known, is not of the hand, and is new -/
theorem SlR.own (r : SlR c F H x fp s) {a : Addr} (ha : a ∈ fp) : H a ≠ none ∧ F a = none ∧ a ∉ c.W ∧ c.H0 a = none := by
  cases s with
  | any => rw [show fp = [] from r] at ha; cases ha
  | im d => rw [r.1] at ha; cases ha
  | vw d => rw [r.1] at ha; cases ha
  | hand => rw [r.1] at ha; cases ha
  | vo v π o => rw [r.1] at ha; cases ha
  | own d =>
    obtain ⟨p, rfl, r2, r3, r4, r5, r6⟩ := r
    rw [List.mem_singleton.mp ha]
    exact ⟨r3.ne, r4, r5, r6⟩
  | deep v o =>
    obtain ⟨r1, r2, r3, r4⟩ := r
    exact ⟨r2.ne a ha, r4 a ha⟩
theorem SlR.mono (r : SlR c F H x fp s) (e : Ex F F') (k : ∀ a, H a ≠ none → a ∉ c.W → (a ∈ fp ∨ isv s = true) → H' a = H a) (hF : ∀ a ∈ fp, F' a = none) : SlR c F' H' x fp s := by
  have r' := r
  cases s with
  | any => exact r
  | im d => exact ⟨r.1, r.2.imp fun v h => ⟨h.1, h.2.mono e⟩⟩
  | hand => exact r
  | vw d =>
    obtain ⟨r1, p, r2, r3, r4⟩ := r
    exact ⟨r1, p, r2, r3.mono e (k p r3.ne r4 (.inr rfl)), r4⟩
  | vo v π o =>
    obtain ⟨r1, w, fq, r2, rA, r3, r4⟩ := r
    exact ⟨r1, w, fq, r2, rA.mono fun a h1 h2 => k a h1 h2 (.inr rfl), r3.mono e fun a ha => k a (r3.ne a ha) (r4 a ha) (.inr rfl), r4⟩
  | own d =>
    obtain ⟨p, r1, r2, r3, r4, r5, r6⟩ := r
    subst r1
    exact ⟨p, rfl, r2, r3.mono e (k p r3.ne r5 (.inl (List.mem_cons_self ..))), hF p (List.mem_cons_self ..), r5, r6⟩
  | deep v o =>
    obtain ⟨r1, r2, r3, r4⟩ := r
    exact ⟨r1, r2.mono e fun a ha => k a (r2.ne a ha) (r4 a ha).2.1 (.inl ha), r3, fun a ha => ⟨hF a ha, (r4 a ha).2⟩⟩
end
structure EnvR (c : C0) (F H : Hp) (σ : L2.St) (Γ : List Sl) : Prop where
  len : σ.length = Γ.length
  ex0 : Ex c.F0 F
  ex : Ex F H
  gr : ∀ a o, F a = some o → c.F0 a = some o ∨ c.H0 a = none
  fr : ∀ a o, c.H0 a = some o → a ∉ c.W → H a = some o
  nw : ∀ a ∈ c.W, F a = none
  hk : c.hok H
  sl : ∃ fp : Nat → List Addr, (∀ (i : Nat) (s : Sl), Γ[i]? = some s → ∃ x, σ[i]? = some x ∧ SlR c F H x (fp i) s) ∧ ∀ i j p, p ∈ fp i → p ∈ fp j → i = j ∧ i < Γ.length
/-- how what is known may grow -/
def Gr (F H F' : Hp) : Prop := Ex F F' ∧ ∀ a o, F' a = some o → F a = some o ∨ H a = none
theorem Gr.refl (F H : Hp) : Gr F H F := ⟨Ex.refl F, fun _ _ h => .inl h⟩
/-- what stood stands, but for W -/
def Keep (W : List Addr) (H H' : Hp) : Prop := ∀ a o, H a = some o → a ∉ W → H' a = some o
theorem Keep.refl (W : List Addr) (H : Hp) : Keep W H H := fun _ _ h _ => h
theorem Keep.eq {W : List Addr} {H H' : Hp} (k : Keep W H H') {a : Addr} (h : H a ≠ none) (w : a ∉ W) : H' a = H a := by
  cases e : H a with
  | none => exact absurd e h
  | some o => exact k a o e w

section
variable {c : C0} {F H F' H' : Hp} {σ : L2.St} {Γ : List Sl}
theorem EnvR.wne (E : EnvR c F H σ Γ) {a : Addr} (h : a ∈ c.W) : H a ≠ none := c.wl H E.hk a h
/-- THE STEP: what is known grows, what stood stays but for the hand -/
theorem EnvR.step (E : EnvR c F H σ Γ) (g : Gr F H F') (e : Ex F' H') (k : Keep c.W H H') (hk : c.hok H') : EnvR c F' H' σ Γ where
  len := E.len
  ex0 := E.ex0.trans g.1
  ex := e
  gr := fun a o h => by
    rcases g.2 a o h with z | z
    · exact E.gr a o z
    · right
      cases q : c.H0 a with
      | none => rfl
      | some u =>
        by_cases w : a ∈ c.W
        · exact absurd z (E.wne w)
        · rw [E.fr a u q w] at z
          cases z
  fr := fun a o h w => k a o (E.fr a o h w) w
  nw := fun a w => by
    cases q : F' a with
    | none => rfl
    | some o =>
      rcases g.2 a o q with z | z
      · rw [E.nw a w] at z
        cases z
      · exact absurd z (E.wne w)
  hk := hk
  sl := by
    obtain ⟨fp, h1, h2⟩ := E.sl
    refine ⟨fp, fun i s hs => ?_, h2⟩
    obtain ⟨x, hx, r⟩ := h1 i s hs
    refine ⟨x, hx, r.mono g.1 (fun a hn w _ => k.eq hn w) fun a ha => ?_⟩
    obtain ⟨o1, o2, o3, o4⟩ := r.own ha
    cases q : F' a with
    | none => rfl
    | some o =>
      rcases g.2 a o q with z | z
      · rw [o2] at z
        cases z
      · exact absurd z o1
/-- a value comes on top, with what it owns, that no slot has -/
theorem EnvR.pushF (E : EnvR c F H σ Γ) {x : Option V} {s : Sl} {f0 : List Addr} (h : SlR c F H x f0 s) (hd : ∀ fp : Nat → List Addr, (∀ (i : Nat) (s : Sl), Γ[i]? = some s → ∃ x, σ[i]? = some x ∧ SlR c F H x (fp i) s) → ∀ i, i < Γ.length → ∀ a ∈ f0, a ∉ fp i) : EnvR c F H (x :: σ) (s :: Γ) where
  len := by simp [E.len]
  ex0 := E.ex0
  ex := E.ex
  gr := E.gr
  fr := E.fr
  nw := E.nw
  hk := E.hk
  sl := by
    obtain ⟨fp, h1, h2⟩ := E.sl
    have hd := hd fp h1
    refine ⟨fun n => match n with | 0 => f0 | n + 1 => fp n, fun i t hs => ?_, fun i j p e1 e2 => ?_⟩
    · cases i with
      | zero =>
        have e : t = s := by simpa using hs.symm
        subst e
        exact ⟨x, rfl, h⟩
      | succ i =>
        obtain ⟨x, hx, r⟩ := h1 i t (by simpa using hs)
        exact ⟨x, by simpa using hx, r⟩
    · cases i with
      | zero =>
        cases j with
        | zero => exact ⟨rfl, by simp⟩
        | succ j =>
          have e2' : p ∈ fp j := e2
          exact absurd e2' (hd j (h2 j j p e2' e2').2 p e1)
      | succ i =>
        have e1' : p ∈ fp i := e1
        cases j with
        | zero => exact absurd e1' (hd i (h2 i i p e1' e1').2 p e2)
        | succ j =>
          obtain ⟨z1, z2⟩ := h2 i j p e1 e2
          exact ⟨by rw [z1], by simpa using z2⟩
/-- anything that owns nothing comes on top -/
theorem EnvR.pushS (E : EnvR c F H σ Γ) {x : Option V} {s : Sl} (h : SlR c F H x [] s) : EnvR c F H (x :: σ) (s :: Γ) := E.pushF h fun fp _ i _ a ha => by cases ha
/-- a value of known data comes on top -/
theorem EnvR.push (E : EnvR c F H σ Γ) {d : D} {v : V} (h : Dat F d v) : EnvR c F H (some v :: σ) (.im d :: Γ) := E.pushS ⟨rfl, v, rfl, h⟩
/-- any value, nothing of it -/
theorem EnvR.pushAny (E : EnvR c F H σ Γ) (x : Option V) : EnvR c F H (x :: σ) (.any :: Γ) := E.pushS rfl
/-- a new own object comes on top -/
theorem EnvR.pushOwn (E : EnvR c F H σ Γ) {d : D} {p : Addr} {o : HO} (hp : H p = none) (h : Own F (upd H p o) p d) : EnvR c F (upd H p o) (some (.ref p) :: σ) (.own d :: Γ) := by
  have hpW : p ∉ c.W := fun w => E.wne w hp
  have hF : F p = none := E.ex.back hp
  have E1 : EnvR c F (upd H p o) σ Γ := E.step (Gr.refl F H) (E.ex.mut hF) (fun a u ha _ => by rw [upd_ne (ne_of_none ha hp)]; exact ha)
    (c.stab H _ (fun a w => upd_ne (fun z => hpW (by rw [← z]; exact w))) (extx_new hp) E.hk)
  have h0 : c.H0 p = none := by
    cases q : c.H0 p with
    | none => rfl
    | some u =>
      rw [E.fr p u q hpW] at hp
      cases hp
  obtain ⟨fp, h1, h2⟩ := E.sl
  have hl := E.len
  -- the footprints are those that stood
  refine { len := by simp [E1.len], ex0 := E1.ex0, ex := E1.ex, gr := E1.gr, fr := E1.fr, nw := E1.nw, hk := E1.hk, sl := ?_ }
  refine ⟨fun n => match n with | 0 => [p] | n + 1 => fp n, fun i t hs => ?_, fun i j q e1 e2 => ?_⟩
  · cases i with
    | zero =>
      have e : t = .own d := by simpa using hs.symm
      subst e
      exact ⟨some (.ref p), rfl, p, rfl, rfl, h, hF, hpW, h0⟩
    | succ i =>
      obtain ⟨x, hx, r⟩ := h1 i t (by simpa using hs)
      exact ⟨x, by simpa using hx, r.mono (Ex.refl F) (fun a hn _ _ => upd_ne fun z => hn (by rw [z]; exact hp)) fun a ha => (r.own ha).2.1⟩
  · have fresh : ∀ i, p ∉ fp i := fun i ha => by
      obtain ⟨_, hi⟩ := h2 i i p ha ha
      obtain ⟨x, _, r⟩ := h1 i Γ[i] (by simp [hi])
      exact (r.own ha).1 hp
    cases i with
    | zero =>
      have e1' : q = p := List.mem_singleton.mp e1
      cases j with
      | zero => exact ⟨rfl, by simp⟩
      | succ j =>
        have e2' : q ∈ fp j := e2
        rw [e1'] at e2'
        exact absurd e2' (fresh j)
    | succ i =>
      have e1' : q ∈ fp i := e1
      cases j with
      | zero =>
        have e2' : q = p := List.mem_singleton.mp e2
        rw [e2'] at e1'
        exact absurd e1' (fresh i)
      | succ j =>
        obtain ⟨z1, z2⟩ := h2 i j q e1 e2
        exact ⟨by rw [z1], by simpa using z2⟩
/-- a new tuple comes on top -/
theorem EnvR.pushTup (E : EnvR c F H σ Γ) {l : List D} {vs : List V} {p : Addr} (hp : H p = none) (h : Dats F l vs) : EnvR c (upd F p (.tup vs)) (upd H p (.tup vs)) (some (.ref p) :: σ) (.im (.tup l) :: Γ) := by
  have hpW : p ∉ c.W := fun w => E.wne w hp
  have hF : F p = none := E.ex.back hp
  have E1 : EnvR c (upd F p (.tup vs)) (upd H p (.tup vs)) σ Γ := E.step ⟨Ex.new hF, fun a u ha => by
      by_cases q : a = p
      · exact .inr (by rw [q]; exact hp)
      · rw [upd_ne q] at ha
        exact .inl ha⟩ E.ex.upd (fun a u ha _ => by rw [upd_ne (ne_of_none ha hp)]; exact ha)
    (c.stab H _ (fun a w => upd_ne (fun z => hpW (by rw [← z]; exact w))) (extx_new hp) E.hk)
  exact E1.push (d := .tup l) ⟨p, vs, rfl, upd_same, h.mono (Ex.new hF)⟩
/-- the top goes -/
theorem EnvR.pop {x : Option V} {s : Sl} (E : EnvR c F H (x :: σ) (s :: Γ)) : EnvR c F H σ Γ where
  len := by simpa using E.len
  ex0 := E.ex0
  ex := E.ex
  gr := E.gr
  fr := E.fr
  nw := E.nw
  hk := E.hk
  sl := by
    obtain ⟨fp, h1, h2⟩ := E.sl
    have h1' : ∀ (i : Nat) (s : Sl), Γ[i]? = some s → ∃ x, σ[i]? = some x ∧ SlR c F H x (fp (i + 1)) s := fun i s hs => by
      obtain ⟨x, hx, r⟩ := h1 (i + 1) s (by simpa using hs)
      exact ⟨x, by simpa using hx, r⟩
    refine ⟨fun n => fp (n + 1), h1', fun i j p e1 e2 => ?_⟩
    obtain ⟨z1, z2⟩ := h2 (i + 1) (j + 1) p e1 e2
    exact ⟨by omega, by simpa using z2⟩
theorem EnvR.get (E : EnvR c F H σ Γ) {i : Nat} {s : Sl} (h : Γ[i]? = some s) : ∃ x o, σ[i]? = some x ∧ SlR c F H x o s := by
  obtain ⟨fp, h1, _⟩ := E.sl
  obtain ⟨x, hx, r⟩ := h1 i s h
  exact ⟨x, fp i, hx, r⟩
theorem EnvR.im (E : EnvR c F H σ Γ) {i : Nat} {d : D} (h : Γ[i]? = some (.im d)) : ∃ v, σ[i]? = some (some v) ∧ Dat F d v := by
  obtain ⟨x, o, hx, _, v, hv, r⟩ := E.get h
  exact ⟨v, by rw [hx, hv], r⟩
theorem EnvR.own (E : EnvR c F H σ Γ) {i : Nat} {d : D} (h : Γ[i]? = some (.own d)) : ∃ p, σ[i]? = some (some (.ref p)) ∧ Own F H p d ∧ F p = none ∧ p ∉ c.W ∧ c.H0 p = none := by
  obtain ⟨x, o, hx, p, _, hv, r⟩ := E.get h
  exact ⟨p, by rw [hx, hv], r⟩
theorem EnvR.hand (E : EnvR c F H σ Γ) {i : Nat} (h : Γ[i]? = some .hand) : σ[i]? = some (some (.ref c.hp)) := by
  obtain ⟨x, o, hx, _, hv⟩ := E.get h
  rw [hx, hv]
/-- no looks left -/
def NV (Γ : List Sl) : Prop := ∀ s ∈ Γ, isv s = false
theorem NV.nil : NV [] := fun _ h => by cases h
theorem NV.cons {s : Sl} (h1 : isv s = false) (h : NV Γ) : NV (s :: Γ) := fun t ht => by
  rcases List.mem_cons.mp ht with z | z
  · rw [z]
    exact h1
  · exact h t z
theorem NV.set {i : Nat} {s : Sl} (h1 : isv s = false) (h : NV Γ) : NV (Γ.set i s) := fun t ht => by
  rcases List.mem_or_eq_of_mem_set ht with z | z
  · exact h t z
  · rw [z]
    exact h1
theorem nv_of {r : Sl} (h : isv r = false) : isv r = false := h
/-- the top's value goes into a slot -/
theorem EnvR.store {x : Option V} {s : Sl} {i : Nat} (E : EnvR c F H (x :: σ) (s :: Γ)) (hi : i < Γ.length) : EnvR c F H (σ.set i x) (Γ.set i s) where
  len := by
    have := E.len
    simpa using this
  ex0 := E.ex0
  ex := E.ex
  gr := E.gr
  fr := E.fr
  nw := E.nw
  hk := E.hk
  sl := by
    obtain ⟨fp, h1, h2⟩ := E.sl
    have hl : σ.length = Γ.length := by simpa using E.len
    refine ⟨fun n => if n = i then fp 0 else fp (n + 1), fun j t ht => ?_, fun j k p e1 e2 => ?_⟩
    · by_cases q : j = i
      · subst q
        rw [List.getElem?_set_self hi] at ht
        cases ht
        obtain ⟨y, hy, r⟩ := h1 0 s rfl
        have ey : x = y := by simpa using hy
        subst ey
        refine ⟨x, List.getElem?_set_self (by omega), ?_⟩
        dsimp only
        rw [if_pos rfl]
        exact r
      · rw [List.getElem?_set_ne (Ne.symm q)] at ht
        obtain ⟨y, hy, r⟩ := h1 (j + 1) t (by simpa using ht)
        refine ⟨y, by rw [List.getElem?_set_ne (Ne.symm q)]; simpa using hy, ?_⟩
        dsimp only
        rw [if_neg q]
        exact r
    · have e1 : p ∈ (if j = i then fp 0 else fp (j + 1)) := e1
      have e2 : p ∈ (if k = i then fp 0 else fp (k + 1)) := e2
      rw [List.length_set]
      by_cases q : j = i
      · rw [if_pos q] at e1
        by_cases q' : k = i
        · exact ⟨by rw [q, q'], by rw [q]; exact hi⟩
        · rw [if_neg q'] at e2
          have z := (h2 0 (k + 1) p e1 e2).1
          omega
      · rw [if_neg q] at e1
        by_cases q' : k = i
        · rw [if_pos q'] at e2
          have z := (h2 (j + 1) 0 p e1 e2).1
          omega
        · rw [if_neg q'] at e2
          obtain ⟨z1, z2⟩ := h2 (j + 1) (k + 1) p e1 e2
          exact ⟨by omega, by simpa using z2⟩
/-- a slot is forgotten -/
theorem EnvR.forget {i : Nat} (E : EnvR c F H σ Γ) (hi : i < Γ.length) (x : Option V) : EnvR c F H (σ.set i x) (Γ.set i .any) := (E.pushAny x).store hi
/-- a slot's value as it stands, what is known of it forgotten -/
theorem EnvR.weaken {i : Nat} (E : EnvR c F H σ Γ) (hi : i < Γ.length) : EnvR c F H σ (Γ.set i .any) := by
  have hl : i < σ.length := by rw [E.len]; exact hi
  have h := E.forget hi (σ[i]'hl)
  rw [List.set_getElem_self] at h
  exact h
/-- what a slot owns becomes known, to the last; what is known of the slot changes with it -/
theorem EnvR.know {i : Nat} {s t : Sl} {G : Hp} (E : EnvR c F H σ Γ) (h : Γ[i]? = some s) (eF : Ex F G) (eG : Ex G H)
    (hn : ∀ (x : Option V) (fp : List Addr), σ[i]? = some x → SlR c F H x fp s → (∀ a o, G a = some o → F a = some o ∨ a ∈ fp) ∧ SlR c G H x [] t) : EnvR c G H σ (Γ.set i t) := by
  have hi : i < Γ.length := (List.getElem?_eq_some_iff.mp h).1
  obtain ⟨fp, h1, h2⟩ := E.sl
  obtain ⟨x0, hx0, r0⟩ := h1 i s h
  obtain ⟨g1, g2⟩ := hn x0 (fp i) hx0 r0
  exact {
    len := by rw [List.length_set]; exact E.len
    ex0 := E.ex0.trans eF
    ex := eG
    gr := fun a o ha => by
      rcases g1 a o ha with z | z
      · exact E.gr a o z
      · exact .inr (r0.own z).2.2.2
    fr := E.fr
    nw := fun a w => by
      cases q : G a with
      | none => rfl
      | some o =>
        rcases g1 a o q with z | z
        · rw [E.nw a w] at z
          cases z
        · exact absurd w (r0.own z).2.2.1
    hk := E.hk
    sl := by
      refine ⟨fun n => if n = i then [] else fp n, fun j u hu => ?_, fun j k q e1 e2 => ?_⟩
      · by_cases q : j = i
        · subst q
          rw [List.getElem?_set_self hi] at hu
          cases hu
          refine ⟨x0, hx0, ?_⟩
          dsimp only
          rw [if_pos rfl]
          exact g2
        · rw [List.getElem?_set_ne (Ne.symm q)] at hu
          obtain ⟨y, hy, r⟩ := h1 j u hu
          refine ⟨y, hy, ?_⟩
          dsimp only
          rw [if_neg q]
          refine r.mono eF (fun a _ _ _ => rfl) fun a ha => ?_
          cases z : G a with
          | none => rfl
          | some o =>
            rcases g1 a o z with z' | z'
            · rw [(r.own ha).2.1] at z'
              cases z'
            · exact absurd (h2 j i a ha z').1 q
      · have e1 : q ∈ (if j = i then [] else fp j) := e1
        have e2 : q ∈ (if k = i then [] else fp k) := e2
        rw [List.length_set]
        by_cases z : j = i
        · rw [if_pos z] at e1
          cases e1
        · rw [if_neg z] at e1
          by_cases z' : k = i
          · rw [if_pos z'] at e2
            cases e2
          · rw [if_neg z'] at e2
            exact h2 j k q e1 e2 }
/-- an own object is from now on known: it will not change -/
theorem EnvR.freeze {i : Nat} {d : D} (E : EnvR c F H σ Γ) (h : Γ[i]? = some (.own d)) : ∃ F', EnvR c F' H σ (Γ.set i (.im d)) := by
  obtain ⟨p, hp, ho, hF, hW, h0⟩ := E.own h
  obtain ⟨o, eo, mo⟩ := ho.some
  have dat : Dat (upd F p o) d (.ref p) := by
    cases d with
    | lst l =>
      obtain ⟨vs, h1, h2⟩ := ho
      rw [eo] at h1
      refine ⟨p, vs, rfl, by rw [upd_same, h1], h2.mono (Ex.new hF)⟩
    | dct ks l =>
      obtain ⟨vs, h1, h3, h2⟩ := ho
      rw [eo] at h1
      exact ⟨p, vs, rfl, by rw [upd_same, h1], h3, h2.mono (Ex.new hF)⟩
    | non => exact ho.elim
    | bl => exact ho.elim
    | int => exact ho.elim
    | str => exact ho.elim
    | tup => exact ho.elim
  refine ⟨upd F p o, E.know h (Ex.new hF) (fun a u ha => ?_) fun x fp hx r => ?_⟩
  · by_cases q : a = p
    · rw [q, upd_same] at ha
      rw [q, eo]
      exact ha
    · rw [upd_ne q] at ha
      exact E.ex a u ha
  · obtain ⟨q, r1, r2, _⟩ := r
    rw [hp] at hx
    rw [← Option.some.inj hx] at r2
    cases r2
    subst r1
    rw [← Option.some.inj hx]
    refine ⟨fun a u ha => ?_, rfl, .ref p, rfl, dat⟩
    by_cases z : a = p
    · exact .inr (by rw [z]; exact List.mem_cons_self ..)
    · rw [upd_ne z] at ha
      exact .inl ha
/-- what a slot owns is written, and may have more and less to it -/
theorem EnvR.writeF {i : Nat} {s t : Sl} {p : Addr} {o : HO} (E : EnvR c F H σ Γ) (nv : NV Γ) (h : Γ[i]? = some s)
    (hn : ∀ (x : Option V) (fp : List Addr), σ[i]? = some x → SlR c F H x fp s → p ∈ fp ∧ ∃ fp', (∀ a ∈ fp', a ∈ fp) ∧ SlR c F (upd H p o) x fp' t) : EnvR c F (upd H p o) σ (Γ.set i t) := by
  have hi : i < Γ.length := (List.getElem?_eq_some_iff.mp h).1
  obtain ⟨fp, h1, h2⟩ := E.sl
  obtain ⟨x0, hx0, r0⟩ := h1 i s h
  obtain ⟨hp, f0, g1, g2⟩ := hn x0 (fp i) hx0 r0
  obtain ⟨o1, hF, hW, h0⟩ := r0.own hp
  exact {
    len := by rw [List.length_set]; exact E.len
    ex0 := E.ex0
    ex := E.ex.mut hF
    gr := E.gr
    fr := fun a u ha w => by
      rw [upd_ne (fun z => ?_)]
      · exact E.fr a u ha w
      · rw [z, h0] at ha
        cases ha
    nw := E.nw
    hk := c.stab H _ (fun a w => upd_ne (fun z => hW (by rw [← z]; exact w))) (extx_mut (r0.noExt hp)) E.hk
    sl := by
      refine ⟨fun n => if n = i then f0 else fp n, fun j u hu => ?_, fun j k q e1 e2 => ?_⟩
      · by_cases q : j = i
        · subst q
          rw [List.getElem?_set_self hi] at hu
          cases hu
          refine ⟨x0, hx0, ?_⟩
          dsimp only
          rw [if_pos rfl]
          exact g2
        · rw [List.getElem?_set_ne (Ne.symm q)] at hu
          obtain ⟨y, hy, r⟩ := h1 j u hu
          refine ⟨y, hy, ?_⟩
          dsimp only
          rw [if_neg q]
          refine r.mono (Ex.refl F) (fun a _ _ z => upd_ne fun e => ?_) fun a ha => (r.own ha).2.1
          subst e
          rcases z with z | z
          · exact q (h2 j i a z hp).1
          · rw [nv u (List.mem_of_getElem? hu)] at z
            cases z
      · have e1 : q ∈ (if j = i then f0 else fp j) := e1
        have e2 : q ∈ (if k = i then f0 else fp k) := e2
        rw [List.length_set]
        have in' : ∀ n, q ∈ (if n = i then f0 else fp n) → q ∈ fp n := fun n z => by
          by_cases y : n = i
          · rw [if_pos y] at z
            rw [y]
            exact g1 q z
          · rw [if_neg y] at z
            exact z
        exact h2 j k q (in' j e1) (in' k e2) }
/-- an own object's content changes -/
theorem EnvR.write {i : Nat} {d d' : D} {p : Addr} {o : HO} (E : EnvR c F H σ Γ) (nv : NV Γ) (h : Γ[i]? = some (.own d)) (hp : σ[i]? = some (some (.ref p))) (h' : Own F (upd H p o) p d') :
    EnvR c F (upd H p o) σ (Γ.set i (.own d')) := E.writeF nv h fun x fp hx r => by
  obtain ⟨q, r1, r2, r3, r4⟩ := r
  rw [hp] at hx
  rw [← Option.some.inj hx] at r2 ⊢
  cases r2
  subst r1
  exact ⟨List.mem_cons_self .., [p], fun a z => z, p, rfl, rfl, h', r4⟩
end
/-- known from now on -/
def frz : Sl → Sl
  | .own d => .im d
  | s => s
theorem EnvR.frzTop {c : C0} {F H : Hp} {σ : L2.St} {Γ : List Sl} {x : Option V} {s : Sl} (E : EnvR c F H (x :: σ) (s :: Γ)) : ∃ F', EnvR c F' H (x :: σ) (frz s :: Γ) := by
  cases s with
  | own d => exact E.freeze (i := 0) rfl
  | any => exact ⟨F, E⟩
  | im d => exact ⟨F, E⟩
  | vw d => exact ⟨F, E⟩
  | hand => exact ⟨F, E⟩
  | deep v o => exact ⟨F, E⟩
  | vo v π o => exact ⟨F, E⟩
end DL

set_option Elab.async false
set_option linter.all false
set_option maxRecDepth 100000
set_option maxHeartbeats 2000000
/-! DL2: expressions, tests, calls, by what is known of the slots -/
namespace DL
open PySem PySem.Spec L2
section
variable {c : C0} {F H F' H' : Hp} {σ : L2.St} {Γ : List Sl}
/-- what a name's slot gives when it is read -/
def see : Sl → Option Sl
  | .im d => some (.im d)
  | .own d => some (.vw d)
  | .vw d => some (.vw d)
  | .hand => some .hand
  | .deep v o => some (.vo v [] o)
  | .vo v π o => some (.vo v π o)
  | _ => none
theorem EnvR.see (E : EnvR c F H σ Γ) {i : Nat} {s r : Sl} (h : Γ[i]? = some s) (hs : DL.see s = some r) : ∃ v, σ[i]? = some (some v) ∧ SlR c F H (some v) [] r := by
  cases s with
  | any => cases hs
  | vw d =>
    cases hs
    obtain ⟨x, o, hx, h1, p, hp, h2⟩ := E.get h
    exact ⟨.ref p, by rw [hx, hp], rfl, p, rfl, h2⟩
  | im d =>
    cases hs
    obtain ⟨v, h1, h2⟩ := E.im h
    exact ⟨v, h1, rfl, v, rfl, h2⟩
  | own d =>
    cases hs
    obtain ⟨p, h1, h2, h3, h4, h5⟩ := E.own h
    exact ⟨.ref p, h1, rfl, p, rfl, h2, h4⟩
  | hand =>
    cases hs
    exact ⟨.ref c.hp, E.hand h, rfl, rfl⟩
  | vo v π o =>
    cases hs
    obtain ⟨x, f, hx, h1, w, fq, hv, h2⟩ := E.get h
    exact ⟨w, by rw [hx, hv], rfl, w, fq, rfl, h2⟩
  | deep v o =>
    cases hs
    obtain ⟨x, f, hx, hv, h2, _, h3⟩ := E.get h
    exact ⟨v, by rw [hx, hv], rfl, v, f, rfl, rfl, h2, fun a ha => (h3 a ha).2.1⟩
end

/-! ### the weakest readings -/
def WE (X : Cx) (e : Expr) : TE := fun σ H Q => ∀ (pins : List (Addr × Obj)) (s : Shared), Inv X pins σ H s → wpAny (model X.prog X.w) X.A (eval e X.env) (EP X pins σ Q) X.xe s
def WT (X : Cx) (e : Expr) : TT := fun σ H Q => ∀ (pins : List (Addr × Obj)) (s : Shared), Inv X pins σ H s → wpAny (model X.prog X.w) X.A (isTrue e X.env (eval e X.env)) (TP X pins σ Q) X.xe s
def WW (X : Cx) (e : Expr) : TT := fun σ H Q => ∀ (whole : Sem Value) (pins : List (Addr × Obj)) (s : Shared), Inv X pins σ H s → wpAny (model X.prog X.w) X.A (isTrue e X.env whole) (TP X pins σ Q) X.xe s
def WA (X : Cx) (es : List Expr) : TA := fun σ H Q => ∀ (pos : Pos) (pins : List (Addr × Obj)) (s : Shared), Inv X pins σ H s → wpAny (model X.prog X.w) X.A (spliced (backTo pos (starEach es X.env))) (AP X pins σ Q) X.xe s
section
variable {X : Cx} {e : Expr} {es : List Expr}
theorem pe_we : PE X e (WE X e) := ⟨fun pins s σ H Q I h => h pins s I⟩
theorem pt_wt : PT X e (WT X e) := ⟨fun pins s σ H Q I h => h pins s I⟩
theorem pw_ww : PW X e (WW X e) := ⟨fun wh pins s σ H Q I h => h wh pins s I⟩
theorem pa_wa : PA X es (WA X es) := ⟨fun pos pins s σ H Q I h => h pos pins s I⟩
theorem we_of {t : TE} (h : PE X e t) {σ : L2.St} {H : Hp} {Q : VK} (q : t σ H Q) : WE X e σ H Q := fun pins s I => h.run pins s σ H Q I q
theorem wt_of {t : TT} (h : PT X e t) {σ : L2.St} {H : Hp} {Q : Bool → Hp → Prop} (q : t σ H Q) : WT X e σ H Q := fun pins s I => h.run pins s σ H Q I q
theorem ww_of {t : TT} (h : PW X e t) {σ : L2.St} {H : Hp} {Q : Bool → Hp → Prop} (q : t σ H Q) : WW X e σ H Q := fun wh pins s I => h.run wh pins s σ H Q I q
theorem wa_of {t : TA} (h : PA X es t) {σ : L2.St} {H : Hp} {Q : List V → Hp → Prop} (q : t σ H Q) : WA X es σ H Q := fun pos pins s I => h.run pos pins s σ H Q I q
end
/-- a two-place operation, its weakest reading -/
def RW (X : Cx) (f : Value → Value → Sem Value) : R2 := fun x y H Q => ∀ (pins : List (Addr × Obj)) (s : Shared) (σ : L2.St) (u w : Value), Inv X pins σ H s → RelV x u → RelV y w → wpAny (model X.prog X.w) X.A (f u w) (EP X pins σ Q) X.xe s
theorem opr_rw {X : Cx} {f : Value → Value → Sem Value} : OpR X f (RW X f) := fun pins s σ H x y v u Q I rx ry q => q pins s σ v u I rx ry
def UW (X : Cx) (f : Value → Sem Value) : V → Hp → VK → Prop := fun x H Q => ∀ (pins : List (Addr × Obj)) (s : Shared) (σ : L2.St) (u : Value), Inv X pins σ H s → RelV x u → wpAny (model X.prog X.w) X.A (f u) (EP X pins σ Q) X.xe s
theorem unr_uw {X : Cx} {f : Value → Sem Value} : UnR X f (UW X f) := fun pins s σ H x v Q I rx q => q pins s σ v I rx
def CW (X : Cx) (f : Value) : List V → Hp → VK → Prop := fun xs H Q => ∀ (pins : List (Addr × Obj)) (s : Shared) (σ : L2.St) (us : List Value), Inv X pins σ H s → Vals xs us → wpAny (model X.prog X.w) X.A (call f us) (EP X pins σ Q) X.xe s
theorem callr_cw {X : Cx} {f : Value} : CallR X f (CW X f) := fun pins s σ H xs us Q I r q => q pins s σ us I r
def IW (X : Cx) : R2 := fun x y H Q => ∀ (value slice : Expr) (pins : List (Addr × Obj)) (s : Shared) (σ : L2.St) (v u : Value), Inv X pins σ H s → RelV x v → RelV y u → subscripted slice false v u = operate [v, u] (getItem v u) → wpAny (model X.prog X.w) X.A (PyProof.Rows.subscriptTail value slice v u) (EP X pins σ Q) X.xe s
theorem ixr_iw {X : Cx} : IxR X (IW X) := fun value slice pins s σ H x y v u Q I rx ry q hs => q value slice pins s σ v u I rx ry hs

/-! ### what a piece is worth -/
def WPe (X : Cx) (c : C0) (e : Expr) (Γ : List Sl) (K : Sl → Prop) : Prop :=
  ∀ (F H : Hp) (stk : L2.St) (S : List Sl) (σ : L2.St), stk.length = S.length → EnvR c F H (stk ++ σ) (S ++ Γ) → ∀ Q : VK,
    (∀ v r F' H', K r → EnvR c F' H' (some v :: (stk ++ σ)) (r :: (S ++ Γ)) → Q v H') → WE X e σ H Q
def WPt (X : Cx) (c : C0) (e : Expr) (Γ : List Sl) (K : Bool → Prop) : Prop :=
  ∀ (F H : Hp) (stk : L2.St) (S : List Sl) (σ : L2.St), stk.length = S.length → EnvR c F H (stk ++ σ) (S ++ Γ) → ∀ Q : Bool → Hp → Prop,
    (∀ b F' H', K b → EnvR c F' H' (stk ++ σ) (S ++ Γ) → Q b H') → WT X e σ H Q
def WPw (X : Cx) (c : C0) (e : Expr) (Γ : List Sl) (K : Bool → Prop) : Prop :=
  ∀ (F H : Hp) (stk : L2.St) (S : List Sl) (σ : L2.St), stk.length = S.length → EnvR c F H (stk ++ σ) (S ++ Γ) → ∀ Q : Bool → Hp → Prop,
    (∀ b F' H', K b → EnvR c F' H' (stk ++ σ) (S ++ Γ) → Q b H') → WW X e σ H Q
/-- arguments, from the left; own ones are known from then on -/
def WPa (X : Cx) (c : C0) (es : List Expr) (Γ : List Sl) (K : List Sl → Prop) : Prop :=
  ∀ (F H : Hp) (stk : L2.St) (S : List Sl) (σ : L2.St), stk.length = S.length → EnvR c F H (stk ++ σ) (S ++ Γ) → ∀ Q : List V → Hp → Prop,
    (∀ vs rs F' H', K rs → vs.length = rs.length → EnvR c F' H' (vs.reverse.map some ++ (stk ++ σ)) (rs.reverse ++ (S ++ Γ)) → Q vs H') → WA X es σ H Q
def OpD (X : Cx) (c : C0) (f : Value → Value → Sem Value) (ra rb : Sl) (K : Sl → Prop) : Prop :=
  ∀ (F H : Hp) (L : L2.St) (G : List Sl) (x y : V), EnvR c F H (some y :: some x :: L) (rb :: ra :: G) → ∀ Q : VK,
    (∀ v r F' H', K r → EnvR c F' H' (some v :: L) (r :: G) → Q v H') → RW X f x y H Q
def UnD (X : Cx) (c : C0) (f : Value → Sem Value) (ra : Sl) (K : Sl → Prop) : Prop :=
  ∀ (F H : Hp) (L : L2.St) (G : List Sl) (x : V), EnvR c F H (some x :: L) (ra :: G) → ∀ Q : VK,
    (∀ v r F' H', K r → EnvR c F' H' (some v :: L) (r :: G) → Q v H') → UW X f x H Q
def IxD (X : Cx) (c : C0) (ra rb : Sl) (K : Sl → Prop) : Prop :=
  ∀ (F H : Hp) (L : L2.St) (G : List Sl) (x y : V), EnvR c F H (some y :: some x :: L) (rb :: ra :: G) → ∀ Q : VK,
    (∀ v r F' H', K r → EnvR c F' H' (some v :: L) (r :: G) → Q v H') → IW X x y H Q
def CallD (X : Cx) (c : C0) (f : Value) (rs : List Sl) (K : Sl → Prop) : Prop :=
  ∀ (F H : Hp) (L : L2.St) (G : List Sl) (vs : List V), vs.length = rs.length → EnvR c F H (vs.reverse.map some ++ L) (rs.reverse ++ G) → ∀ Q : VK,
    (∀ v r F' H', K r → EnvR c F' H' (some v :: L) (r :: G) → Q v H') → CW X f vs H Q

section
variable {X : Cx} {c : C0} {Γ : List Sl} {K : Sl → Prop} {KB : Bool → Prop} {a b e : Expr} {es : List Expr} {pos : Pos}
theorem WPe.mono {K' : Sl → Prop} (h : WPe X c e Γ K) (k : ∀ r, K r → K' r) : WPe X c e Γ K' := fun F H stk S σ hl E Q q => h F H stk S σ hl E Q fun v r F' H' kr => q v r F' H' (k r kr)
theorem WPt.mono {K' : Bool → Prop} (h : WPt X c e Γ KB) (k : ∀ r, KB r → K' r) : WPt X c e Γ K' := fun F H stk S σ hl E Q q => h F H stk S σ hl E Q fun b F' H' kr => q b F' H' (k b kr)
/-- a value of known data, that changes nothing -/
theorem wp_pure {t : TE} {d : D} {v : V} (h : PE X e t) (hd : ∀ F, Dat F d v) (ht : ∀ σ H (Q : VK), Q v H → t σ H Q) (k : K (.im d)) : WPe X c e Γ K := fun F H stk S σ hl E Q q =>
  we_of h (ht σ H Q (q v (.im d) F H k (E.push (hd F))))
theorem wp_int {i : Int} {j} (k : K (.im (.int i))) : WPe X c (.Constant (.int i) j pos) Γ K := wp_pure (d := .int i) (v := .int i) pe_int (fun _ => rfl) (fun _ _ _ q => q) k
theorem wp_bl {i : Bool} {j} (k : K (.im (.bl i))) : WPe X c (.Constant (.bool i) j pos) Γ K := wp_pure (d := .bl i) (v := .bl i) pe_bl (fun _ => rfl) (fun _ _ _ q => q) k
theorem wp_str {i : Str} {j} (k : K (.im (.str i))) : WPe X c (.Constant (.str i) j pos) Γ K := wp_pure (d := .str i) (v := .str i) pe_str (fun _ => rfl) (fun _ _ _ q => q) k
theorem wp_non {j} (k : K (.im .non)) : WPe X c (.Constant .none j pos) Γ K := wp_pure (d := .non) (v := .non) pe_non (fun _ => rfl) (fun _ _ _ q => q) k
/-- a module's text -/
theorem wp_gstr {x : Str} {s : Str} {t : Tok} (hg : Gl X x) (hm : X.mg x = some (.str s t)) (k : K (.im (.str s))) (hd : (x == ("__debug__" : Str)) = false := by decide) : WPe X c (.Name x pos) Γ K :=
  wp_pure (d := .str s) (v := .str s) (pe_glob (v := .str s) hg hm ⟨t, rfl⟩ hd) (fun _ => rfl) (fun _ _ _ q => q) k
theorem wp_gint {x : Str} {s : Int} {t : Tok} (hg : Gl X x) (hm : X.mg x = some (.int s t)) (k : K (.im (.int s))) (hd : (x == ("__debug__" : Str)) = false := by decide) : WPe X c (.Name x pos) Γ K :=
  wp_pure (d := .int s) (v := .int s) (pe_glob (v := .int s) hg hm ⟨t, rfl⟩ hd) (fun _ => rfl) (fun _ _ _ q => q) k
theorem shift {α : Type} {l m : List α} {n i : Nat} (h : l.length = n) : (l ++ m)[n + i]? = m[i]? := by
  rw [← h, List.getElem?_append_right (by omega)]
  congr 1
  omega
/-- a name in a slot -/
theorem wp_name (i : Nat) {x : Str} {s r : Sl} (h : Γ[i]? = some s) (hs : see s = some r) (k : K r) (hN : X.N[i]? = some x := by rfl)
    (hv : Vis X.env.scope x := by first | exact Or.inl rfl | exact Or.inr (Or.inl rfl) | exact Or.inr (Or.inr rfl)) (hd : (x == ("__debug__" : Str)) = false := by decide) (hcd : (x == ("__classdict__" : Str)) = false := by decide) :
    WPe X c (.Name x pos) Γ K := fun F H stk S σ hl E Q q => by
  have h' : (S ++ Γ)[S.length + i]? = some s := by rw [shift rfl]; exact h
  obtain ⟨v, h1, h2⟩ := E.see h' hs
  rw [shift hl] at h1
  exact we_of (pe_var hN hv hd hcd) ⟨v, h1, q v r F H k (E.pushS h2)⟩
theorem wp_binop {op : Operator} (h : WPe X c a Γ fun ra => WPe X c b Γ fun rb => OpD X c (binaryOp op) (frz ra) (frz rb) K) : WPe X c (.BinOp a op b pos) Γ K := fun F H stk S σ hl E Q q => by
  refine we_of (pe_op opr_rw pe_we pe_we) ?_
  refine h F H stk S σ hl E _ fun x ra F1 H1 k1 E1 => ?_
  obtain ⟨F1, E1⟩ := E1.frzTop
  refine k1 F1 H1 (some x :: stk) (frz ra :: S) σ (by simp [hl]) E1 _ fun y rb F2 H2 k2 E2 => ?_
  obtain ⟨F2, E2⟩ := E2.frzTop
  exact k2 F2 H2 _ _ x y E2 Q fun v r F' H' kr E' => q v r F' H' kr E'
theorem wp_unop {op : UnaryOp} (h : WPe X c a Γ fun ra => UnD X c (unaryOp op) (frz ra) K) : WPe X c (.UnaryOp op a pos) Γ K := fun F H stk S σ hl E Q q => by
  refine we_of (pe_un unr_uw pe_we) ?_
  refine h F H stk S σ hl E _ fun x ra F1 H1 k1 E1 => ?_
  obtain ⟨F1, E1⟩ := E1.frzTop
  exact k1 F1 H1 _ _ x E1 Q fun v r F' H' kr E' => q v r F' H' kr E'
theorem wp_cmp {op : CmpOp} (h : WPe X c a Γ fun ra => WPe X c b Γ fun rb => OpD X c (compareOp op) (frz ra) (frz rb) K) (hm : behindInMarks op b = false := by first | exact nobehind _ (by decide) (by decide) | rfl) : WPe X c (.Compare a [op] [b] pos) Γ K := fun F H stk S σ hl E Q q => by
  refine we_of (pe_cmpR opr_rw pe_we pe_we hm) ?_
  refine h F H stk S σ hl E _ fun x ra F1 H1 k1 E1 => ?_
  obtain ⟨F1, E1⟩ := E1.frzTop
  refine k1 F1 H1 (some x :: stk) (frz ra :: S) σ (by simp [hl]) E1 _ fun y rb F2 H2 k2 E2 => ?_
  obtain ⟨F2, E2⟩ := E2.frzTop
  exact k2 F2 H2 _ _ x y E2 Q fun v r F' H' kr E' => q v r F' H' kr E'
/-- x[i] -/
theorem wp_ix (h : WPe X c a Γ fun ra => WPe X c b Γ fun rb => IxD X c (frz ra) (frz rb) K) (hs : PlainIx b := by exact fun _ _ => rfl) : WPe X c (.Subscript a b pos) Γ K := fun F H stk S σ hl E Q q => by
  refine we_of (pe_ix ixr_iw pe_we pe_we hs) ?_
  refine h F H stk S σ hl E _ fun x ra F1 H1 k1 E1 => ?_
  obtain ⟨F1, E1⟩ := E1.frzTop
  refine k1 F1 H1 (some x :: stk) (frz ra :: S) σ (by simp [hl]) E1 _ fun y rb F2 H2 k2 E2 => ?_
  obtain ⟨F2, E2⟩ := E2.frzTop
  exact k2 F2 H2 _ _ x y E2 Q fun v r F' H' kr E' => q v r F' H' kr E'
theorem wpa_nil {KA : List Sl → Prop} (k : KA []) : WPa X c [] Γ KA := fun F H stk S σ hl E Q q => wa_of pa_nil (q [] [] F H k rfl E)
theorem wpa_cons {KA : List Sl → Prop} (h : WPe X c e Γ fun r => WPa X c es Γ fun rs => KA (frz r :: rs)) (hs : starEach (e :: es) X.env = (false, eval e X.env) :: starEach es X.env := by rfl) : WPa X c (e :: es) Γ KA := fun F H stk S σ hl E Q q => by
  refine wa_of (pa_cons pe_we pa_wa hs) ?_
  refine h F H stk S σ hl E _ fun x r F1 H1 k1 E1 => ?_
  obtain ⟨F1, E1⟩ := E1.frzTop
  refine k1 F1 H1 (some x :: stk) (frz r :: S) σ (by simp [hl]) E1 _ fun vs rs F2 H2 k2 hl2 E2 => ?_
  refine q (x :: vs) (frz r :: rs) F2 H2 k2 (by simp [hl2]) ?_
  simpa [List.append_assoc] using E2
/-- a built-in by its name -/
theorem wp_callB {x : Str} {id : String} {p : Pos} (hm : X.mg x = none) (hv : bootBuiltins x = some (.builtin id)) (h : WPa X c (e :: es) Γ fun rs => CallD X c (.builtin id) rs K) (hg : Gl X x := by rfl) (hn : x ≠ "__name__" := by decide) (hdb : (x == ("__debug__" : Str)) = false := by decide)
    (he : starEach (e :: es) X.env = (false, eval e X.env) :: starEach es X.env := by rfl) (hpl : (backTo pos (starEach es X.env)).any (·.1) = false := by rfl) : WPe X c (.Call (.Name x p) (e :: es) [] pos) Γ K := fun F H stk S σ hl E Q q => by
  refine we_of (pe_callB callr_cw hg hm hv pa_wa hn hdb he hpl) ?_
  exact h F H stk S σ hl E _ fun vs rs F1 H1 k1 hl1 E1 => k1 F1 H1 _ _ vs hl1 E1 Q fun v r F' H' kr E' => q v r F' H' kr E'
theorem wp_callTy {x : Str} {T : String} {p : Pos} (hm : X.mg x = none) (hv : bootBuiltins x = some (.type T)) (h : WPa X c (e :: es) Γ fun rs => CallD X c (.type T) rs K) (hg : Gl X x := by rfl) (hn : x ≠ "__name__" := by decide) (hdb : (x == ("__debug__" : Str)) = false := by decide)
    (he : starEach (e :: es) X.env = (false, eval e X.env) :: starEach es X.env := by rfl) (hpl : (backTo pos (starEach es X.env)).any (·.1) = false := by rfl) : WPe X c (.Call (.Name x p) (e :: es) [] pos) Γ K := fun F H stk S σ hl E Q q => by
  refine we_of (pe_callTy callr_cw hg hm hv pa_wa hn hdb he hpl) ?_
  exact h F H stk S σ hl E _ fun vs rs F1 H1 k1 hl1 E1 => k1 F1 H1 _ _ vs hl1 E1 Q fun v r F' H' kr E' => q v r F' H' kr E'
/-- a display -/
theorem EnvR.dats {F H : Hp} {L : L2.St} {G : List Sl} : ∀ {vs : List V} {ds : List D}, vs.length = ds.length → EnvR c F H (vs.reverse.map some ++ L) ((ds.map Sl.im).reverse ++ G) → EnvR c F H L G ∧ Dats F ds vs := by
  intro vs ds hl E
  have E0 : ∀ (n : Nat) (xs : L2.St) (ss : List Sl), xs.length = n → ss.length = n → EnvR c F H (xs ++ L) (ss ++ G) → EnvR c F H L G := by
    intro n
    induction n with
    | zero =>
      intro xs ss h1 h2 E
      rw [List.length_eq_zero_iff.mp h1, List.length_eq_zero_iff.mp h2] at E
      exact E
    | succ n ih =>
      intro xs ss h1 h2 E
      cases xs with
      | nil => simp at h1
      | cons x xs =>
        cases ss with
        | nil => simp at h2
        | cons s ss => exact ih xs ss (by simpa using h1) (by simpa using h2) E.pop
  refine ⟨E0 vs.length _ _ (by simp) (by simp [hl]) E, ?_⟩
  have key : ∀ i (d : D), ds[i]? = some d → ∃ v, vs[i]? = some v ∧ Dat F d v := fun i d hd => by
    have hi : i < ds.length := (List.getElem?_eq_some_iff.mp hd).1
    have hj : ds.length - 1 - i < ds.length := by omega
    have e1 : ((ds.map Sl.im).reverse ++ G)[ds.length - 1 - i]? = some (.im d) := by
      rw [List.getElem?_append_left (by simpa using hj), List.getElem?_reverse (by simpa using hj)]
      simp only [List.length_map]
      rw [show ds.length - 1 - (ds.length - 1 - i) = i by omega, List.getElem?_map, hd]
      rfl
    obtain ⟨v, hv, r⟩ := E.im e1
    refine ⟨v, ?_, r⟩
    rw [List.getElem?_append_left (by simpa [hl] using hj), List.getElem?_map, List.getElem?_reverse (by rw [hl]; exact hj)] at hv
    rw [show vs.length - 1 - (ds.length - 1 - i) = i by omega] at hv
    cases q : vs[i]? with
    | none =>
      rw [q] at hv
      cases hv
    | some u =>
      rw [q] at hv
      have : u = v := by simpa using hv
      rw [this]
  have gen : ∀ (ds : List D) (vs : List V), vs.length = ds.length → (∀ (i : Nat) (d : D), ds[i]? = some d → ∃ v, vs[i]? = some v ∧ Dat F d v) → Dats F ds vs := by
    intro ds
    induction ds with
    | nil =>
      intro vs h1 _
      exact List.length_eq_zero_iff.mp h1
    | cons d r ih =>
      intro vs h1 h2
      cases vs with
      | nil => simp at h1
      | cons v w =>
        obtain ⟨v', e', hd⟩ := h2 0 d rfl
        have ev : v = v' := by simpa using e'
        refine ⟨v, w, rfl, by rw [ev]; exact hd, ih w (by simpa using h1) fun i d' hd' => ?_⟩
        obtain ⟨u, e2, h3⟩ := h2 (i + 1) d' (by simpa using hd')
        exact ⟨u, by simpa using e2, h3⟩
  exact gen ds vs hl key
theorem wp_tup {x1} (h : WPa X c es Γ fun rs => ∃ ds, rs = ds.map Sl.im ∧ ds.length ≤ sizeLine ∧ K (.im (.tup ds))) : WPe X c (.Tuple es x1 pos) Γ K := fun F H stk S σ hl E Q q => by
  refine we_of (pe_tup pa_wa) ?_
  refine h F H stk S σ hl E _ fun vs rs F1 H1 k1 hl1 E1 => ?_
  obtain ⟨ds, e, hz, k⟩ := k1
  subst e
  have hl2 : vs.length = ds.length := by simpa using hl1
  obtain ⟨E2, hd⟩ := EnvR.dats hl2 E1
  exact ⟨by rw [hl2]; exact hz, fun p hp => q _ _ _ _ k (E2.pushTup hp hd)⟩
theorem wp_lst (h : WPa X c es Γ fun rs => ∃ ds, rs = ds.map Sl.im ∧ ds.length ≤ sizeLine ∧ K (.own (.lst ds))) : WPe X c (.List es pos) Γ K := fun F H stk S σ hl E Q q => by
  refine we_of (pe_lst pa_wa) ?_
  refine h F H stk S σ hl E _ fun vs rs F1 H1 k1 hl1 E1 => ?_
  obtain ⟨ds, e, hz, k⟩ := k1
  subst e
  have hl2 : vs.length = ds.length := by simpa using hl1
  obtain ⟨E2, hd⟩ := EnvR.dats hl2 E1
  exact ⟨by rw [hl2]; exact hz, fun p hp => q _ _ _ _ k (E2.pushOwn hp ⟨vs, upd_same, hd⟩)⟩

/-! ### tests -/
theorem wpt_val (h : WPe X c e Γ fun r => ∃ k, r = .im (.bl k) ∧ KB k) (he : ∀ whole, isTrue e X.env whole = (do let v ← whole; standAt e.pos; holding [v] (truthy v)) := by intro _; rfl) : WPt X c e Γ KB := fun F H stk S σ hl E Q q => by
  refine wt_of (pt_val pe_we he) ?_
  refine h F H stk S σ hl E _ fun x r F1 H1 k1 E1 => ?_
  obtain ⟨k, e, hk⟩ := k1
  subst e
  obtain ⟨v, hv, hd⟩ := E1.im (i := 0) rfl
  have e1 : x = v := by simpa using hv
  have e2 : v = .bl k := hd
  exact ⟨k, by rw [e1, e2], q k F1 H1 hk E1.pop⟩
theorem wpt_cmp {op : CmpOp} (h : WPe X c a Γ fun ra => WPe X c b Γ fun rb => OpD X c (compareOp op) (frz ra) (frz rb) fun r => ∃ k, r = .im (.bl k) ∧ KB k) (hm : behindInMarks op b = false := by first | exact nobehind _ (by decide) (by decide) | rfl) : WPt X c (.Compare a [op] [b] pos) Γ KB := fun F H stk S σ hl E Q q => by
  refine wt_of (pt_cmpR opr_rw pe_we pe_we hm) ?_
  refine h F H stk S σ hl E _ fun x ra F1 H1 k1 E1 => ?_
  obtain ⟨F1, E1⟩ := E1.frzTop
  refine k1 F1 H1 (some x :: stk) (frz ra :: S) σ (by simp [hl]) E1 _ fun y rb F2 H2 k2 E2 => ?_
  obtain ⟨F2, E2⟩ := E2.frzTop
  refine k2 F2 H2 _ _ x y E2 _ fun z r F3 H3 k3 E3 => ?_
  obtain ⟨k, e, hk⟩ := k3
  subst e
  obtain ⟨v, hv, hd⟩ := E3.im (i := 0) rfl
  have e1 : z = v := by simpa using hv
  have e2 : v = .bl k := hd
  exact ⟨k, by rw [e1, e2], q k F3 H3 hk E3.pop⟩
theorem wpw_and1 (h : WPt X c a Γ KB) : WPw X c (.BoolOp .And [a] pos) Γ KB := fun F H stk S σ hl E Q q => ww_of (pw_and1 pt_wt) (h F H stk S σ hl E Q q)
theorem wpw_or1 (h : WPt X c a Γ KB) : WPw X c (.BoolOp .Or [a] pos) Γ KB := fun F H stk S σ hl E Q q => ww_of (pw_or1 pt_wt) (h F H stk S σ hl E Q q)
theorem wpw_and {rest : List Expr} (h : WPt X c a Γ fun x => (x = true → WPw X c (.BoolOp .And (b :: rest) pos) Γ KB) ∧ (x = false → KB false)) : WPw X c (.BoolOp .And (a :: b :: rest) pos) Γ KB := fun F H stk S σ hl E Q q => by
  refine ww_of (pw_and pt_wt pw_ww) ?_
  refine h F H stk S σ hl E _ fun x F1 H1 k1 E1 => ?_
  cases x with
  | true => exact iteT (k1.1 rfl F1 H1 stk S σ hl E1 Q q)
  | false => exact iteF (q false F1 H1 (k1.2 rfl) E1)
theorem wpw_or {rest : List Expr} (h : WPt X c a Γ fun x => (x = true → KB true) ∧ (x = false → WPw X c (.BoolOp .Or (b :: rest) pos) Γ KB)) : WPw X c (.BoolOp .Or (a :: b :: rest) pos) Γ KB := fun F H stk S σ hl E Q q => by
  refine ww_of (pw_or pt_wt pw_ww) ?_
  refine h F H stk S σ hl E _ fun x F1 H1 k1 E1 => ?_
  cases x with
  | true => exact iteT (q true F1 H1 (k1.1 rfl) E1)
  | false => exact iteF (k1.2 rfl F1 H1 stk S σ hl E1 Q q)
theorem wpt_w (h : WPw X c e Γ KB) : WPt X c e Γ KB := fun F H stk S σ hl E Q q => wt_of pw_ww.pt (h F H stk S σ hl E Q q)
theorem wpt_not (h : WPt X c a Γ fun x => KB (!x)) : WPt X c (.UnaryOp .Not a pos) Γ KB := fun F H stk S σ hl E Q q => wt_of (pt_not pt_wt) (h F H stk S σ hl E _ fun x F1 H1 k1 E1 => q (!x) F1 H1 k1 E1)
theorem wp_ifExp {t : Expr} (h : WPt X c t Γ fun x => (x = true → WPe X c a Γ K) ∧ (x = false → WPe X c b Γ K)) : WPe X c (.IfExp t a b pos) Γ K := fun F H stk S σ hl E Q q => by
  refine we_of (pe_ifExp pt_wt pe_we pe_we) ?_
  refine h F H stk S σ hl E _ fun x F1 H1 k1 E1 => ?_
  cases x with
  | true => exact iteT (k1.1 rfl F1 H1 stk S σ hl E1 Q q)
  | false => exact iteF (k1.2 rfl F1 H1 stk S σ hl E1 Q q)
/-- and, or of truth values as a value -/
theorem top_bl {c : C0} {F H : Hp} {x : V} {k : Bool} {L : L2.St} {G : List Sl} (E : EnvR c F H (some x :: L) (.im (.bl k) :: G)) : x = .bl k := by
  obtain ⟨v, hv, hd⟩ := E.im (i := 0) rfl
  have e1 : x = v := by simpa using hv
  have e2 : v = .bl k := hd
  rw [e1, e2]
theorem wp_one {op} (h : WPe X c a Γ K) : WPe X c (.BoolOp op [a] pos) Γ K := fun F H stk S σ hl E Q q => we_of (pe_one pe_we) (h F H stk S σ hl E Q q)
theorem wp_and {rest : List Expr} (h : WPe X c a Γ fun r => ∃ k, r = .im (.bl k) ∧ (k = true → WPe X c (.BoolOp .And (b :: rest) pos) Γ K) ∧ (k = false → K (.im (.bl false)))) : WPe X c (.BoolOp .And (a :: b :: rest) pos) Γ K := fun F H stk S σ hl E Q q => by
  refine we_of (pe_and pe_we pe_we) ?_
  refine h F H stk S σ hl E _ fun x r F1 H1 k1 E1 => ?_
  obtain ⟨k, e, h1, h2⟩ := k1
  subst e
  refine ⟨k, top_bl E1, ?_⟩
  cases k with
  | true => exact iteT (h1 rfl F1 H1 stk S σ hl E1.pop Q q)
  | false => exact iteF (q _ _ F1 H1 (h2 rfl) (E1.pop.push rfl))
theorem wp_or {rest : List Expr} (h : WPe X c a Γ fun r => ∃ k, r = .im (.bl k) ∧ (k = true → K (.im (.bl true))) ∧ (k = false → WPe X c (.BoolOp .Or (b :: rest) pos) Γ K)) : WPe X c (.BoolOp .Or (a :: b :: rest) pos) Γ K := fun F H stk S σ hl E Q q => by
  refine we_of (pe_or pe_we pe_we) ?_
  refine h F H stk S σ hl E _ fun x r F1 H1 k1 E1 => ?_
  obtain ⟨k, e, h1, h2⟩ := k1
  subst e
  refine ⟨k, top_bl E1, ?_⟩
  cases k with
  | true => exact iteT (q _ _ F1 H1 (h1 rfl) (E1.pop.push rfl))
  | false => exact iteF (h2 rfl F1 H1 stk S σ hl E1.pop Q q)
theorem wp_not (h : WPe X c a Γ fun r => ∃ k, r = .im (.bl k) ∧ K (.im (.bl (!k)))) : WPe X c (.UnaryOp .Not a pos) Γ K := fun F H stk S σ hl E Q q => by
  refine we_of (pe_not pe_we) ?_
  refine h F H stk S σ hl E _ fun x r F1 H1 k1 E1 => ?_
  obtain ⟨k, e, h1⟩ := k1
  subst e
  exact ⟨k, top_bl E1, q _ _ F1 H1 h1 (E1.pop.push rfl)⟩
end
end DL

set_option Elab.async false
set_option linter.all false
set_option maxRecDepth 100000
set_option maxHeartbeats 2000000
/-! DL3: statements, loops, defs -/
namespace DL
open PySem PySem.Spec L2
section
variable {c : C0} {F H : Hp} {σ : L2.St} {Γ : List Sl}
/-- the top alone -/
theorem EnvR.only {x : Option V} {s : Sl} (E : EnvR c F H (x :: σ) (s :: Γ)) : EnvR c F H [x] [s] where
  len := rfl
  ex0 := E.ex0
  ex := E.ex
  gr := E.gr
  fr := E.fr
  nw := E.nw
  hk := E.hk
  sl := by
    obtain ⟨fp, h1, h2⟩ := E.sl
    refine ⟨fun n => if n = 0 then fp 0 else [], fun i t ht => ?_, fun i j p e1 e2 => ?_⟩
    · cases i with
      | zero =>
        have e : t = s := by simpa using ht.symm
        subst e
        obtain ⟨y, hy, r⟩ := h1 0 t rfl
        have ey : x = y := by simpa using hy
        subst ey
        exact ⟨x, rfl, r⟩
      | succ i => simp at ht
    · have e1 : p ∈ (if i = 0 then fp 0 else []) := e1
      have e2 : p ∈ (if j = 0 then fp 0 else []) := e2
      by_cases q : i = 0
      · by_cases q' : j = 0
        · exact ⟨by rw [q, q'], by simp [q]⟩
        · rw [if_neg q'] at e2
          cases e2
      · rw [if_neg q] at e1
        cases e1
end
/-- a def's slots, no looks among them -/
structure EnvS (c : C0) (F H : Hp) (σ : L2.St) (Γ : List Sl) : Prop where
  env : EnvR c F H σ Γ
  nv : NV Γ
structure DEnds where
  nx : List Sl → Prop
  rt : Sl → Prop
  bk : List Sl → Prop := fun _ => False
  ct : List Sl → Prop := fun _ => False
structure EndsOk (c : C0) (E : Ends) (D : DEnds) : Prop where
  nx : ∀ Γ F H σ, D.nx Γ → EnvS c F H σ Γ → E.nx σ H
  rt : ∀ r v F H, D.rt r → EnvR c F H [some v] [r] → E.rt v H
  bk : ∀ Γ F H σ, D.bk Γ → EnvS c F H σ Γ → E.bk σ H
  ct : ∀ Γ F H σ, D.ct Γ → EnvS c F H σ Γ → E.ct σ H
def WS (X : Cx) (st : Stmt) : TS := fun D σ H => ∀ (pins : List (Addr × Obj)) (s : Shared), Inv X pins σ H s → wpAny (model X.prog X.w) X.A (exec st X.env) (SP X pins D) X.xe s
def WSs (X : Cx) (sts : List Stmt) : TS := fun D σ H => ∀ (pins : List (Addr × Obj)) (s : Shared), Inv X pins σ H s → wpAny (model X.prog X.w) X.A (execs sts X.env) (SP X pins D) X.xe s
section
variable {X : Cx} {st : Stmt} {sts : List Stmt}
theorem ps_ws : PS X st (WS X st) := ⟨fun pins s σ H D I h => h pins s I⟩
theorem pss_wss : PSs X sts (WSs X sts) := ⟨fun pins s σ H D I h => h pins s I⟩
theorem ws_of {t : TS} (h : PS X st t) {σ : L2.St} {H : Hp} {D : Ends} (q : t D σ H) : WS X st D σ H := fun pins s I => h.run pins s σ H D I q
theorem wss_of {t : TS} (h : PSs X sts t) {σ : L2.St} {H : Hp} {D : Ends} (q : t D σ H) : WSs X sts D σ H := fun pins s I => h.run pins s σ H D I q
end
def WPst (X : Cx) (c : C0) (st : Stmt) (Γ : List Sl) (D : DEnds) : Prop := ∀ (F H : Hp) (σ : L2.St), EnvS c F H σ Γ → ∀ E : Ends, EndsOk c E D → WS X st E σ H
def WPs (X : Cx) (c : C0) (sts : List Stmt) (Γ : List Sl) (D : DEnds) : Prop := ∀ (F H : Hp) (σ : L2.St), EnvS c F H σ Γ → ∀ E : Ends, EndsOk c E D → WSs X sts E σ H
/-- what a slot's knowledge may be weakened to -/
def Le : List Sl → List Sl → Prop
  | [], [] => True
  | s :: Γ, t :: Δ => (t = s ∨ t = .any) ∧ Le Γ Δ
  | _, _ => False
section
variable {X : Cx} {c : C0} {Γ : List Sl} {D : DEnds} {st : Stmt} {rest sts : List Stmt} {e a b : Expr} {pos : Pos} {N : List Str}
theorem WPs.mono {D' : DEnds} (h : WPs X c sts Γ D) (h1 : ∀ Γ, D.nx Γ → D'.nx Γ) (h2 : ∀ r, D.rt r → D'.rt r) (h3 : ∀ Γ, D.bk Γ → D'.bk Γ) (h4 : ∀ Γ, D.ct Γ → D'.ct Γ) : WPs X c sts Γ D' := fun F H σ E Dd ok =>
  h F H σ E Dd ⟨fun Γ F H σ q => ok.nx Γ F H σ (h1 Γ q), fun r v F H q => ok.rt r v F H (h2 r q), fun Γ F H σ q => ok.bk Γ F H σ (h3 Γ q), fun Γ F H σ q => ok.ct Γ F H σ (h4 Γ q)⟩
theorem le_env : ∀ {Γ Δ : List Sl} {c : C0} {F H : Hp} {σ : L2.St}, Le Γ Δ → EnvS c F H σ Γ → EnvS c F H σ Δ := by
  intro Γ Δ c F H σ hl E
  have hlen : ∀ {Γ Δ : List Sl}, Le Γ Δ → Γ.length = Δ.length ∧ ∀ (i : Nat) (s : Sl), Δ[i]? = some s → s = Sl.any ∨ Γ[i]? = some s := by
    intro Γ
    induction Γ with
    | nil =>
      intro Δ h
      cases Δ with
      | nil => exact ⟨rfl, fun i s e => by simp at e⟩
      | cons => exact h.elim
    | cons s Γ ih =>
      intro Δ h
      cases Δ with
      | nil => exact h.elim
      | cons t Δ =>
        obtain ⟨h1, h2⟩ := h
        obtain ⟨l, k⟩ := ih h2
        refine ⟨by simp [l], fun i u e => ?_⟩
        cases i with
        | zero =>
          have e' : t = u := by simpa using e
          rw [← e']
          rcases h1 with z | z
          · right
            rw [z]
            rfl
          · left
            exact z
        | succ i => simpa using k i u (by simpa using e)
  obtain ⟨l, k⟩ := hlen hl
  refine ⟨{ len := by rw [E.env.len, l], ex0 := E.env.ex0, ex := E.env.ex, gr := E.env.gr, fr := E.env.fr, nw := E.env.nw, hk := E.env.hk, sl := ?_ }, fun s hs => ?_⟩
  · obtain ⟨fp, h1, h2⟩ := E.env.sl
    refine ⟨fun i => match Δ[i]? with | some .any => [] | _ => fp i, fun i s hs => ?_, fun i j p e1 e2 => ?_⟩
    · rcases k i s hs with z | z
      · subst z
        have hi : i < σ.length := by rw [E.env.len, l]; exact (List.getElem?_eq_some_iff.mp hs).1
        refine ⟨σ[i], by simp [hi], ?_⟩
        show (match Δ[i]? with | some .any => [] | _ => fp i) = []
        rw [hs]
      · obtain ⟨x, hx, r⟩ := h1 i s z
        refine ⟨x, hx, ?_⟩
        have e : (match Δ[i]? with | some .any => [] | _ => fp i) = (match some s with | some .any => [] | _ => fp i) := by rw [hs]
        show SlR c F H x (match Δ[i]? with | some .any => [] | _ => fp i) s
        rw [e]
        cases s with
        | any => rfl
        | im d => exact r
        | own d => exact r
        | vw d => exact r
        | hand => exact r
        | deep v o => exact r
        | vo v π o => exact r
    · have key : ∀ i q, q ∈ (match Δ[i]? with | some .any => [] | _ => fp i) → q ∈ fp i := fun i q z => by
        split at z
        · cases z
        · exact z
      have z := h2 i j p (key i p e1) (key j p e2)
      rw [← l]
      exact z
  · obtain ⟨i, hi⟩ := List.mem_iff_getElem?.mp hs
    rcases k i s hi with z | z
    · rw [z]
      rfl
    · exact E.nv s (List.mem_of_getElem? z)
theorem WPs.le {Δ : List Sl} (h : WPs X c sts Δ D) (l : Le Γ Δ) : WPs X c sts Γ D := fun F H σ E Dd ok => h F H σ (le_env l E) Dd ok
theorem wps_nil (h : D.nx Γ) : WPs X c [] Γ D := fun F H σ E Dd ok => wss_of pss_nil (ok.nx Γ F H σ h E)
theorem wps_cons (h : WPst X c st Γ { D with nx := fun Γ' => WPs X c rest Γ' D }) : WPs X c (st :: rest) Γ D := fun F H σ E Dd ok => by
  refine wss_of (pss_cons ps_ws pss_wss) ?_
  exact h F H σ E _ ⟨fun Γ' F' H' σ' q E' => q F' H' σ' E' Dd ok, ok.rt, ok.bk, ok.ct⟩
/-- x = e -/
theorem wst_set (i : Nat) {x : Str} {pos' : Pos} (hN : X.N.Nodup) (h : WPe X c e Γ fun r => isv r = false ∧ D.nx (Γ.set i r)) (hl : i < Γ.length := by exact Nat.le_of_ble_eq_true rfl) (hi : X.N[i]? = some x := by rfl) (hx : Loc X.env.scope x := by first | exact Or.inl rfl | exact Or.inr rfl)
    (hs : swapsWith e (some (.Name x pos')) pos.line X.env = pure false := by rfl) (hf : X.fn x = true ∨ X.env.scope.names.lookup x = some .local := by first | exact .inl rfl | exact .inr rfl) : WPst X c (.Assign [.Name x pos'] e pos) Γ D := fun F H σ E Dd ok => by
  refine ws_of (ps_set hN hi hx pe_we hs hf) ?_
  refine h F H [] [] σ rfl E.env _ fun v r F' H' k E' => ?_
  exact ok.nx _ F' H' _ k.2 ⟨EnvR.store (Γ := Γ) (σ := σ) E' hl, E.nv.set (nv_of k.1)⟩
/-- x, y = a, b -/
theorem wst_par (i j : Nat) {x y : Str} {px py : Pos} {kt k2 pt pt2} (hc : X.calm = true) (hN : X.N.Nodup) (hij : i ≠ j) (h : WPe X c a Γ fun ra => WPe X c b Γ fun rb => isv ra = false ∧ isv rb = false ∧ D.nx ((Γ.set i ra).set j rb)) (hl : i < Γ.length := by exact Nat.le_of_ble_eq_true rfl) (hl2 : j < Γ.length := by exact Nat.le_of_ble_eq_true rfl) (hi : X.N[i]? = some x := by rfl) (hj : X.N[j]? = some y := by rfl)
    (hx : X.env.scope.names.lookup x = some .local := by rfl) (hy : X.env.scope.names.lookup y = some .local := by rfl)
    (hw : swappedStores [.Tuple [.Name x px, .Name y py] kt pt] (.Tuple [a, b] k2 pt2) X.env = pure (some [x, y]) := by rfl)
    (hs : swapsWithSole [.Tuple [.Name x px, .Name y py] kt pt] (.Tuple [a, b] k2 pt2) pos.line X.env = pure false := by rfl)
    (hsa : starEach [a, b] X.env = (false, eval a X.env) :: starEach [b] X.env := by rfl) (hsb : starEach [b] X.env = (false, eval b X.env) :: starEach [] X.env := by rfl) :
    WPst X c (.Assign [.Tuple [.Name x px, .Name y py] kt pt] (.Tuple [a, b] k2 pt2) pos) Γ D := fun F H σ E Dd ok => by
  refine ws_of (ps_par hc hN hi hj hij hx hy (pa_cons pe_we (pa_cons pe_we pa_nil hsb) hsa) hw hs) ?_
  refine h F H [] [] σ rfl E.env _ fun v ra F1 H1 k1 E1 => ?_
  refine k1 F1 H1 [some v] [ra] σ rfl E1 _ fun w rb F2 H2 k2 E2 => ?_
  obtain ⟨n1, n2, k⟩ := k2
  have hsl : i < σ.length := by rw [E.env.len]; exact hl
  refine ⟨v, w, rfl, ok.nx _ F2 H2 _ k ⟨?_, (E.nv.set (nv_of n1)).set (nv_of n2)⟩⟩
  have E3 : EnvR c F2 H2 (some w :: some v :: σ) (rb :: ra :: Γ) := E2
  have E4 : EnvR c F2 H2 ((some v :: σ).set (j + 1) (some w)) ((ra :: Γ).set (j + 1) rb) := E3.store (by simpa using hl2)
  have E5 : EnvR c F2 H2 (some v :: σ.set j (some w)) (ra :: Γ.set j rb) := E4
  have E6 := E5.store (i := i) (by simpa using hl)
  rw [List.set_comm _ _ hij, List.set_comm _ _ hij]
  exact E6
theorem set3 {α : Type} {a : List α} {i j l : Nat} {u v w : α} (hij : i ≠ j) (hil : i ≠ l) (hjl : j ≠ l) : ((a.set i v).set j w).set l u = ((a.set l u).set j w).set i v := by
  rw [List.set_comm v w hij, List.set_comm v u hil, List.set_comm w u hjl]
theorem wst_par3 (i j l : Nat) {x y z : Str} {cE : Expr} {px py pz : Pos} {kt k2 pt pt2} (hc : X.calm = true) (hN : X.N.Nodup) (hij : i ≠ j) (hil : i ≠ l) (hjl : j ≠ l) (h : WPe X c a Γ fun ra => WPe X c b Γ fun rb => WPe X c cE Γ fun rc => isv ra = false ∧ isv rb = false ∧ isv rc = false ∧ D.nx (((Γ.set i ra).set j rb).set l rc)) (hl : i < Γ.length := by exact Nat.le_of_ble_eq_true rfl) (hl2 : j < Γ.length := by exact Nat.le_of_ble_eq_true rfl) (hl3 : l < Γ.length := by exact Nat.le_of_ble_eq_true rfl)
    (hi : X.N[i]? = some x := by rfl) (hj : X.N[j]? = some y := by rfl) (hll : X.N[l]? = some z := by rfl)
    (hx : X.env.scope.names.lookup x = some .local := by rfl) (hy : X.env.scope.names.lookup y = some .local := by rfl) (hz : X.env.scope.names.lookup z = some .local := by rfl)
    (hw : swappedStores [.Tuple [.Name x px, .Name y py, .Name z pz] kt pt] (.Tuple [a, b, cE] k2 pt2) X.env = pure (some [x, y, z]) := by rfl)
    (hs : swapsWithSole [.Tuple [.Name x px, .Name y py, .Name z pz] kt pt] (.Tuple [a, b, cE] k2 pt2) pos.line X.env = pure false := by rfl)
    (hsa : starEach [a, b, cE] X.env = (false, eval a X.env) :: starEach [b, cE] X.env := by rfl) (hsb : starEach [b, cE] X.env = (false, eval b X.env) :: starEach [cE] X.env := by rfl) (hsc : starEach [cE] X.env = (false, eval cE X.env) :: starEach [] X.env := by rfl) :
    WPst X c (.Assign [.Tuple [.Name x px, .Name y py, .Name z pz] kt pt] (.Tuple [a, b, cE] k2 pt2) pos) Γ D := fun F H σ E Dd ok => by
  refine ws_of (ps_par3 hc hN hi hj hll hij hil hjl hx hy hz (pa_cons pe_we (pa_cons pe_we (pa_cons pe_we pa_nil hsc) hsb) hsa) hw hs) ?_
  refine h F H [] [] σ rfl E.env _ fun v ra F1 H1 k1 E1 => ?_
  refine k1 F1 H1 [some v] [ra] σ rfl E1 _ fun w rb F2 H2 k2 E2 => ?_
  refine k2 F2 H2 [some w, some v] [rb, ra] σ rfl E2 _ fun u rc F3 H3 k3 E3 => ?_
  obtain ⟨n1, n2, n3, k⟩ := k3
  refine ⟨v, w, u, rfl, ok.nx _ F3 H3 _ k ⟨?_, ((E.nv.set (nv_of n1)).set (nv_of n2)).set (nv_of n3)⟩⟩
  have E4 : EnvR c F3 H3 (some w :: some v :: σ.set l (some u)) (rb :: ra :: Γ.set l rc) := EnvR.store (i := l + 2) (Γ := rb :: ra :: Γ) (σ := some w :: some v :: σ) E3 (by simpa using hl3)
  have E5 : EnvR c F3 H3 (some v :: (σ.set l (some u)).set j (some w)) (ra :: (Γ.set l rc).set j rb) := EnvR.store (i := j + 1) (Γ := ra :: Γ.set l rc) (σ := some v :: σ.set l (some u)) E4 (by simpa using hl2)
  have E6 := EnvR.store (i := i) E5 (by simpa using hl)
  rw [set3 hij hil hjl, set3 hij hil hjl]
  exact E6
theorem wst_ret (h : WPe X c e Γ fun r => D.rt r) : WPst X c (.Return (some e) pos) Γ D := fun F H σ E Dd ok => by
  refine ws_of (ps_ret pe_we) ?_
  exact h F H [] [] σ rfl E.env _ fun v r F' H' k E' => ok.rt r v F' H' k E'.only
/-- return x, x an own object: it goes to the caller -/
theorem wst_retOwn (i : Nat) {x : Str} {d : DL.D} {p : Pos} (h : Γ[i]? = some (.own d)) (k : D.rt (.own d)) (hN : X.N[i]? = some x := by rfl)
    (hv : Vis X.env.scope x := by first | exact Or.inl rfl | exact Or.inr (Or.inl rfl) | exact Or.inr (Or.inr rfl)) (hd : (x == ("__debug__" : Str)) = false := by decide) (hcd : (x == ("__classdict__" : Str)) = false := by decide) : WPst X c (.Return (some (.Name x p)) pos) Γ D := fun F H σ E Dd ok => by
  refine ws_of (ps_ret (pe_var hN hv hd hcd)) ?_
  obtain ⟨q, h1, h2, h3, h4, h5⟩ := E.env.own h
  refine ⟨.ref q, h1, ok.rt _ _ F H k ?_⟩
  obtain ⟨fp, g1, g2⟩ := E.env.sl
  exact { len := rfl, ex0 := E.env.ex0, ex := E.env.ex, gr := E.env.gr, fr := E.env.fr, nw := E.env.nw, hk := E.env.hk, sl := ⟨fun n => if n = 0 then [q] else [], fun i s hs => by
    cases i with
    | zero =>
      have e : s = .own d := by simpa using hs.symm
      subst e
      exact ⟨some (.ref q), rfl, q, rfl, rfl, h2, h3, h4, h5⟩
    | succ i => simp at hs, fun i j p e1 e2 => by
    have e1 : p ∈ (if i = 0 then [q] else []) := e1
    have e2 : p ∈ (if j = 0 then [q] else []) := e2
    by_cases z : i = 0
    · by_cases z' : j = 0
      · exact ⟨by rw [z, z'], by simp [z]⟩
      · rw [if_neg z'] at e2
        cases e2
    · rw [if_neg z] at e1
      cases e1⟩ }
theorem wst_if {t : Expr} {s1 s2 : List Stmt} (h : WPt X c t Γ fun x => (x = true → WPs X c s1 Γ D) ∧ (x = false → WPs X c s2 Γ D)) : WPst X c (.If t s1 s2 pos) Γ D := fun F H σ E Dd ok => by
  refine ws_of (ps_if pt_wt pss_wss pss_wss) ?_
  refine h F H [] [] σ rfl E.env _ fun x F1 H1 k1 E1 => ?_
  cases x with
  | true => exact iteT (k1.1 rfl F1 H1 σ ⟨E1, E.nv⟩ Dd ok)
  | false => exact iteF (k1.2 rfl F1 H1 σ ⟨E1, E.nv⟩ Dd ok)
theorem wst_expr (h : WPe X c e Γ fun _ => D.nx Γ) (hs : swapsWith e none pos.line X.env = pure false := by rfl) : WPst X c (.Expr e pos) Γ D := fun F H σ E Dd ok => by
  refine ws_of (ps_expr pe_we hs) ?_
  exact h F H [] [] σ rfl E.env _ fun v r F' H' k E' => ok.nx Γ F' H' σ k ⟨E'.pop, E.nv⟩
theorem wst_continue (h : D.ct Γ) : WPst X c (.Continue pos) Γ D := fun F H σ E Dd ok => ws_of ps_continue (ok.ct Γ F H σ h E)
theorem wst_break (h : D.bk Γ) : WPst X c (.Break pos) Γ D := fun F H σ E Dd ok => ws_of ps_break (ok.bk Γ F H σ h E)
/-- x op= e -/
theorem wst_aug (i : Nat) {x : Str} {op : Operator} {d : DL.D} {pos' : Pos} (hd : Γ[i]? = some (.im d)) (hN : X.N.Nodup) (h : WPe X c e Γ fun r => OpD X c (inplaceOp op) (.im d) (frz r) fun r' => isv r' = false ∧ D.nx (Γ.set i r')) (hi : X.N[i]? = some x := by rfl) (hx : Loc X.env.scope x := by first | exact Or.inl rfl | exact Or.inr rfl)
    (hf : X.fn x = true ∨ X.env.scope.names.lookup x = some .local := by first | exact .inl rfl | exact .inr rfl) : WPst X c (.AugAssign (.Name x pos') op e pos) Γ D := fun F H σ E Dd ok => by
  have hp : PIp X op (RW X (inplaceOp op)) := fun pins s σ H x y v u Q I r1 r2 q => q pins s σ v u I r1 r2
  refine ws_of (ps_aug hN hi hx pe_we hp hf) ?_
  obtain ⟨v, hv, hdat⟩ := E.env.im hd
  have hl : i < Γ.length := (List.getElem?_eq_some_iff.mp hd).1
  refine ⟨v, hv, ?_⟩
  refine h F H [some v] [.im d] σ rfl (E.env.push hdat) _ fun y r F1 H1 k1 E1 => ?_
  obtain ⟨F1, E1⟩ := E1.frzTop
  refine k1 F1 H1 σ Γ v y E1 _ fun z r' F2 H2 k2 E2 => ?_
  exact ok.nx _ F2 H2 _ k2.2 ⟨E2.store hl, E.nv.set (nv_of k2.1)⟩
/-- an own object will not change from here on -/
theorem wps_freeze (i : Nat) {d : DL.D} (hd : Γ[i]? = some (.own d)) (h : WPs X c sts (Γ.set i (.im d)) D) : WPs X c sts Γ D := fun F H σ E Dd ok => by
  obtain ⟨F', E'⟩ := E.env.freeze hd
  exact h F' H σ ⟨E', E.nv.set rfl⟩ Dd ok
end
end DL

set_option Elab.async false
set_option linter.all false
set_option maxRecDepth 100000
set_option maxHeartbeats 2000000
/-! DL4: targets, loops, calls of defs -/
namespace DL
open PySem PySem.Spec L2
/-! ### what is known at a loop's start stays known -/
def C0.up (c : C0) (F : Hp) : C0 := { c with F0 := F }
section
variable {c : C0} {F F1 H H1 H' F' : Hp} {σ : L2.St} {Γ : List Sl}
theorem slr_up {x : Option V} {o : List Addr} {s : Sl} : SlR (c.up F1) F H x o s ↔ SlR c F H x o s := by
  cases s <;> exact Iff.rfl
theorem EnvR.up (E : EnvR c F H σ Γ) : EnvR (c.up F) F H σ Γ where
  len := E.len
  ex0 := Ex.refl F
  ex := E.ex
  gr := fun a o h => .inl h
  fr := E.fr
  nw := E.nw
  hk := E.hk
  sl := by
    obtain ⟨fp, h1, h2⟩ := E.sl
    exact ⟨fp, fun i s hs => let ⟨x, hx, r⟩ := h1 i s hs; ⟨x, hx, slr_up.mpr r⟩, h2⟩
theorem EnvR.down {H0 : Hp} {σ0 : L2.St} {Γ0 : List Sl} (E0 : EnvR c F1 H0 σ0 Γ0) (E : EnvR (c.up F1) F H σ Γ) : EnvR c F H σ Γ where
  len := E.len
  ex0 := E0.ex0.trans E.ex0
  ex := E.ex
  gr := fun a o h => by
    rcases E.gr a o h with z | z
    · exact E0.gr a o z
    · exact .inr z
  fr := E.fr
  nw := E.nw
  hk := E.hk
  sl := by
    obtain ⟨fp, h1, h2⟩ := E.sl
    exact ⟨fp, fun i s hs => let ⟨x, hx, r⟩ := h1 i s hs; ⟨x, hx, slr_up.mp r⟩, h2⟩
end

/-! ### targets -/
def GW (X : Cx) (tg : Expr) : TG := fun v σ H Q => ∀ (pins : List (Addr × Obj)) (s : Shared) (u : Value), Inv X pins σ H s → RelV v u → wpAny (model X.prog X.w) X.A (assign tg X.env u) (fun _ s' => ∃ σ' H', Inv X pins σ' H' s' ∧ Q σ' H') X.xe s
theorem pg_gw {X : Cx} {tg : Expr} : PG X tg (GW X tg) := ⟨fun pins s σ H v u Q I r h => h pins s u I r⟩
theorem gw_of {X : Cx} {tg : Expr} {g : TG} (h : PG X tg g) {v : V} {σ : L2.St} {H : Hp} {Q : L2.St → Hp → Prop} (q : g v σ H Q) : GW X tg v σ H Q := fun pins s u I r => h.run pins s σ H v u Q I r q
def GtD (X : Cx) (c : C0) (tg : Expr) (r : Sl) (Γ : List Sl) (K : List Sl → Prop) : Prop :=
  ∀ (F H : Hp) (stk : L2.St) (S : List Sl) (σ : L2.St) (v : V), stk.length = S.length → NV Γ → EnvR c F H (some v :: (stk ++ σ)) (r :: (S ++ Γ)) → ∀ Q : L2.St → Hp → Prop,
    (∀ F' H' σ' Γ', K Γ' → NV Γ' → EnvR c F' H' (stk ++ σ') (S ++ Γ') → Q σ' H') → GW X tg v σ H Q
section
variable {X : Cx} {c : C0} {Γ : List Sl} {K : List Sl → Prop} {pos : Pos}
theorem EnvR.storeS {F H : Hp} {stk σ : L2.St} {S : List Sl} {x : Option V} {s : Sl} {i : Nat} (E : EnvR c F H (x :: (stk ++ σ)) (s :: (S ++ Γ))) (hl : stk.length = S.length) (hi : i < Γ.length) : EnvR c F H (stk ++ σ.set i x) (S ++ Γ.set i s) := by
  have h := E.store (i := S.length + i) (by rw [List.length_append]; omega)
  have e1 : ∀ {α : Type} (l m : List α) (n j : Nat) (x : α), l.length = n → (l ++ m).set (n + j) x = l ++ m.set j x := fun l m n j x e => by
    rw [← e, List.set_append_right _ _ (by omega)]
    congr 2
    omega
  rw [e1 S Γ _ _ _ rfl, e1 stk σ _ _ _ hl] at h
  exact h
theorem gt_name (i : Nat) {x : Str} {r : Sl} (hv : isv r = false) (hN : X.N.Nodup) (k : K (Γ.set i r)) (hl : i < Γ.length := by exact Nat.le_of_ble_eq_true rfl) (hi : X.N[i]? = some x := by rfl) (hx : Loc X.env.scope x := by first | exact Or.inl rfl | exact Or.inr rfl)
    (hf : X.fn x = true ∨ X.env.scope.names.lookup x = some .local := by first | exact .inl rfl | exact .inr rfl) : GtD X c (.Name x pos) r Γ K := fun F H stk S σ v hls nv E Q q =>
  gw_of (pg_name hN hi hx hf) (q F H _ _ k (nv.set (nv_of hv)) (E.storeS hls hl))
/-- (x, y) = a pair -/
theorem gt_tup2 (i j : Nat) {x y : Str} {d1 d2 : DL.D} {px py : Pos} {kt} (hc : X.calm = true) (hN : X.N.Nodup) (k : K ((Γ.set i (.im d1)).set j (.im d2))) (hl : i < Γ.length := by exact Nat.le_of_ble_eq_true rfl) (hl2 : j < Γ.length := by exact Nat.le_of_ble_eq_true rfl) (hi : X.N[i]? = some x := by rfl) (hj : X.N[j]? = some y := by rfl) (hx : Loc X.env.scope x := by first | exact Or.inl rfl | exact Or.inr rfl) (hy : Loc X.env.scope y := by first | exact Or.inl rfl | exact Or.inr rfl)
    (hf : X.fn x = true ∨ X.env.scope.names.lookup x = some .local := by first | exact .inl rfl | exact .inr rfl) (hf2 : X.fn y = true ∨ X.env.scope.names.lookup y = some .local := by first | exact .inl rfl | exact .inr rfl)
    (hn : (assignEach [.Name x px, .Name y py] X.env).length = 2 := by rfl) (hst : (assignEach [.Name x px, .Name y py] X.env).findIdx? (·.1) = none := by rfl)
    (hs1 : (assignEach [.Name x px, .Name y py] X.env).map (·.2) = assign (.Name x px) X.env :: (assignEach [.Name y py] X.env).map (·.2) := by rfl) (hs2 : (assignEach [.Name y py] X.env).map (·.2) = assign (.Name y py) X.env :: (assignEach [] X.env).map (·.2) := by rfl) :
    GtD X c (.Tuple [.Name x px, .Name y py] kt pos) (.im (.tup [d1, d2])) Γ K := fun F H stk S σ v hls nv E Q q => by
  refine gw_of (pg_tup hc (pgs_cons (pg_name hN hi hx hf) (pgs_cons (pg_name hN hj hy hf2) pgs_nil hs2) hs1) hn hst) ?_
  obtain ⟨u, hu, hd⟩ := E.im (i := 0) rfl
  have ev : v = u := by simpa using hu
  subst ev
  obtain ⟨p, vs, e, hp, hds⟩ := hd
  obtain ⟨v1, w1, e1, hd1, hds⟩ := hds
  obtain ⟨v2, w2, e2, hd2, hds⟩ := hds
  have e3 : w2 = [] := hds
  subst e3 e2 e1
  refine ⟨p, [v1, v2], e, .inl (.inl (E.ex _ _ hp)), rfl, v1, [v2], rfl, v2, [], rfl, rfl, ?_⟩
  have E1 := ((E.pop.push hd1).storeS hls hl)
  have E2 := (E1.push hd2).storeS (Γ := Γ.set i (.im d1)) hls (by simpa using hl2)
  exact q F H _ _ k ((nv.set (nv_of rfl)).set (nv_of rfl)) E2
theorem gt_tup3 (i j l : Nat) {x y z : Str} {d1 d2 d3 : DL.D} {px py pz : Pos} {kt} (hc : X.calm = true) (hN : X.N.Nodup) (k : K (((Γ.set i (.im d1)).set j (.im d2)).set l (.im d3))) (hl : i < Γ.length := by exact Nat.le_of_ble_eq_true rfl) (hl2 : j < Γ.length := by exact Nat.le_of_ble_eq_true rfl) (hl3 : l < Γ.length := by exact Nat.le_of_ble_eq_true rfl) (hi : X.N[i]? = some x := by rfl) (hj : X.N[j]? = some y := by rfl) (hll : X.N[l]? = some z := by rfl)
    (hx : Loc X.env.scope x := by first | exact Or.inl rfl | exact Or.inr rfl) (hy : Loc X.env.scope y := by first | exact Or.inl rfl | exact Or.inr rfl) (hz : Loc X.env.scope z := by first | exact Or.inl rfl | exact Or.inr rfl)
    (hf : X.fn x = true ∨ X.env.scope.names.lookup x = some .local := by first | exact .inl rfl | exact .inr rfl) (hf2 : X.fn y = true ∨ X.env.scope.names.lookup y = some .local := by first | exact .inl rfl | exact .inr rfl) (hf3 : X.fn z = true ∨ X.env.scope.names.lookup z = some .local := by first | exact .inl rfl | exact .inr rfl)
    (hn : (assignEach [.Name x px, .Name y py, .Name z pz] X.env).length = 3 := by rfl) (hst : (assignEach [.Name x px, .Name y py, .Name z pz] X.env).findIdx? (·.1) = none := by rfl)
    (hs1 : (assignEach [.Name x px, .Name y py, .Name z pz] X.env).map (·.2) = assign (.Name x px) X.env :: (assignEach [.Name y py, .Name z pz] X.env).map (·.2) := by rfl) (hs2 : (assignEach [.Name y py, .Name z pz] X.env).map (·.2) = assign (.Name y py) X.env :: (assignEach [.Name z pz] X.env).map (·.2) := by rfl) (hs3 : (assignEach [.Name z pz] X.env).map (·.2) = assign (.Name z pz) X.env :: (assignEach [] X.env).map (·.2) := by rfl) :
    GtD X c (.Tuple [.Name x px, .Name y py, .Name z pz] kt pos) (.im (.tup [d1, d2, d3])) Γ K := fun F H stk S σ v hls nv E Q q => by
  refine gw_of (pg_tup hc (pgs_cons (pg_name hN hi hx hf) (pgs_cons (pg_name hN hj hy hf2) (pgs_cons (pg_name hN hll hz hf3) pgs_nil hs3) hs2) hs1) hn hst) ?_
  obtain ⟨u, hu, hd⟩ := E.im (i := 0) rfl
  have ev : v = u := by simpa using hu
  subst ev
  obtain ⟨p, vs, e, hp, hds⟩ := hd
  obtain ⟨v1, w1, e1, hd1, hds⟩ := hds
  obtain ⟨v2, w2, e2, hd2, hds⟩ := hds
  obtain ⟨v3, w3, e3, hd3, hds⟩ := hds
  have e4 : w3 = [] := hds
  subst e4 e3 e2 e1
  refine ⟨p, [v1, v2, v3], e, .inl (.inl (E.ex _ _ hp)), rfl, v1, [v2, v3], rfl, v2, [v3], rfl, v3, [], rfl, rfl, ?_⟩
  have E1 := ((E.pop.push hd1).storeS hls hl)
  have E2 := (E1.push hd2).storeS (Γ := Γ.set i (.im d1)) hls (by simpa using hl2)
  have E3 := (E2.push hd3).storeS (Γ := (Γ.set i (.im d1)).set j (.im d2)) hls (by simpa using hl3)
  exact q F H _ _ k (((nv.set (nv_of rfl)).set (nv_of rfl)).set (nv_of rfl)) E3
end

/-! ### what is walked -/
/-- the iterator gives n items, of known data, as long as src is known -/
structure ItOk (J : It) (n : Nat) (item : Nat → DL.D) (src : Hp → Prop) : Prop where
  mono : ∀ F F', Ex F F' → src F → src F'
  go : ∀ F H i, Ex F H → src F → i < n → J.go i H
  yld : ∀ (c : C0) (F H : Hp) (σ : L2.St) (Γ : List Sl) (i : Nat) (x : V) (H' : Hp), EnvR c F H σ Γ → src F → i < n → J.yld i H x H' → ∃ F', Ex F F' ∧ EnvR c F' H' (some x :: σ) (.im (item i) :: Γ)
  stop : ∀ F H, Ex F H → src F → J.stop n H
def IWt (X : Cx) (tg iter : Expr) : TI := fun σ H R => ∀ (pins : List (Addr × Obj)) (s : Shared), Inv X pins σ H s → wpAny (model X.prog X.w) X.A (eval iter X.env) (fun v s1 => wpAny (model X.prog X.w) X.A (pyIter v) (PIE X pins σ tg R) X.xe s1) X.xe s
theorem pi_iw {X : Cx} {tg iter : Expr} : PI X tg iter (IWt X tg iter) := ⟨fun pins s σ H R I h => h pins s I⟩
theorem iw_of {X : Cx} {tg iter : Expr} {wi : TI} (h : PI X tg iter wi) {σ : L2.St} {H : Hp} {R : It → Hp → Prop} (q : wi σ H R) : IWt X tg iter σ H R := fun pins s I => h.run pins s σ H R I q
def WPi (X : Cx) (c : C0) (tg iter : Expr) (Γ : List Sl) (KI : Nat → (Nat → DL.D) → Prop) : Prop :=
  ∀ (F H : Hp) (stk : L2.St) (S : List Sl) (σ : L2.St), stk.length = S.length → EnvR c F H (stk ++ σ) (S ++ Γ) → ∀ R : It → Hp → Prop,
    (∀ J n item src F' H', KI n item → ItOk J n item src → src F' → EnvR c F' H' (stk ++ σ) (S ++ Γ) → R J H') → IWt X tg iter σ H R
section
variable {X : Cx} {c : C0} {Γ : List Sl} {KI : Nat → (Nat → DL.D) → Prop} {tg e a b : Expr} {pos : Pos}
theorem itok_list {K : PySem.W.Frag} {p : Addr} {vs : List V} {ds : List DL.D} : ItOk (Itl K p) ds.length (fun i => ds.getD i .non) (fun F => F p = some (.lst vs) ∧ Dats F ds vs) where
  mono := fun F F' e h => ⟨e _ _ h.1, h.2.mono e⟩
  go := fun F H i e h hi => by
    obtain ⟨v, hv, _⟩ := h.2.get (i := i) (d := ds[i]) (by simp [hi])
    exact ⟨vs, v, .inl (.inl (e _ _ h.1)), hv⟩
  yld := fun c F H σ Γ i x H' E h hi hy => by
    obtain ⟨rfl, hx⟩ := hy
    obtain ⟨v, hv, hd⟩ := h.2.get (i := i) (d := ds[i]) (by simp [hi])
    have e1 := hx vs (.inl (.inl (E.ex _ _ h.1)))
    rw [hv] at e1
    have e2 : v = x := Option.some.inj e1
    subst e2
    have e3 : ds.getD i .non = ds[i] := by simp [hi]
    exact ⟨F, Ex.refl F, by rw [e3]; exact E.push hd⟩
  stop := fun F H e h => ⟨vs, .inl (.inl (e _ _ h.1)), by rw [h.2.length]; exact Nat.le_refl _⟩
theorem itok_tup {K : PySem.W.Frag} {p : Addr} {vs : List V} {ds : List DL.D} : ItOk (Itt K p) ds.length (fun i => ds.getD i .non) (fun F => F p = some (.tup vs) ∧ Dats F ds vs) where
  mono := fun F F' e h => ⟨e _ _ h.1, h.2.mono e⟩
  go := fun F H i e h hi => by
    obtain ⟨v, hv, _⟩ := h.2.get (i := i) (d := ds[i]) (by simp [hi])
    exact ⟨vs, v, .inl (.inl (e _ _ h.1)), hv⟩
  yld := fun c F H σ Γ i x H' E h hi hy => by
    obtain ⟨rfl, hx⟩ := hy
    obtain ⟨v, hv, hd⟩ := h.2.get (i := i) (d := ds[i]) (by simp [hi])
    have e1 := hx vs (.inl (.inl (E.ex _ _ h.1)))
    rw [hv] at e1
    have e2 : v = x := Option.some.inj e1
    subst e2
    have e3 : ds.getD i .non = ds[i] := by simp [hi]
    exact ⟨F, Ex.refl F, by rw [e3]; exact E.push hd⟩
  stop := fun F H e h => ⟨vs, .inl (.inl (e _ _ h.1)), by rw [h.2.length]; exact Nat.le_refl _⟩
theorem itok_range {lo : Int} {n : Nat} : ItOk (Itr lo n) n (fun i => .int (lo + i)) (fun _ => True) where
  mono := fun _ _ _ h => h
  go := fun _ _ i _ _ hi => hi
  yld := fun c F H σ Γ i x H' E _ hi hy => by
    obtain ⟨rfl, rfl⟩ := hy
    exact ⟨F, Ex.refl F, E.push rfl⟩
  stop := fun _ _ _ _ => Nat.le_refl n
theorem wpi_list (h : WPe X c e Γ fun r => ∃ ds, frz r = .im (.lst ds) ∧ KI ds.length fun i => ds.getD i .non) : WPi X c tg e Γ KI := fun F H stk S σ hl E R q => by
  refine iw_of (pi_list pe_we) ?_
  refine h F H stk S σ hl E _ fun v r F1 H1 k1 E1 => ?_
  obtain ⟨ds, er, k⟩ := k1
  obtain ⟨F1, E1⟩ := E1.frzTop
  rw [er] at E1
  obtain ⟨u, hu, hd⟩ := E1.im (i := 0) rfl
  have ev : v = u := by simpa using hu
  subst ev
  obtain ⟨p, vs, e, hp, hds⟩ := hd
  exact ⟨p, e, ⟨vs, .inl (.inl (E1.ex _ _ hp))⟩, q _ _ _ _ F1 H1 k itok_list ⟨hp, hds⟩ E1.pop⟩
theorem wpi_tup (h : WPe X c e Γ fun r => ∃ ds, r = .im (.tup ds) ∧ KI ds.length fun i => ds.getD i .non) : WPi X c tg e Γ KI := fun F H stk S σ hl E R q => by
  refine iw_of (pi_tup pe_we) ?_
  refine h F H stk S σ hl E _ fun v r F1 H1 k1 E1 => ?_
  obtain ⟨ds, er, k⟩ := k1
  rw [er] at E1
  obtain ⟨u, hu, hd⟩ := E1.im (i := 0) rfl
  have ev : v = u := by simpa using hu
  subst ev
  obtain ⟨p, vs, e, hp, hds⟩ := hd
  exact ⟨p, e, ⟨vs, .inl (.inl (E1.ex _ _ hp))⟩, q _ _ _ _ F1 H1 k itok_tup ⟨hp, hds⟩ E1.pop⟩
theorem wpi_range1 {p : Pos} (hm : X.mg "range" = none) (h : WPa X c [a] Γ fun rs => ∃ j : Int, rs = [.im (.int j)] ∧ -(2 ^ 62) ≤ j ∧ j < 2 ^ 62 ∧ KI j.toNat fun i => .int (0 + i)) (hg : Gl X "range" := by rfl) (hs : starEach [a] X.env = [(false, eval a X.env)] := by rfl) : WPi X c tg (.Call (.Name "range" p) [a] [] pos) Γ KI := fun F H stk S σ hl E R q => by
  refine iw_of (pi_range1 hg hm pa_wa hs) ?_
  refine h F H stk S σ hl E _ fun vs rs F1 H1 k1 hl1 E1 => ?_
  obtain ⟨j, e, h1, h2, k⟩ := k1
  obtain ⟨E2, hd⟩ := EnvR.dats (ds := [.int j]) (by rw [hl1, e]; rfl) (by rw [e] at E1; exact E1)
  obtain ⟨v, w, e1, hv, hw⟩ := hd
  have e2 : v = .int j := hv
  have e3 : w = [] := hw
  subst e3 e2
  exact ⟨j, e1, h1, h2, q _ _ _ _ F1 H1 k itok_range trivial E2⟩
theorem wpi_range2 {p : Pos} (hm : X.mg "range" = none) (h : WPa X c [a, b] Γ fun rs => ∃ i j : Int, rs = [.im (.int i), .im (.int j)] ∧ (-(2 ^ 62) ≤ i ∧ i < 2 ^ 62 ∧ -(2 ^ 62) ≤ j ∧ j < 2 ^ 62) ∧ KI (j - i).toNat fun k => .int (i + k)) (hg : Gl X "range" := by rfl) (hs : starEach [a, b] X.env = [(false, eval a X.env), (false, eval b X.env)] := by rfl) (hs2 : starEach [b] X.env = [(false, eval b X.env)] := by rfl) : WPi X c tg (.Call (.Name "range" p) [a, b] [] pos) Γ KI := fun F H stk S σ hl E R q => by
  refine iw_of (pi_range2 hg hm pa_wa hs hs2) ?_
  refine h F H stk S σ hl E _ fun vs rs F1 H1 k1 hl1 E1 => ?_
  obtain ⟨i, j, e, h1, k⟩ := k1
  obtain ⟨E2, hd⟩ := EnvR.dats (ds := [.int i, .int j]) (by rw [hl1, e]; rfl) (by rw [e] at E1; exact E1)
  obtain ⟨v, w, e1, hv, hw⟩ := hd
  obtain ⟨v', w', e1', hv', hw'⟩ := hw
  have e2 : v = .int i := hv
  have e3 : v' = .int j := hv'
  have e4 : w' = [] := hw'
  subst e4 e3 e2 e1'
  exact ⟨i, j, e1, h1, q _ _ _ _ F1 H1 k itok_range trivial E2⟩
end

/-! ### for, while -/
section
variable {X : Cx} {c : C0} {Γ : List Sl} {D : DEnds} {tg iter : Expr} {body : List Stmt} {pos : Pos}
theorem wst_for (J : Nat → List Sl → Prop) (h : WPi X c tg iter Γ fun n item => J 0 Γ ∧ (∀ (F : Hp) (i : Nat) (Γ' : List Sl), i < n → J i Γ' → GtD X (c.up F) tg (.im (item i)) Γ' fun Γ2 => WPs X (c.up F) body Γ2 { nx := J (i + 1), ct := J (i + 1), bk := D.nx, rt := D.rt }) ∧ ∀ Γ', J n Γ' → D.nx Γ')
    (hp : PassesOwn (model X.prog X.w) X.A X.env X.xe := by exact PassesOwn.never) (hc : X.calm = true := by rfl) (hs : ∀ x, foldedSetIterable iter X.env x = pure x := by intro _; rfl) : WPst X c (.For tg iter body [] pos) Γ D := fun F H σ E Dd ok => by
  refine ws_of (ps_for hp hc pi_iw pg_gw pss_wss hs) ?_
  refine h F H [] [] σ rfl E.env _ fun It n item src F1 H1 k1 io sF E1 => ?_
  obtain ⟨j0, turn, fin⟩ := k1
  have E1 : EnvR c F1 H1 σ Γ := E1
  refine ⟨fun i m σ' H' => m = n - i ∧ i ≤ n ∧ ∃ F' Γ', J i Γ' ∧ EnvS (c.up F1) F' H' σ' Γ', ⟨n, by simp, Nat.zero_le _, F1, Γ, j0, E1.up, E.nv⟩, ?_⟩
  rintro i m σ' H' ⟨rfl, hi, F', Γ', ji, E'⟩
  have sF' : src F' := io.mono F1 F' E'.env.ex0 sF
  by_cases hlt : i < n
  · refine .inr ⟨io.go F' H' i E'.env.ex sF' hlt, fun σ2 H2 => ∃ F2 Γ2, J (i + 1) Γ2 ∧ EnvS (c.up F1) F2 H2 σ2 Γ2, fun σ2 H2 hN => ⟨n - (i + 1), by omega, rfl, hlt, hN⟩, fun x H2 hy => ?_⟩
    obtain ⟨F2, e2, E2⟩ := io.yld _ F' H' σ' Γ' i x H2 E'.env sF' hlt hy
    refine turn F1 i Γ' hlt ji F2 H2 [] [] σ' x rfl E'.nv E2 _ fun F3 H3 σ3 Γ3 k3 nv3 E3 => ?_
    refine k3 F3 H3 σ3 ⟨E3, nv3⟩ _ ⟨fun Γ4 F4 H4 σ4 q4 E4 => ⟨F4, Γ4, q4, E4⟩, fun r v F4 H4 q4 E4 => ok.rt r v F4 H4 q4 (E1.down E4), fun Γ4 F4 H4 σ4 q4 E4 => ok.nx Γ4 F4 H4 σ4 q4 ⟨E1.down E4.env, E4.nv⟩, fun Γ4 F4 H4 σ4 q4 E4 => ⟨F4, Γ4, q4, E4⟩⟩
  · have e : i = n := by omega
    subst e
    exact .inl ⟨io.stop F' H' E'.env.ex sF', ok.nx Γ' F' H' σ' (fin Γ' ji) ⟨E1.down E'.env, E'.nv⟩⟩
theorem wst_while {t : Expr} (J : Nat → List Sl → Prop) (m0 : Nat) (h0 : J m0 Γ) (h : ∀ m Γ', J m Γ' → WPt X c t Γ' fun x => (x = true → WPs X c body Γ' { nx := fun Γ2 => ∃ m', m' < m ∧ J m' Γ2, ct := fun Γ2 => ∃ m', m' < m ∧ J m' Γ2, bk := D.nx, rt := D.rt }) ∧ (x = false → D.nx Γ'))
    (hp : PassesOwn (model X.prog X.w) X.A X.env X.xe := by exact PassesOwn.never) : WPst X c (.While t body [] pos) Γ D := fun F H σ E Dd ok => by
  refine ws_of (ps_while hp pt_wt pss_wss) ?_
  refine ⟨fun m σ' H' => ∃ F' Γ', J m Γ' ∧ EnvS c F' H' σ' Γ', ⟨m0, F, Γ, h0, E⟩, ?_⟩
  rintro m σ' H' ⟨F', Γ', ji, E'⟩
  refine h m Γ' ji F' H' [] [] σ' rfl E'.env _ fun x F2 H2 k2 E2 => ?_
  cases x with
  | true =>
    refine iteT ⟨fun σ3 H3 => ∃ m', m' < m ∧ ∃ F3 Γ3, J m' Γ3 ∧ EnvS c F3 H3 σ3 Γ3, fun σ3 H3 hN => hN, ?_⟩
    refine k2.1 rfl F2 H2 σ' ⟨E2, E'.nv⟩ _ ⟨fun Γ4 F4 H4 σ4 q4 E4 => ?_, ok.rt, ok.nx, fun Γ4 F4 H4 σ4 q4 E4 => ?_⟩
    · obtain ⟨m', hm, hj⟩ := q4
      exact ⟨m', hm, F4, Γ4, hj, E4⟩
    · obtain ⟨m', hm, hj⟩ := q4
      exact ⟨m', hm, F4, Γ4, hj, E4⟩
  | false => exact iteF (ok.nx Γ' F2 H2 σ' (k2.2 rfl) ⟨E2, E'.nv⟩)
end

/-! ### defs -/
/-- a def's promise by its slots: pre of the arguments, post of the arguments and the result -/
def SpD (n : Nat) (pre : List Sl → Prop) (post : List Sl → Sl → Prop) : Sp := fun vs H Q _ => vs.length = n ∧ ∃ (c : C0) (F : Hp) (rs : List Sl), rs.length = n ∧ pre rs ∧ NV rs ∧ c.F0 = F ∧ c.H0 = H ∧ EnvR c F H (vs.map some) rs ∧
  ∀ v r F' H', post rs r → EnvR c F' H' [some v] [r] → Q v H'
theorem EnvR.rest {c : C0} {F H : Hp} : ∀ {n : Nat} {σ : L2.St} {Γ : List Sl}, EnvR c F H σ Γ → EnvR c F H (σ ++ List.replicate n none) (Γ ++ List.replicate n .any) := by
  intro n σ Γ E
  refine { len := by simp [E.len], ex0 := E.ex0, ex := E.ex, gr := E.gr, fr := E.fr, nw := E.nw, hk := E.hk, sl := ?_ }
  obtain ⟨fp, h1, h2⟩ := E.sl
  refine ⟨fun i => if i < Γ.length then fp i else [], fun i s hs => ?_, fun i j p e1 e2 => ?_⟩
  · by_cases hi : i < Γ.length
    · rw [List.getElem?_append_left hi] at hs
      obtain ⟨x, hx, r⟩ := h1 i s hs
      refine ⟨x, by rw [List.getElem?_append_left (by rw [E.len]; exact hi)]; exact hx, ?_⟩
      dsimp only
      rw [if_pos hi]
      exact r
    · rw [List.getElem?_append_right (by omega)] at hs
      have hn : i - Γ.length < n := by
        rcases Nat.lt_or_ge (i - Γ.length) n with z | z
        · exact z
        · rw [List.getElem?_eq_none (by simpa using z)] at hs
          cases hs
      rw [List.getElem?_replicate, if_pos hn] at hs
      cases hs
      refine ⟨none, ?_, ?_⟩
      · rw [List.getElem?_append_right (by rw [E.len]; omega), E.len, List.getElem?_replicate, if_pos hn]
      · show (if i < Γ.length then fp i else []) = []
        rw [if_neg hi]
  · have e1 : p ∈ (if i < Γ.length then fp i else []) := e1
    have e2 : p ∈ (if j < Γ.length then fp j else []) := e2
    by_cases hi : i < Γ.length
    · by_cases hj : j < Γ.length
      · rw [if_pos hi] at e1
        rw [if_pos hj] at e2
        obtain ⟨z1, z2⟩ := h2 i j p e1 e2
        exact ⟨z1, by rw [List.length_append]; omega⟩
      · rw [if_neg hj] at e2
        cases e2
    · rw [if_neg hi] at e1
      cases e1
theorem NV.rest {Γ : List Sl} {n : Nat} (h : NV Γ) : NV (Γ ++ List.replicate n .any) := fun s hs => by
  rcases List.mem_append.mp hs with z | z
  · exact h s z
  · rw [List.eq_of_mem_replicate z]
    rfl
theorem fn_D {P : Program} {w : World} {K : PySem.W.Frag} {mg : Str → Option Value} {base : Heap} {x qual : Str} {st : Stmt} {f : Addr} {fd : FuncData} {N ps : List Str} {k : Nat} (F : Fun K x qual st f fd) (S : FnScope N ps (defScope st)) {pre : List Sl → Prop} {post : List Sl → Sl → Prop}
    (hb : ∀ (cdv : Value) (A : Around) (outer : List Env) (s : Shared) (H : Hp) (E : XK) (c : C0) (rs : List Sl), Room k (A.deeper (PyProof.Rows.envOfC qual (defScope st) s.heap.objs.size f cdv)) → rs.length = ps.length → pre rs →
      WPs (cxOf L2.CX0 P w K mg base N qual (defScope st) f cdv A outer s H E).nox c (defBody st) (rs ++ List.replicate (N.length - ps.length) .any) { nx := fun _ => post rs (.im .non), rt := post rs }) : FnOk P w K mg base L2.CX0 (k + 1) f fd ps (SpD ps.length pre post) := by
  refine F.ok S (fun vs H Q E h => h.1) (fun cdv A outer s H vs Q E hr h => ⟨_, pss_wss, ?_⟩)
  obtain ⟨hl, c, F1, rs, hrl, hpre, nv, e1, e2, E1, q⟩ := h
  have hst : L2.start N vs = vs.map some ++ List.replicate (N.length - ps.length) none := by
    unfold L2.start
    rw [hl]
  rw [hst]
  refine hb cdv A outer s H E c rs hr hrl hpre F1 H _ ⟨E1.rest, nv.rest⟩ _ ⟨fun Γ F H σ hn E' => ?_, fun r v F H hn E' => q v r F H hn E', fun Γ F H σ hn E' => hn.elim, fun Γ F H σ hn E' => hn.elim⟩
  exact q .non (.im .non) F H hn (E'.env.push (d := .non) rfl).only
/-- behind a call -/
theorem EnvR.ret {c c1 : C0} {F H F' H' : Hp} {L : L2.St} {G : List Sl} {v : V} {r : Sl} (E : EnvR c F H L G) (E' : EnvR c1 F' H' [some v] [r]) (e1 : c1.F0 = F) (e2 : c1.H0 = H) (hW : ∀ a ∈ c1.W, a ∈ c.W) (hk : c.hok H') (hp : r = .hand → c1.hp = c.hp) (hv : isv r = false) :
    EnvR c F' H' (some v :: L) (r :: G) := by
  have kp : Keep c.W H H' := fun a o h w => E'.fr a o (by rw [e2]; exact h) (fun z => w (hW a z))
  have g : Gr F H F' := ⟨by rw [← e1]; exact E'.ex0, fun a o h => by
    have := E'.gr a o h
    rw [e1, e2] at this
    exact this⟩
  have E2 : EnvR c F' H' L G := E.step g E'.ex kp hk
  obtain ⟨x, f0, hx, sr⟩ := E'.get (i := 0) rfl
  have ex : some v = x := by simpa using hx
  subst ex
  -- what is new is of nobody
  have new : ∀ a ∈ f0, H a = none := fun a ha => by rw [← e2]; exact (sr.own ha).2.2.2
  have sr2 : SlR c F' H' (some v) f0 r := by
    have z0 : ∀ a, H a = none → a ∉ c.W ∧ c.H0 a = none := fun a h0 => by
      have hpc : a ∉ c.W := fun z => E.wne z h0
      refine ⟨hpc, ?_⟩
      cases q : c.H0 a with
      | none => rfl
      | some u =>
        rw [E.fr a u q hpc] at h0
        cases h0
    cases r with
    | any => exact sr
    | im d => exact sr
    | vw d => cases hv
    | vo v π o => cases hv
    | hand => exact ⟨sr.1, by rw [sr.2, hp rfl]⟩
    | own d =>
      obtain ⟨p, r1, hu, ho, hF, hpW, h0⟩ := sr
      subst r1
      exact ⟨p, rfl, hu, ho, hF, z0 p (new p (List.mem_cons_self ..))⟩
    | deep u o =>
      obtain ⟨r1, r2, r3, r4⟩ := sr
      exact ⟨r1, r2, r3, fun a ha => ⟨(r4 a ha).1, z0 a (new a ha)⟩⟩
  obtain ⟨fp, h1, h2⟩ := E.sl
  refine { len := by simp [E2.len], ex0 := E2.ex0, ex := E2.ex, gr := E2.gr, fr := E2.fr, nw := E2.nw, hk := E2.hk, sl := ?_ }
  refine ⟨fun n => match n with | 0 => f0 | n + 1 => fp n, fun i t hs => ?_, fun i j q d1 d2 => ?_⟩
  · cases i with
    | zero =>
      have e : t = r := by simpa using hs.symm
      subst e
      exact ⟨some v, rfl, sr2⟩
    | succ i =>
      obtain ⟨x, hx, r⟩ := h1 i t (by simpa using hs)
      refine ⟨x, by simpa using hx, r.mono g.1 (fun a hn w _ => kp.eq hn w) fun a ha => ?_⟩
      obtain ⟨o1, o2, o3, o4⟩ := r.own ha
      cases q : F' a with
      | none => rfl
      | some o =>
        rcases g.2 a o q with z | z
        · rw [o2] at z
          cases z
        · exact absurd z o1
  · have fresh : ∀ i a, a ∈ fp i → a ∉ f0 := fun i a ha hb => by
      obtain ⟨_, hi⟩ := h2 i i a ha ha
      obtain ⟨x, _, r⟩ := h1 i G[i] (by simp [hi])
      exact (r.own ha).1 (new a hb)
    cases i with
    | zero =>
      cases j with
      | zero => exact ⟨rfl, by simp⟩
      | succ j => exact absurd d1 (fresh j q d2)
    | succ i =>
      cases j with
      | zero => exact absurd d2 (fresh i q d1)
      | succ j =>
        obtain ⟨z1, z2⟩ := h2 i j q d1 d2
        exact ⟨by rw [z1], by simpa using z2⟩
/-- a call's own entry: no hand -/
def c0 (F H : Hp) : C0 := ⟨F, H, [], 0, fun _ => True, fun _ _ _ _ _ => trivial, fun _ _ a h => by cases h⟩
theorem env_args {c : C0} {F H : Hp} {ds : List DL.D} {vs : List V} (e : Ex F H) (h : Dats F ds vs) (hk : c.hok H) (hn : ∀ a ∈ c.W, F a = none) (e1 : c.F0 = F) (e2 : c.H0 = H) : EnvR c F H (vs.map some) (ds.map Sl.im) where
  len := by simp [h.length]
  ex0 := by rw [e1]; exact Ex.refl F
  ex := e
  gr := fun a o z => .inl (by rw [e1]; exact z)
  fr := fun a o z _ => by rw [e2] at z; exact z
  nw := hn
  hk := hk
  sl := ⟨fun _ => [], fun i s hs => by
    rw [List.getElem?_map] at hs
    cases q : ds[i]? with
    | none =>
      rw [q] at hs
      cases hs
    | some d =>
      rw [q] at hs
      have es : Sl.im d = s := by simpa using hs
      subst es
      obtain ⟨v, hv, hd⟩ := h.get q
      exact ⟨some v, by rw [List.getElem?_map, hv]; rfl, rfl, v, rfl, hd⟩, fun i j p z => by cases z⟩
theorem nv_ims (ds : List DL.D) : NV (ds.map Sl.im) := fun s hs => by
  obtain ⟨d', _, rfl⟩ := List.mem_map.mp hs
  rfl
section
variable {X : Cx} {c : C0} {Γ : List Sl} {K : Sl → Prop} {pos p : Pos} {k : Nat} {f : Addr} {fd : FuncData} {ps : List Str} {pre : List Sl → Prop} {post : List Sl → Sl → Prop} {x : Str} {e : Expr} {es : List Expr}
/-- f(e, ..), no hand among the arguments -/
theorem wp_call (G : FnOk X.prog X.w X.K X.mg X.base L2.CX0 k f fd ps (SpD ps.length pre post)) (hr : Room k X.A) (hm : X.mg x = some (.ref f)) (hk : PySem.W.keepIn X.K (.ref f) = true) (hb : Binds X.K fd ps [])
    (h : WPa X c (e :: es) Γ fun rs => ∃ ds : List DL.D, rs = ds.map Sl.im ∧ ds.length = ps.length ∧ pre rs ∧ ∀ r, post rs r → isv r = false ∧ r ≠ .hand ∧ K r) (hg : Gl X x := by rfl) (hn : starEach (e :: es) X.env = (false, eval e X.env) :: starEach es X.env := by rfl) (hdb : (x == ("__debug__" : Str)) = false := by decide)
    (hpl : (backTo pos (starEach es X.env)).any (·.1) = false := by rfl) : WPe X c (.Call (.Name x p) (e :: es) [] pos) Γ K := fun F H stk S σ hl E Q q => by
  refine we_of (pe_call (E := L2.E0) G hr hg hm hk hb .nil L2.pass0 pa_wa hdb hn hpl) ?_
  refine h F H stk S σ hl E _ fun vs rs F1 H1 k1 hl1 E1 => ?_
  obtain ⟨ds, e1, hlen, hpre, k1⟩ := k1
  subst e1
  have hvl : vs.length = ds.length := by simpa using hl1
  obtain ⟨E2, hd⟩ := EnvR.dats hvl E1
  rw [List.append_nil]
  refine ⟨by rw [hvl, hlen], c0 F1 H1, F1, ds.map Sl.im, by simpa using hlen, hpre, nv_ims ds, rfl, rfl, env_args E2.ex hd trivial (fun a z => by cases z) rfl rfl, fun v r F' H' hpost E' => ?_⟩
  obtain ⟨h1, h2, h3⟩ := k1 r hpost
  refine q v r F' H' h3 (E2.ret E' rfl rfl (fun a z => by cases z) ?_ (fun z => absurd z h2) h1)
  refine c.stab H1 H' (fun a w => ?_) (fun a φ h => E'.fr a _ h (by intro z; cases z)) E2.hk
  cases z : H1 a with
  | none => exact absurd z (E2.wne w)
  | some o => exact E'.fr a o z (by intro z; cases z)
/-- f(hand, e, ..) -/
theorem wp_callH (G : FnOk X.prog X.w X.K X.mg X.base L2.CX0 k f fd ps (SpD ps.length pre post)) (hr : Room k X.A) (hm : X.mg x = some (.ref f)) (hk : PySem.W.keepIn X.K (.ref f) = true) (hb : Binds X.K fd ps [])
    (h : WPa X c (e :: es) Γ fun rs => ∃ ds : List DL.D, rs = Sl.hand :: ds.map Sl.im ∧ ds.length + 1 = ps.length ∧ pre rs ∧ ∀ r, post rs r → isv r = false ∧ K r) (hg : Gl X x := by rfl) (hn : starEach (e :: es) X.env = (false, eval e X.env) :: starEach es X.env := by rfl) (hdb : (x == ("__debug__" : Str)) = false := by decide)
    (hpl : (backTo pos (starEach es X.env)).any (·.1) = false := by rfl) : WPe X c (.Call (.Name x p) (e :: es) [] pos) Γ K := fun F H stk S σ hl E Q q => by
  refine we_of (pe_call (E := L2.E0) G hr hg hm hk hb .nil L2.pass0 pa_wa hdb hn hpl) ?_
  refine h F H stk S σ hl E _ fun vs rs F1 H1 k1 hl1 E1 => ?_
  obtain ⟨ds, e1, hlen, hpre, k1⟩ := k1
  subst e1
  cases vs with
  | nil => simp at hl1
  | cons v0 vs =>
    have hvl : vs.length = ds.length := by simpa using hl1
    have E1' : EnvR c F1 H1 (vs.reverse.map some ++ (some v0 :: (stk ++ σ))) ((ds.map Sl.im).reverse ++ (.hand :: (S ++ Γ))) := by simpa [List.append_assoc] using E1
    obtain ⟨E2, hd⟩ := EnvR.dats hvl E1'
    have e0 : v0 = .ref c.hp := by
      have := E2.hand (i := 0) rfl
      simpa using this
    subst e0
    rw [List.append_nil]
    let c1 : C0 := { c with F0 := F1, H0 := H1 }
    have EA : EnvR c1 F1 H1 (vs.map some) (ds.map Sl.im) := env_args E2.ex hd E2.hk E2.nw rfl rfl
    have EB : EnvR c1 F1 H1 (some (.ref c.hp) :: vs.map some) (.hand :: ds.map Sl.im) := EA.pushS ⟨rfl, rfl⟩
    refine ⟨by simp [hvl, hlen], c1, F1, .hand :: ds.map Sl.im, by simpa using hlen, hpre, (nv_ims ds).cons rfl, rfl, rfl, EB, fun v r F' H' hpost E' => ?_⟩
    obtain ⟨h1, h3⟩ := k1 r hpost
    exact q v r F' H' h3 (E2.pop.ret E' rfl rfl (fun a z => z) E'.hk (fun _ => rfl) h1)
end
end DL

set_option Elab.async false
set_option linter.all false
set_option maxRecDepth 100000
set_option maxHeartbeats 2000000
/-! DL5: promises of defs that are called where nothing is being shown (so repr of tuples and lists tells them whole) -/
namespace DL
open PySem PySem.Spec PyProof.Rows L2
/-- FnOk, where no guard of repr stands -/
structure FnG (P : Program) (w : World) (K : PySem.W.Frag) (mg : Str → Option Value) (base : Heap) (k : Nat) (f : Addr) (fd : FuncData) (ps : List Str) (sp : Sp) : Prop where
  len : ∀ vs H Q E, sp vs H Q E → vs.length = ps.length
  go : ∀ (A : Around) (outer : List Env) (s : Shared) (H : Hp) (args : Args) (us : List Value) (vs : List V) (Q : VK) (E : XK), A.guards = some [] → Room k A →
    Env0 P w K mg base A outer s H → BindsTo s fd args (ps.zip us) → Vals vs us → sp vs H Q E → codeAny (model P w) A (.call (.ref f) args) (CR L2.CX0 outer P w H s Q E) s
section
variable {P : Program} {w : World} {K : PySem.W.Frag} {mg : Str → Option Value} {base : Heap} {k : Nat} {f : Addr} {fd : FuncData} {ps : List Str} {sp : Sp}
theorem FnG.of (F : FnOk P w K mg base L2.CX0 k f fd ps sp) : FnG P w K mg base k f fd ps sp := ⟨F.len, fun A outer s H args us vs Q E _ => F.run A outer s H args us vs Q E⟩
theorem FnG.mono {j : Nat} (F : FnG P w K mg base j f fd ps sp) (h : j ≤ k) : FnG P w K mg base k f fd ps sp := ⟨F.len, fun A outer s H args us vs Q E hg hr => F.go A outer s H args us vs Q E hg (hr.mono h)⟩
theorem guards_deeper {A : Around} {env : Env} (h : A.guards = some []) : (A.deeper env).guards = some [] := h
/-- a def's own promise, by its body -/
theorem fn_G {x qual : Str} {st : Stmt} {N : List Str} (F : Fun K x qual st f fd) (S : FnScope N ps (defScope st)) {pre : List Sl → Prop} {post : List Sl → Sl → Prop}
    (hb : ∀ (cdv : Value) (A : Around) (outer : List Env) (s : Shared) (H : Hp) (E : XK) (c : C0) (rs : List Sl), A.guards = some [] → Room k (A.deeper (PyProof.Rows.envOfC qual (defScope st) s.heap.objs.size f cdv)) → rs.length = ps.length → pre rs →
      WPs (cxOf L2.CX0 P w K mg base N qual (defScope st) f cdv A outer s H E).nox c (defBody st) (rs ++ List.replicate (N.length - ps.length) .any) { nx := fun _ => post rs (.im .non), rt := post rs }) : FnG P w K mg base (k + 1) f fd ps (SpD ps.length pre post) := by
  obtain ⟨oc, od, kV, doc, pm, an, cdv, ct, osl, rfl, lk, hcd⟩ := F.ex
  refine ⟨fun vs H Q E h => h.1, fun A outer s H args us vs Q E hgd hr e0 hbd r h => ?_⟩
  obtain ⟨hl, c, F1, rs, hrl, hpre, nv, e1, e2, E1, q⟩ := h
  have inK : K.In s.heap := e0.mod.kin.keeps fun b o e => (e0.bs b o e).1
  have noLim : s.heap.NoLimit := e0.mod.nolimit.keeps fun b o e => (e0.bs b o e).1
  have kinds : ∀ y ∈ ps.zip us, (defScope st).names.lookup y.1 = some .local ∨ ((defScope st).names.lookup y.1 = some .cell ∧ ((cellsFrom (s.heap.objs.size + 1) (defScope st).names []).lookup y.1).isSome = true) := by
    rintro ⟨n, v⟩ hy
    rcases S.par n (List.of_mem_zip hy).1 with z | z
    · exact .inl z
    · exact .inr ⟨z, PySem.W.cellsFrom_some _ _ _ (.inl z)⟩
  apply codeAny_call_function hr.depth (inK _ _ lk) rfl S.co S.gen rfl (PySem.W.codeRec_of inK hcd)
  apply hbd
  apply wpAny_newFunctionEnv_cells S.kind kinds
  intro env he s1 x
  subst he
  refine ⟨noLim.keeps x.toInCall.keep, codeAny_func ?_⟩
  have I := inv_start (CX := L2.CX0) (P := P) (w := w) (K := K) (mg := mg) (base := base) (E := E) S hr.hd e0 hl r x
  have hst : L2.start N vs = vs.map some ++ List.replicate (N.length - ps.length) none := by
    unfold L2.start
    rw [hl]
  have W := hb cdv A outer s H E c rs hgd (hr.deeper _) hrl hpre F1 H _ ⟨E1.rest, nv.rest⟩ { nx := fun _ H' => Q .non H', rt := Q } ⟨fun Γ F H σ hn E' => q .non (.im .non) F H hn (E'.env.push (d := .non) rfl).only, fun r v F H hn E' => q v r F H hn E', fun Γ F H σ hn E' => hn.elim, fun Γ F H σ hn E' => hn.elim⟩
  have T := (pss_wss (X := (cxOf L2.CX0 P w K mg base N qual (defScope st) f cdv A outer s H E).nox) (sts := defBody st)).nox
  have run := T.run [] s1 (L2.start N vs) H { nx := fun _ H' => Q .non H', rt := Q } I (by rw [hst]; exact W)
  refine wpAny_mono run (fun fl s' hs => ?_) (fun e s' hs => hs)
  cases fl with
  | ret u =>
    obtain ⟨v, σ', H', J, rv, hq⟩ := hs
    exact ⟨v, H', J.os, J.bare, J.base, J.hok, rv, hq⟩
  | next =>
    obtain ⟨σ', H', J, hq⟩ := hs
    exact ⟨V.non, H', J.os, J.bare, J.base, J.hok, rfl, hq⟩
  | brk => exact hs.choose_spec.choose_spec.2.elim
  | cont => exact hs.choose_spec.choose_spec.2.elim
end
section
variable {X : Cx} {k : Nat} {f : Addr} {fd : FuncData} {ps : List Str} {sp : Sp} {x : Str} {p pos : Pos} {e : Expr} {es : List Expr} {t : TA}
/-- the call by its name -/
theorem pe_callG (G : FnG X.prog X.w X.K X.mg X.base k f fd ps sp) (hgd : X.A.guards = some []) (hr : Room k X.A) (hg : Gl X x) (hm : X.mg x = some (.ref f)) (hk : PySem.W.keepIn X.K (.ref f) = true) (hb : Binds X.K fd ps [])
    (ha : PA X (e :: es) t) (hdb : (x == ("__debug__" : Str)) = false := by decide) (he : starEach (e :: es) X.env = (false, eval e X.env) :: starEach es X.env := by rfl) (hpl : (backTo pos (starEach es X.env)).any (·.1) = false := by rfl) :
    PE X (.Call (.Name x p) (e :: es) [] pos) (fun σ H Q => t σ H fun vs H1 => sp vs H1 Q L2.E0) := by
  constructor
  intro pins s σ H Q I h
  apply wpAny_Call_Name_kw
  apply ld_glob I hg hm _ hdb
  apply PySem.W.callWith_K (h₀ := X.base) I.ok.mod.kin hk _ he hpl
  refine thn (ha.run pos pins s σ H _ I h) fun us s1 ⟨vs, H1, I1, r, q⟩ => ⟨I1.kIn, wpAny_call ?_⟩
  have hl : (us ++ ([] : List Value)).length = ps.length := by
    rw [List.append_nil, ← r.length]
    exact G.len _ _ _ _ q
  have hbind := hb s1 us I1.kIn hl
  rw [List.append_nil] at hbind
  refine codeAny_mono (G.go X.A X.stack s1 H1 ⟨us, []⟩ us vs Q L2.E0 hgd hr I1.env0 hbind r q) fun r s' hq => ?_
  cases r with
  | error e => exact hq.elim
  | ok fl =>
    cases fl with
    | ret u => exact I1.after hq
    | next => exact False.elim hq
    | brk => exact False.elim hq
    | cont => exact False.elim hq
end
section
variable {X : Cx} {c : C0} {Γ : List Sl} {K : Sl → Prop} {pos p : Pos} {k : Nat} {f : Addr} {fd : FuncData} {ps : List Str} {pre : List Sl → Prop} {post : List Sl → Sl → Prop} {x : Str} {e : Expr} {es : List Expr}
theorem wp_callG (G : FnG X.prog X.w X.K X.mg X.base k f fd ps (SpD ps.length pre post)) (hgd : X.A.guards = some []) (hr : Room k X.A) (hm : X.mg x = some (.ref f)) (hk : PySem.W.keepIn X.K (.ref f) = true) (hb : Binds X.K fd ps [])
    (h : WPa X c (e :: es) Γ fun rs => ∃ ds : List DL.D, rs = ds.map Sl.im ∧ ds.length = ps.length ∧ pre rs ∧ ∀ r, post rs r → isv r = false ∧ r ≠ .hand ∧ K r) (hg : Gl X x := by rfl) (hn : starEach (e :: es) X.env = (false, eval e X.env) :: starEach es X.env := by rfl) (hdb : (x == ("__debug__" : Str)) = false := by decide)
    (hpl : (backTo pos (starEach es X.env)).any (·.1) = false := by rfl) : WPe X c (.Call (.Name x p) (e :: es) [] pos) Γ K := fun F H stk S σ hl E Q q => by
  refine we_of (pe_callG G hgd hr hg hm hk hb pa_wa hdb hn hpl) ?_
  refine h F H stk S σ hl E _ fun vs rs F1 H1 k1 hl1 E1 => ?_
  obtain ⟨ds, e1, hlen, hpre, k1⟩ := k1
  subst e1
  have hvl : vs.length = ds.length := by simpa using hl1
  obtain ⟨E2, hd⟩ := EnvR.dats hvl E1
  refine ⟨by rw [hvl, hlen], c0 F1 H1, F1, ds.map Sl.im, by simpa using hlen, hpre, nv_ims ds, rfl, rfl, env_args E2.ex hd trivial (fun a z => by cases z) rfl rfl, fun v r F' H' hpost E' => ?_⟩
  obtain ⟨h1, h2, h3⟩ := k1 r hpost
  refine q v r F' H' h3 (E2.ret E' rfl rfl (fun a z => by cases z) ?_ (fun z => absurd z h2) h1)
  refine c.stab H1 H' (fun a w => ?_) (fun a φ h => E'.fr a _ h (by intro z; cases z)) E2.hk
  cases z : H1 a with
  | none => exact absurd z (E2.wne w)
  | some o => exact E'.fr a o z (by intro z; cases z)
theorem wp_callHG (G : FnG X.prog X.w X.K X.mg X.base k f fd ps (SpD ps.length pre post)) (hgd : X.A.guards = some []) (hr : Room k X.A) (hm : X.mg x = some (.ref f)) (hk : PySem.W.keepIn X.K (.ref f) = true) (hb : Binds X.K fd ps [])
    (h : WPa X c (e :: es) Γ fun rs => ∃ ds : List DL.D, rs = Sl.hand :: ds.map Sl.im ∧ ds.length + 1 = ps.length ∧ pre rs ∧ ∀ r, post rs r → isv r = false ∧ K r) (hg : Gl X x := by rfl) (hn : starEach (e :: es) X.env = (false, eval e X.env) :: starEach es X.env := by rfl) (hdb : (x == ("__debug__" : Str)) = false := by decide)
    (hpl : (backTo pos (starEach es X.env)).any (·.1) = false := by rfl) : WPe X c (.Call (.Name x p) (e :: es) [] pos) Γ K := fun F H stk S σ hl E Q q => by
  refine we_of (pe_callG G hgd hr hg hm hk hb pa_wa hdb hn hpl) ?_
  refine h F H stk S σ hl E _ fun vs rs F1 H1 k1 hl1 E1 => ?_
  obtain ⟨ds, e1, hlen, hpre, k1⟩ := k1
  subst e1
  cases vs with
  | nil => simp at hl1
  | cons v0 vs =>
    have hvl : vs.length = ds.length := by simpa using hl1
    have E1' : EnvR c F1 H1 (vs.reverse.map some ++ (some v0 :: (stk ++ σ))) ((ds.map Sl.im).reverse ++ (.hand :: (S ++ Γ))) := by simpa [List.append_assoc] using E1
    obtain ⟨E2, hd⟩ := EnvR.dats hvl E1'
    have e0 : v0 = .ref c.hp := by
      have := E2.hand (i := 0) rfl
      simpa using this
    subst e0
    let c1 : C0 := { c with F0 := F1, H0 := H1 }
    have EA : EnvR c1 F1 H1 (vs.map some) (ds.map Sl.im) := env_args E2.ex hd E2.hk E2.nw rfl rfl
    have EB : EnvR c1 F1 H1 (some (.ref c.hp) :: vs.map some) (.hand :: ds.map Sl.im) := EA.pushS ⟨rfl, rfl⟩
    refine ⟨by simp [hvl, hlen], c1, F1, .hand :: ds.map Sl.im, by simpa using hlen, hpre, (nv_ims ds).cons rfl, rfl, rfl, EB, fun v r F' H' hpost E' => ?_⟩
    obtain ⟨h1, h3⟩ := k1 r hpost
    exact q v r F' H' h3 (E2.pop.ret E' rfl rfl (fun a z => z) E'.hk (fun _ => rfl) h1)
end
/-! ### the law's own call -/
/-- the promise of the law's def: the script, a list of ints, is known -/
def LawG (P : Program) (w : World) (K : PySem.W.Frag) (mg : Str → Option Value) (k : Nat) (fa : Addr) (fd : FuncData) (x : Str) (n : Nat) : Prop :=
  ∀ base : Heap, K.In base → base.Ns mainGlobals mg → FnG P w K mg base k fa fd [x] (fun vs H Q _ => ∃ (a : Addr) (ns : List Int), vs = [.ref a] ∧ ns.length ≤ n ∧ Only H ∧ SqL K H a (ns.map V.int) ∧ ∀ H', Q (.bl true) H')
/-- the tracked heap of the start: the script alone, if it is no object of the module -/
def heap0 (K : PySem.W.Frag) (a : Addr) (o : Obj) (u : HO) : Hp := fun b => if b = a ∧ K.lookup a = none then some (.frz o u) else none
theorem heap0_cases {K : PySem.W.Frag} {a b : Addr} {o : Obj} {u : HO} : heap0 K a o u b = none ∨ (b = a ∧ K.lookup a = none ∧ heap0 K a o u b = some (.frz o u)) := by
  unfold heap0
  by_cases h : b = a ∧ K.lookup a = none
  · rw [if_pos h]
    exact .inr ⟨h.1, h.2, rfl⟩
  · rw [if_neg h]
    exact .inl rfl
theorem law_callG {P : Program} {w : World} {K : PySem.W.Frag} {mg mb : Str → Option Value} {k n : Nat} {fa a : Addr} {fd : FuncData} {x : Str} {s₁ : Shared} {vs : List Value} {ns : List Int}
    (KX : K.In s₁.heap) (hns : s₁.heap.Ns mainGlobals mg) (hb : s₁.heap.Ns builtinsNs mb) (hbb : ∀ x : Str, x ≠ "__name__" → mb x = bootBuiltins x) (hlim : s₁.heap.NoLimit) (hg : s₁.gens = #[])
    (ha : s₁.heap.get? a = some { cls := .type "list", data := .seq vs.toArray }) (hi : IntsAre vs ns) (hn : ns.length ≤ n) (hl : n ≤ sizeLine) (hr : Room k callerA)
    (F : LawG P w K mg k fa fd x n) (hbind : ∀ (s : Shared) (u : Value), BindsTo s fd ⟨[u], []⟩ [(x, u)]) :
    codeAny (model P w) callerA (.call (.ref fa) ⟨[.ref a], []⟩) (fun r s' => r = .ok (.ret (.bool true)) ∧ OldK s₁.heap s'.heap ∧ s'.os = s₁.os ∧ AllBare s'.gens) s₁ := by
  have rv := vals_ints hi
  let H : Hp := heap0 K a { cls := .type "list", data := .seq vs.toArray } (.lst (ns.map V.int))
  have hO : Only H := fun b => by
    rcases heap0_cases (K := K) (a := a) (b := b) (o := { cls := .type "list", data := .seq vs.toArray }) (u := .lst (ns.map V.int)) with z | ⟨_, _, z⟩
    · exact .inl z
    · exact .inr ⟨_, _, z⟩
  have hat : ∀ b u, H b = some u → b = a ∧ K.lookup a = none ∧ u = .frz { cls := .type "list", data := .seq vs.toArray } (.lst (ns.map V.int)) := fun b u hu => by
    rcases heap0_cases (K := K) (a := a) (b := b) (o := { cls := .type "list", data := .seq vs.toArray }) (u := .lst (ns.map V.int)) with z | ⟨z1, z2, z⟩
    · rw [show H b = none from z] at hu
      cases hu
    · rw [show H b = _ from z] at hu
      cases hu
      exact ⟨z1, z2, rfl⟩
  have hS : SqL K H a (ns.map V.int) := by
    cases hk : K.lookup a with
    | some o =>
      have e := KX a o hk
      rw [ha] at e
      cases e
      exact .inr ⟨_, vs.toArray, _, hk, rfl, rfl, rfl, by rw [List.size_toArray, ← rv.length, List.length_map]; omega, by simpa using rv⟩
    | none => exact .inl (.inr ⟨{ cls := .type "list", data := .seq vs.toArray }, if_pos ⟨rfl, hk⟩⟩)
  have hok : HOk P w H s₁.heap := fun b u hu => by
    obtain ⟨rfl, _, rfl⟩ := hat b u hu
    exact ⟨ha, by rw [List.length_map]; omega, vs, _, rv, ha⟩
  have free : ∀ {b : Addr} {o : Obj} {es : Array DictEntry} {ep : Nat}, s₁.heap.get? b = some o → o.data = .dict es ep → H b = none := fun {b o es ep} e d => by
    cases q : H b with
    | none => rfl
    | some u =>
      obtain ⟨rfl, _, _⟩ := hat b u q
      rw [ha] at e
      cases e
      exact absurd d (by intro z; cases z)
  have nsK : ∀ {b : Addr} {m : Str → Option Value}, s₁.heap.Ns b m → (hidT s₁.heap H).Ns b m := fun {b m} z => by
    obtain ⟨o, es, ep, e, d, r⟩ := z
    exact ⟨o, es, ep, hidT_get e (free e d), d, r⟩
  have hKb : K.In (hidT s₁.heap H) := fun b o e => hidT_get (KX b o e) (by
    cases q : H b with
    | none => rfl
    | some u =>
      obtain ⟨rfl, h2, _⟩ := hat b u q
      rw [h2] at e
      cases e)
  have lim' : (hidT s₁.heap H).NoLimit := by
    obtain ⟨mc, h1, h2⟩ := hlim
    exact ⟨mc, nsK h1, h2⟩
  have e0 : Env0 P w K mg (hidT s₁.heap H) callerA [] s₁ H := by
    refine ⟨rfl, ⟨hKb, nsK hns, ⟨mb, nsK hb, hbb⟩, lim'⟩, fun b o e => of_hidT e, Nat.le_of_eq (hidT_size _ _), trivial, fun b hb => ?_, hok, .of_eq hg⟩
    cases hb
  have R := (F _ hKb (nsK hns)).go callerA [] s₁ H ⟨[.ref a], []⟩ [.ref a] [.ref a] (fun v _ => v = .bl true) L2.E0 rfl hr e0 (hbind s₁ (.ref a)) (.cons rfl .nil) ⟨a, ns, rfl, hn, hO, hS, fun _ => rfl⟩
  refine codeAny_mono R fun r s' h => ?_
  cases r with
  | error e => exact h.elim
  | ok fl =>
    cases fl with
    | next => exact False.elim h
    | brk => exact False.elim h
    | cont => exact False.elim h
    | ret u =>
      obtain ⟨v, H', os, bare, un, hok', r', q⟩ := h
      have q' : v = .bl true := q
      subst q'
      have eu : u = Value.bool true := r'
      subst eu
      refine ⟨rfl, OldK.of_keep fun b o e => ?_, os, bare⟩
      cases q : H b with
      | none => exact un.keep b o e q (fun z => by cases z) (fun z => by cases z)
      | some y =>
        obtain ⟨rfl, _, rfl⟩ := hat b y q
        obtain ⟨e1, _⟩ := hok _ _ q
        obtain ⟨e2, _⟩ := hok' _ _ (un.frzs _ _ _ q)
        rw [e] at e1
        cases e1
        exact e2
/-- the goal that k_head leaves -/
theorem walk_ofG {l : PySem.W.OpenLaw} {n k : Nat} {q : Program} {loose : List Str} {XP : (Str → Option Value) → Heap → Prop} {YP : World → Heap → Prop} {d : DefRec} {K : Params → PySem.W.Frag} {x : Str}
    (hn : l.most = some n) (hn2 : n ≤ sizeLine) (hdf : d.params.defaults = []) (hr : Room k callerA)
    (hY : ∀ (w : World) (h : Heap), YP w h → (K w.params).In h)
    (F : ∀ (w : World) (mg : Str → Option Value) (fa : Addr) (h : Heap), (K w.params).In h → h.Ns mainGlobals mg → mg d.name = some (.ref fa) →
      ∃ fd : FuncData, (∀ (s : Shared) (u : Value), BindsTo s fd ⟨[u], []⟩ [(x, u)]) ∧ LawG l.prog w (K w.params) mg k fa fd x n) :
    PySem.W.WalkO q loose XP YP l.row.toRowW d [] (fun f vs => PySem.call f vs) := by
  refine Att.attach_call hn hdf fun w s₀ s₁ mg mb fa o pm cd doc a vs ns G Y ho hd hcd hmg hobj hints hlen hg => ?_
  have KX := hY w _ Y
  obtain ⟨fd, hb, hF⟩ := F w mg fa _ KX G.T.g hmg
  exact law_callG KX G.T.g G.T.b G.T.builtins G.T.nolimit hg hobj hints hlen hn2 hr hF hb
end DL

set_option Elab.async false
set_option linter.all false
set_option maxRecDepth 100000
set_option maxHeartbeats 2000000
/-! DL6: operations and built-ins on known data -/
namespace DL
open PySem PySem.Spec PyProof.Rows L2
mutual
def py : D → PyData
  | .non => .none
  | .bl b => .bool b
  | .int i => .int i
  | .str s => .str s
  | .tup l => .tuple (pys l)
  | .lst l => .list (pys l)
  | .dct _ _ => .dict []
def pys : List D → List PyData
  | [] => []
  | d :: r => py d :: pys r
end
theorem pys_map : ∀ l : List D, pys l = l.map py
  | [] => by simp [pys]
  | d :: r => by rw [pys, pys_map r]; rfl
mutual
theorem Dat.dp {X : Cx} {F H : Hp} (e : Ex F H) : ∀ {d : D} {v : V}, (py d).canLay0 = true → Dat F d v → Dp X.K H v (py d)
  | .non, v, _, h => by
    have h' : v = .non := h
    rw [h', py]
    exact .non
  | .bl b, v, _, h => by
    have h' : v = .bl b := h
    rw [h', py]
    exact .bl b
  | .int i, v, _, h => by
    have h' : v = .int i := h
    rw [h', py]
    exact .int i
  | .str s, v, _, h => by
    have h' : v = .str s := h
    rw [h', py]
    exact .str s
  | .tup l, v, z, h => by
    obtain ⟨p, vs, h1, h2, h3⟩ := h
    rw [h1, py]
    rw [py, PyData.canLay0] at z
    exact .tup (.inl (.inl (e _ _ h2))) (Dats.dp e z h3)
  | .lst l, v, z, h => by
    obtain ⟨p, vs, h1, h2, h3⟩ := h
    rw [h1, py]
    rw [py, PyData.canLay0] at z
    exact .lst (.inl (.inl (e _ _ h2))) (Dats.dp e z h3)
  | .dct ks l, v, z, h => by
    rw [py, PyData.canLay0] at z
    cases z
theorem Dats.dp {X : Cx} {F H : Hp} (e : Ex F H) : ∀ {l : List D} {vs : List V}, PyData.canLayAll0 (pys l) = true → Dats F l vs → DpAll X.K H vs (pys l)
  | [], vs, _, h => by
    have h' : vs = [] := h
    rw [h', pys]
    exact .nil
  | d :: r, vs, z, h => by
    obtain ⟨v, w, h1, h2, h3⟩ := h
    rw [h1, pys]
    rw [pys, PyData.canLayAll0, Bool.and_eq_true] at z
    exact .cons (Dat.dp e z.1 h2) (Dats.dp e z.2 h3)
end
/-- what an operand's slot holds -/
def lst? : Sl → Option (List D)
  | .im (.lst l) => some l
  | .vw (.lst l) => some l
  | _ => none
def seq? : Sl → Option (List D)
  | .im (.lst l) => some l
  | .vw (.lst l) => some l
  | .im (.tup l) => some l
  | _ => none
def dct? : Sl → Option (List Key × List D)
  | .im (.dct ks l) => some (ks, l)
  | .vw (.dct ks l) => some (ks, l)
  | _ => none
section
variable {c : C0} {F H : Hp} {σ : L2.St} {Γ : List Sl}
theorem EnvR.lstAt (E : EnvR c F H σ Γ) {i : Nat} {r : Sl} {l : List D} {v : V} (h : Γ[i]? = some r) (hv : σ[i]? = some (some v)) (hl : lst? r = some l) : ∃ p vs, v = .ref p ∧ H p = some (.lst vs) ∧ Dats F l vs := by
  cases r with
  | im d =>
    cases d with
    | lst l' =>
      cases hl
      obtain ⟨u, hu, p, vs, h1, h2, h3⟩ := E.im h
      rw [hv] at hu
      cases hu
      exact ⟨p, vs, h1, E.ex _ _ h2, h3⟩
    | _ => cases hl
  | vw d =>
    cases d with
    | lst l' =>
      cases hl
      obtain ⟨x, o, hx, _, p, hp, ⟨vs, h1, h2⟩, _⟩ := E.get h
      rw [hv] at hx
      have e := (Option.some.inj hx).trans hp
      cases e
      exact ⟨p, vs, rfl, h1, h2⟩
    | _ => cases hl
  | _ => cases hl
theorem EnvR.seqAt {K : PySem.W.Frag} (E : EnvR c F H σ Γ) {i : Nat} {r : Sl} {l : List D} {v : V} (h : Γ[i]? = some r) (hv : σ[i]? = some (some v)) (hl : seq? r = some l) : ∃ p vs, v = .ref p ∧ (SqL K H p vs ∨ SqT K H p vs) ∧ Dats F l vs := by
  have key : lst? r = some l → ∃ p vs, v = .ref p ∧ (SqL K H p vs ∨ SqT K H p vs) ∧ Dats F l vs := fun z => by
    obtain ⟨p, vs, h1, h2, h3⟩ := E.lstAt h hv z
    exact ⟨p, vs, h1, .inl (.inl (.inl h2)), h3⟩
  cases r with
  | im d =>
    cases d with
    | lst l' => exact key hl
    | tup l' =>
      cases hl
      obtain ⟨u, hu, p, vs, h1, h2, h3⟩ := E.im h
      rw [hv] at hu
      cases hu
      exact ⟨p, vs, h1, .inr (.inl (.inl (E.ex _ _ h2))), h3⟩
    | _ => cases hl
  | vw d =>
    cases d with
    | lst l' => exact key hl
    | _ => cases hl
  | _ => cases hl
theorem EnvR.dctAt (E : EnvR c F H σ Γ) {i : Nat} {r : Sl} {ks : List Key} {l : List D} {v : V} (h : Γ[i]? = some r) (hv : σ[i]? = some (some v)) (hl : dct? r = some (ks, l)) : ∃ p vs, v = .ref p ∧ H p = some (.dK (ks.zip vs)) ∧ ks.length = l.length ∧ Dats F l vs := by
  cases r with
  | im d =>
    cases d with
    | dct k' l' =>
      cases hl
      obtain ⟨u, hu, p, vs, h1, h2, h3, h4⟩ := E.im h
      rw [hv] at hu
      cases hu
      exact ⟨p, vs, h1, E.ex _ _ h2, h3, h4⟩
    | _ => cases hl
  | vw d =>
    cases d with
    | dct k' l' =>
      cases hl
      obtain ⟨x, o, hx, _, p, hp, ⟨vs, h1, h2, h3⟩, _⟩ := E.get h
      rw [hv] at hx
      have e := (Option.some.inj hx).trans hp
      cases e
      exact ⟨p, vs, rfl, h1, h2, h3⟩
    | _ => cases hl
  | _ => cases hl
theorem EnvR.imAt (E : EnvR c F H σ Γ) {i : Nat} {d : D} {v : V} (h : Γ[i]? = some (.im d)) (hv : σ[i]? = some (some v)) : Dat F d v := by
  obtain ⟨u, hu, hd⟩ := E.im h
  rw [hv] at hu
  cases hu
  exact hd
end
section
variable {X : Cx} {c : C0} {K : Sl → Prop} {f : Value → Value → Sem Value} {rr : R2}
/-! ### two-place operations -/
/-- on known data, telling known data -/
theorem opd_val (h : OpR X f rr) {da db dr : D} (hq : ∀ F H x y, Ex F H → Dat F da x → Dat F db y → ∃ v, Dat F dr v ∧ ∀ Q : VK, Q v H → rr x y H Q) (k : K (.im dr)) : OpD X c f (.im da) (.im db) K := fun F H L G x y E Q q pins s σ u w I rx ry => by
  have hx := E.imAt (i := 1) rfl rfl
  have hy := E.imAt (i := 0) rfl rfl
  obtain ⟨v, hv, hr⟩ := hq F H x y E.ex hx hy
  exact h pins s σ H x y u w Q I rx ry (hr Q (q v _ F H k (E.pop.pop.push hv)))
theorem opd_ii {g : Int → Int → V} (h : OpR X f (rI0 g)) {i j : Int} {dr : D} (hg : ∀ F, Dat F dr (g i j)) (k : K (.im dr)) : OpD X c f (.im (.int i)) (.im (.int j)) K :=
  opd_val h (fun F H x y _ hx hy => ⟨g i j, hg F, fun Q q => ⟨i, j, hx, hy, q⟩⟩) k
theorem opd_iic {C : Int → Int → Prop} {g : Int → Int → V} (h : OpR X f (rI C g)) {i j : Int} {dr : D} (hc : C i j) (hg : ∀ F, Dat F dr (g i j)) (k : K (.im dr)) : OpD X c f (.im (.int i)) (.im (.int j)) K :=
  opd_val h (fun F H x y _ hx hy => ⟨g i j, hg F, fun Q q => ⟨i, j, hx, hy, hc, q⟩⟩) k
variable {i j : Int}
theorem od_add (k : K (.im (.int (i + j)))) : OpD X c (binaryOp .Add) (.im (.int i)) (.im (.int j)) K := opd_ii (dr := .int (i + j)) op_add (fun _ => rfl) k
theorem od_sub (k : K (.im (.int (i - j)))) : OpD X c (binaryOp .Sub) (.im (.int i)) (.im (.int j)) K := opd_ii (dr := .int (i - j)) op_sub (fun _ => rfl) k
theorem od_lt (k : K (.im (.bl (decide (i < j))))) : OpD X c (compareOp .Lt) (.im (.int i)) (.im (.int j)) K := opd_ii (dr := .bl (decide (i < j))) op_lt (fun _ => rfl) k
theorem od_le (k : K (.im (.bl (decide (i ≤ j))))) : OpD X c (compareOp .LtE) (.im (.int i)) (.im (.int j)) K := opd_ii (dr := .bl (decide (i ≤ j))) op_le (fun _ => rfl) k
theorem od_gt (k : K (.im (.bl (decide (j < i))))) : OpD X c (compareOp .Gt) (.im (.int i)) (.im (.int j)) K := opd_ii (dr := .bl (decide (j < i))) op_gt (fun _ => rfl) k
theorem od_ge (k : K (.im (.bl (decide (j ≤ i))))) : OpD X c (compareOp .GtE) (.im (.int i)) (.im (.int j)) K := opd_ii (dr := .bl (decide (j ≤ i))) op_ge (fun _ => rfl) k
theorem od_iadd (k : K (.im (.int (i + j)))) : OpD X c (inplaceOp .Add) (.im (.int i)) (.im (.int j)) K := fun F H L G x y E Q q pins s σ u w I rx ry =>
  ip_add pins s σ H x y u w Q I rx ry ⟨i, j, E.imAt (i := 1) rfl rfl, E.imAt (i := 0) rfl rfl, q _ (.im (.int (i + j))) F H k (E.pop.pop.push rfl)⟩
theorem od_isub (k : K (.im (.int (i - j)))) : OpD X c (inplaceOp .Sub) (.im (.int i)) (.im (.int j)) K := fun F H L G x y E Q q pins s σ u w I rx ry =>
  ip_sub pins s σ H x y u w Q I rx ry ⟨i, j, E.imAt (i := 1) rfl rfl, E.imAt (i := 0) rfl rfl, q _ (.im (.int (i - j))) F H k (E.pop.pop.push rfl)⟩
theorem od_eqI (k : K (.im (.bl (decide (i = j))))) : OpD X c (compareOp .Eq) (.im (.int i)) (.im (.int j)) K :=
  opd_val (dr := .bl (decide (i = j))) op_eq (fun F H x y _ hx hy => ⟨.bl (decide (i = j)), rfl, fun Q q => by
    rw [show x = .int i from hx, show y = .int j from hy]
    exact ⟨rfl, by simpa using q⟩⟩) k
theorem od_neI (k : K (.im (.bl (!decide (i = j))))) : OpD X c (compareOp .NotEq) (.im (.int i)) (.im (.int j)) K :=
  opd_val (dr := .bl (!decide (i = j))) op_ne (fun F H x y _ hx hy => ⟨.bl (!decide (i = j)), rfl, fun Q q => by
    rw [show x = .int i from hx, show y = .int j from hy]
    exact ⟨rfl, by simpa using q⟩⟩) k
variable {a b : Str}
theorem od_eqS (k : K (.im (.bl (decide (a = b))))) : OpD X c (compareOp .Eq) (.im (.str a)) (.im (.str b)) K :=
  opd_val (dr := .bl (decide (a = b))) op_eq (fun F H x y _ hx hy => ⟨.bl (decide (a = b)), rfl, fun Q q => by
    rw [show x = .str a from hx, show y = .str b from hy]
    exact ⟨rfl, by simpa using q⟩⟩) k
theorem od_neS (k : K (.im (.bl (!decide (a = b))))) : OpD X c (compareOp .NotEq) (.im (.str a)) (.im (.str b)) K :=
  opd_val (dr := .bl (!decide (a = b))) op_ne (fun F H x y _ hx hy => ⟨.bl (!decide (a = b)), rfl, fun Q q => by
    rw [show x = .str a from hx, show y = .str b from hy]
    exact ⟨rfl, by simpa using q⟩⟩) k
theorem od_eqD (hu : X.A.units + 64 < cLine) {d e : D} (h1 : SeqAt.shaped (py d) = true) (h2 : SeqAt.shaped (py e) = true) (k : K (.im (.bl (PyData.eqv (py d) (py e))))) : OpD X c (compareOp .Eq) (.im d) (.im e) K :=
  opd_val (dr := .bl (PyData.eqv (py d) (py e))) (op_eqD hu) (fun F H x y ex hx hy => ⟨.bl _, rfl, fun Q q => ⟨py d, py e, hx.dp ex (SeqAt.canLay_of_shaped h1), hy.dp ex (SeqAt.canLay_of_shaped h2), h1, h2, q⟩⟩) k
theorem od_neD (hu : X.A.units + 64 < cLine) {d e : D} (h1 : SeqAt.shaped (py d) = true) (h2 : SeqAt.shaped (py e) = true) (k : K (.im (.bl (!PyData.eqv (py d) (py e))))) : OpD X c (compareOp .NotEq) (.im d) (.im e) K :=
  opd_val (dr := .bl (!PyData.eqv (py d) (py e))) (op_neD hu) (fun F H x y ex hx hy => ⟨.bl _, rfl, fun Q q => ⟨py d, py e, hx.dp ex (SeqAt.canLay_of_shaped h1), hy.dp ex (SeqAt.canLay_of_shaped h2), h1, h2, q⟩⟩) k
theorem od_notInStr {z : Bool} (hz : (Builtin.Str.occurrences b a 0 b.length 1).isEmpty = z) (k : K (.im (.bl z))) : OpD X c (compareOp .NotIn) (.im (.str a)) (.im (.str b)) K :=
  opd_val (dr := .bl z) op_notIn_str (fun F H x y _ hx hy => ⟨.bl z, rfl, fun Q q => ⟨a, b, hx, hy, by rw [hz]; cases z <;> exact q⟩⟩) k
/-- a text in a list or tuple of texts -/
theorem flat_strs : ∀ (l : List Str), (l.map V.str).all flatV = true
  | [] => rfl
  | _ :: r => flat_strs r
theorem in_strs {a : Str} : ∀ (l : List Str), inV (.str a) (l.map V.str) = decide (a ∈ l)
  | [] => rfl
  | b :: r => by
    have ih := in_strs (a := a) r
    unfold inV at ih ⊢
    rw [List.map_cons, List.any_cons, ih]
    have e : eqV (.str b) (.str a) = decide (a = b) := by
      show (b == a) = decide (a = b)
      by_cases q : a = b
      · subst q
        simp
      · have q2 : ¬ b = a := fun z => q z.symm
        simp [q, q2]
    rw [e]
    simp [List.mem_cons]
theorem od_inS {r : Sl} {l : List Str} (hr : seq? r = some (l.map D.str)) (k : K (.im (.bl (decide (a ∈ l))))) : OpD X c (compareOp .In) (.im (.str a)) r K := fun F H L G x y E Q q pins s σ u w I rx ry => by
  obtain ⟨p, vs, e1, h2, h3⟩ := E.seqAt (K := X.K) (i := 0) rfl rfl hr
  have hx : x = .str a := E.imAt (i := 1) rfl rfl
  subst e1 hx
  rw [h3.strs] at h2
  exact op_in_seq pins s σ H _ _ u w Q I rx ry ⟨p, l.map V.str, rfl, h2, rfl, flat_strs l, by
    rw [if_neg Bool.false_ne_true, in_strs]
    exact q _ (.im (.bl (decide (a ∈ l)))) F H k (E.pop.pop.push rfl)⟩
theorem od_notInS {r : Sl} {l : List Str} (hr : seq? r = some (l.map D.str)) (k : K (.im (.bl (!decide (a ∈ l))))) : OpD X c (compareOp .NotIn) (.im (.str a)) r K := fun F H L G x y E Q q pins s σ u w I rx ry => by
  obtain ⟨p, vs, e1, h2, h3⟩ := E.seqAt (K := X.K) (i := 0) rfl rfl hr
  have hx : x = .str a := E.imAt (i := 1) rfl rfl
  subst e1 hx
  rw [h3.strs] at h2
  exact op_notIn_seq pins s σ H _ _ u w Q I rx ry ⟨p, l.map V.str, rfl, h2, rfl, flat_strs l, by
    rw [if_pos rfl, in_strs]
    exact q _ (.im (.bl (!decide (a ∈ l)))) F H k (E.pop.pop.push rfl)⟩
/-- list + list -/
theorem od_cat {ra rb : Sl} {l m : List D} (h1 : lst? ra = some l) (h2 : lst? rb = some m) (hz : l.length + m.length ≤ sizeLine) (k : K (.own (.lst (l ++ m)))) : OpD X c (binaryOp .Add) ra rb K := fun F H L G x y E Q q pins s σ u w I rx ry => by
  obtain ⟨p, vs, e1, h3, h4⟩ := E.lstAt (i := 1) rfl rfl h1
  obtain ⟨p2, ws, e2, h5, h6⟩ := E.lstAt (i := 0) rfl rfl h2
  subst e1 e2
  exact op_cat pins s σ H _ _ u w Q I rx ry ⟨p, p2, vs, ws, rfl, rfl, h3, h5, by rw [← h4.length, ← h6.length]; exact hz, fun a ha => q _ (.own (.lst (l ++ m))) F _ k (E.pop.pop.pushOwn ha ⟨vs ++ ws, upd_same, h4.append h6⟩)⟩
theorem od_catStr (hz : a.length + b.length ≤ sizeLine) (k : K (.im (.str (a ++ b)))) (h : OpR X (binaryOp .Add) (fun x y H Q => ∃ i j, x = .str i ∧ y = .str j ∧ i.length + j.length ≤ sizeLine ∧ Q (.str (i ++ j)) H)) : OpD X c (binaryOp .Add) (.im (.str a)) (.im (.str b)) K :=
  opd_val (dr := .str (a ++ b)) h (fun F H x y _ hx hy => ⟨.str (a ++ b), rfl, fun Q q => ⟨a, b, hx, hy, hz, q⟩⟩) k
/-! ### xs[i] -/
theorem xd_seq {r : Sl} {l : List D} {i : Int} {d : D} (hr : seq? r = some l) (hi : atI l i = some d) (k : K (.im d)) : IxD X c r (.im (.int i)) K := fun F H L G x y E Q q value slice pins s σ v u I rx ry hs => by
  obtain ⟨p, vs, e1, h2, h3⟩ := E.seqAt (K := X.K) (i := 1) rfl rfl hr
  have hy : y = .int i := E.imAt (i := 0) rfl rfl
  subst e1 hy
  have hat : ∃ z, atI vs i = some z ∧ Dat F d z := by
    unfold atI at hi ⊢
    cases q : ixN l.length i with
    | none =>
      rw [q] at hi
      cases hi
    | some n =>
      rw [q] at hi
      rw [← h3.length, q]
      exact h3.get hi
  obtain ⟨z, hz, hd⟩ := hat
  have fin := q z (.im d) F H k (E.pop.pop.push hd)
  rcases h2 with h2 | h2
  · exact ix_list value slice pins s σ H _ _ v u Q I rx ry ⟨p, vs, i, z, rfl, rfl, h2, hz, fin⟩ hs
  · exact ix_tup value slice pins s σ H _ _ v u Q I rx ry ⟨p, vs, i, z, rfl, rfl, h2, hz, fin⟩ hs
/-! ### calls -/
theorem cd_val {fv : Value} {cr : List V → Hp → VK → Prop} (h : CallR X fv cr) {ds : List D} {dr : D} (hq : ∀ F H xs, Ex F H → Dats F ds xs → ∃ v, Dat F dr v ∧ ∀ Q : VK, Q v H → cr xs H Q) (k : K (.im dr)) : CallD X c fv (ds.map Sl.im) K := fun F H L G vs hl E Q q pins s σ us I r => by
  obtain ⟨E2, hd⟩ := EnvR.dats (by simpa using hl) E
  obtain ⟨v, hv, hr⟩ := hq F H vs E2.ex hd
  exact h pins s σ H vs us Q I r (hr Q (q v _ F H k (E2.push hv)))
theorem cd_one {fv : Value} {cr : List V → Hp → VK → Prop} (h : CallR X fv cr) {r : Sl} (hq : ∀ F H L G v, EnvR c F H (some v :: L) (r :: G) → ∀ Q : VK, (∀ w r' F' H', K r' → EnvR c F' H' (some w :: L) (r' :: G) → Q w H') → cr [v] H Q) : CallD X c fv [r] K := fun F H L G vs hl E Q q pins s σ us I rv => by
  cases vs with
  | nil => simp at hl
  | cons v w =>
    cases w with
    | nil => exact h pins s σ H _ us Q I rv (hq F H L G v E Q q)
    | cons => simp at hl
theorem cd_len {r : Sl} {l : List D} (hr : seq? r = some l) (k : K (.im (.int l.length))) : CallD X c (.builtin "len") [r] K := cd_one call_len_seq fun F H L G v E Q q => by
  obtain ⟨p, vs, e1, h2, h3⟩ := E.seqAt (K := X.K) (i := 0) rfl rfl hr
  exact ⟨p, vs, by rw [e1], h2, by rw [← h3.length]; exact q _ (.im (.int l.length)) F H k (E.pop.push rfl)⟩
theorem cd_min (hc : X.calm = true) {i j : Int} (k : K (.im (.int (min i j)))) : CallD X c (.builtin "min") [.im (.int i), .im (.int j)] K :=
  cd_val (ds := [.int i, .int j]) (dr := .int (min i j)) (call_min2 hc) (fun F H xs _ hx => ⟨.int (min i j), rfl, fun Q q => by
    obtain ⟨v, w, e, hv, v2, w2, e2, hv2, e3⟩ := hx
    have e3' : w2 = [] := e3
    subst e3' e2 e
    rw [show v = .int i from hv, show v2 = .int j from hv2]
    refine ⟨i, j, rfl, ?_⟩
    have e : min i j = if j < i then j else i := by
      split <;> omega
    rw [e] at q
    exact q⟩) k
theorem cd_list {r : Sl} {l : List D} (hr : seq? r = some l) (k : K (.own (.lst l))) : CallD X c (.type "list") [r] K := cd_one call_list_of fun F H L G v E Q q => by
  obtain ⟨p, vs, e1, h2, h3⟩ := E.seqAt (K := X.K) (i := 0) rfl rfl hr
  exact ⟨p, vs, by rw [e1], h2, fun a ha => q _ (.own (.lst l)) F _ k (E.pop.pushOwn ha ⟨vs, upd_same, h3⟩)⟩
theorem cd_tuple {r : Sl} {l : List D} (hr : seq? r = some l) (k : K (.im (.tup l))) : CallD X c (.type "tuple") [r] K := cd_one call_tuple_of fun F H L G v E Q q => by
  have key : lst? r = some l → ∃ p ys, [v] = [V.ref p] ∧ ((SqL X.K H p ys ∧ ∀ l, H l = none → Q (.ref l) (upd H l (.tup ys))) ∨ (SqT X.K H p ys ∧ Q (.ref p) H)) := fun z => by
    obtain ⟨p, vs, h1, h2, h3⟩ := E.lstAt (i := 0) rfl rfl z
    exact ⟨p, vs, by rw [h1], .inl ⟨.inl (.inl h2), fun a ha => q _ (.im (.tup l)) _ _ k (E.pop.pushTup ha h3)⟩⟩
  cases r with
  | im d =>
    cases d with
    | lst l' => exact key hr
    | tup l' =>
      cases hr
      obtain ⟨p, vs, h1, h2, h3⟩ := E.imAt (i := 0) rfl rfl
      exact ⟨p, vs, by rw [h1], .inr ⟨.inl (.inl (E.ex _ _ h2)), q _ (.im (.tup l)) F H k (by rw [← h1]; exact E)⟩⟩
    | _ => cases hr
  | vw d =>
    cases d with
    | lst l' => exact key hr
    | _ => cases hr
  | _ => cases hr
theorem cd_sum (hc : X.calm = true) {r : Sl} {ns : List Int} (hr : lst? r = some (ns.map D.int)) (k : K (.im (.int ns.sum))) : CallD X c (.builtin "sum") [r] K := cd_one (cr_sum hc) fun F H L G v E Q q => by
  obtain ⟨p, vs, e1, h2, h3⟩ := E.lstAt (i := 0) rfl rfl hr
  rw [h3.ints] at h2
  exact ⟨p, ns, by rw [e1], .inl (.inl h2), q _ (.im (.int ns.sum)) F H k (E.pop.push rfl)⟩
theorem Dats.bls {F : Hp} : ∀ {ns : List Bool} {vs : List V}, Dats F (ns.map D.bl) vs → vs = ns.map V.bl
  | [], vs, h => h
  | n :: r, vs, h => by
    obtain ⟨v, w, rfl, hd, q⟩ := h
    have e : v = .bl n := hd
    rw [e, Dats.bls q]
    rfl
theorem cd_all (hc : X.calm = true) {r : Sl} {bs : List Bool} (hr : lst? r = some (bs.map D.bl)) (k : K (.im (.bl (bs.all id)))) : CallD X c (.builtin "all") [r] K := cd_one (cr_all hc) fun F H L G v E Q q => by
  obtain ⟨p, vs, e1, h2, h3⟩ := E.lstAt (i := 0) rfl rfl hr
  rw [h3.bls] at h2
  exact ⟨p, bs, by rw [e1], .inl (.inl h2), q _ (.im (.bl (bs.all id))) F H k (E.pop.push rfl)⟩
/-- repr of nested lists and tuples -/
theorem cd_repr (hg : X.A.guards = some []) (hu : X.A.units + 64 < cLine) {r : Sl} {l : List D} {d : D} (hr : r = .im d) (hd : d = .tup l ∨ d = .lst l) (hl : (py d).canLay0 = true) (hdp : (py d).depth ≤ 60) (hs : (py d).showable = true) (hz : (py d).shown.length ≤ sizeLine) (k : K (.im (.str (py d).shown))) : CallD X c (.builtin "repr") [r] K := fun F H L G vs hl' E Q q pins s σ us I rv => by
  subst hr
  cases vs with
  | nil => simp at hl'
  | cons v w =>
    cases w with
    | cons => simp at hl'
    | nil =>
      have hv := E.imAt (i := 0) rfl rfl
      have hp := hv.dp (X := X) E.ex hl
      obtain ⟨u, eu, ru⟩ := vals1 rv
      subst eu
      obtain ⟨as, R⟩ := Dp.reads I (py d) v u hp ru
      obtain ⟨p, ep⟩ : ∃ p, u = .ref p := by
        rcases hd with e | e
        · subst e
          obtain ⟨p, vs, h1, _⟩ := hv
          subst h1
          exact ⟨p, ru⟩
        · subst e
          obtain ⟨p, vs, h1, _⟩ := hv
          subst h1
          exact ⟨p, ru⟩
      subst ep
      refine repr_of_reads' R hs (fun z => ?_) hg (by omega) (fun _ _ e => e) (fun h' t tk hk => ?_) hz
      · rw [PyData.hasDict_of_canLay _ hl] at z
        cases z
      · exact ⟨.str (py d).shown, H, I.kept hk, ⟨t, rfl⟩, q _ (.im (.str (py d).shown)) F H k (E.pop.push rfl)⟩
end
end DL

set_option Elab.async false
set_option linter.all false
set_option maxRecDepth 100000
set_option maxHeartbeats 2000000
/-! DL7: enumerate and zip of known tuples and lists -/
namespace DL
open PySem PySem.Spec PyProof.Rows L2
/-- an iterator that gives n new tuples, of what Src knows -/
def ItW (n : Nat) (item : Nat → List V) (Src : Hp → Prop) : It :=
  ⟨fun i H => i < n ∧ Src H, fun i H v H' => ∃ T, v = .ref T ∧ H T = none ∧ H' = upd H T (.tup (item i)), fun i H => i = n ∧ Src H⟩
theorem itok_W {n : Nat} {item : Nat → List V} {Src srcF : Hp → Prop} {ds : Nat → List D} (mono : ∀ F F', Ex F F' → srcF F → srcF F') (sr : ∀ F H, Ex F H → srcF F → Src H) (hd : ∀ F i, srcF F → i < n → Dats F (ds i) (item i)) : ItOk (ItW n item Src) n (fun i => .tup (ds i)) srcF where
  mono := mono
  go := fun F H i e h hi => ⟨hi, sr F H e h⟩
  yld := fun c F H σ Γ i x H' E h hi hy => by
    obtain ⟨T, rfl, hT, rfl⟩ := hy
    exact ⟨_, Ex.new (E.ex.back hT), E.pushTup hT (hd F i h hi)⟩
  stop := fun F H e h => ⟨rfl, sr F H e h⟩
section
variable {P : Program} {w : World} {K : PySem.W.Frag} {elts : List Expr} {kk : Nat} {tpos : Pos}
/-- any of the library's walks that hands out tuples, over sources that the abstract heap knows -/
theorem turn_W {ι : Type} {it : Addr} {fp fpW ch : List Addr} {n : Nat} {tn : Nat → Heap → Prop} {Src : Hp → Prop} {item : Nat → List V} {good : ι → Prop} {has : ι → Heap → Prop} {vals : ι → Nat → Array Value → Prop} {mid : ι → Nat → Addr → Heap → Prop} (mem : it ∈ fp) (chs : ∀ b ∈ ch, b ∈ fp)
    (obj : ∀ i h, tn i h → ∀ b ∈ fp, ∃ o, h.get? b = some o ∧ ∀ v, o.data ≠ .cell v) (keep : ∀ i h h', tn i h → (∀ b ∈ fp, ∀ o, h.get? b = some o → h'.get? b = some o) → tn i h')
    (W : ∀ (A : Around) (z : ι), A.handled = none → good z → WalksT P w A it fpW ch n (vals z) (fun i h => tn i h ∧ has z h) (mid z))
    (src : ∀ (X : Cx) (pins : List (Addr × Obj)) (s : Shared) (σ : L2.St) (H : Hp), X.prog = P → X.w = w → X.K = K → Inv X pins σ H s → Src H → ∃ z, good z ∧ has z s.heap ∧ ∀ i vs, i < n → vals z i vs → Vals (item i) vs.toList)
    (small : ∀ i, (item i).length ≤ sizeLine) (keepS : ∀ (H : Hp) T o, H T = none → Src H → Src (upd H T o))
    (self : ∀ (A : Around) (i : Nat) (s : Shared) (Q : Value → Shared → Prop) (E : Value → Shared → Prop), tn i s.heap → Q (.ref it) s → wpAny (model P w) A (pyIter (.ref it)) Q E s) :
    Turn P w K (.Tuple elts kk tpos) (ItW n item Src) fp it tn where
  mem := mem
  obj := obj
  keep := keep
  item := by
    intro X hP hw hK hc i pins s σ H E I hf st hg
    obtain ⟨hi, hS⟩ := hg
    obtain ⟨z, hz, hh, hv⟩ := src X pins s σ H hP hw hK I hS
    subst hP hw hK
    have Wz := W X.A z (I.ok.hd hc) hz
    refine Wz.item i s _ E hi ⟨st, hh⟩ fun T vs h' tk hvs hT hTup hm hk => ⟨_, rfl, ?_⟩
    refine Wz.go elts kk tpos i T { s with heap := h', toks := tk } _ E hm fun h'' st'' hk' => ?_
    have hTch : T ∉ ch := Wz.apart i T h' hm
    obtain ⟨o, ho, hoc, m, hod⟩ := hTup
    have new : ObjOk X.prog X.w (upd H T (.tup (item i))) h'' T (.tup (item i)) := ⟨small i, vs.toList, hv i vs hi hvs, ⟨o, hk' T o hTch ho, hoc, m, by simpa using hod⟩⟩
    have I1 : Inv X pins σ (upd H T (.tup (item i))) { s with heap := h'', toks := tk } := I.turnedNew (ch := ch) (fun b o hb e => hk' b o hb (hk b o hb e)) (fun b hb => hf b (chs b hb)) hT new
    refine ⟨.ref T, _, I1, rfl, ⟨T, rfl, I.hok.fresh hT, rfl⟩, st''.1, fun b hb => ?_⟩
    obtain ⟨ob, eb, _⟩ := obj i _ st b hb
    have hlt : b < s.heap.objs.size := Heap.lt_size eb
    rw [upd_ne (fun e => absurd hlt (by rw [e]; exact Nat.not_lt.mpr hT))]
    exact (hf b hb).1
  done := by
    intro X hP hw hK hc i pins s σ H E I hf st hg
    obtain ⟨hi, hS⟩ := hg
    obtain ⟨z, hz, hh, hv⟩ := src X pins s σ H hP hw hK I hS
    subst hP hw hK hi
    exact (W X.A z (I.ok.hd hc) hz).done s _ E ⟨st, hh⟩ fun h' tk hk => ⟨rfl, I.turnedL (t' := tk) (ch := ch) (fun b o hb e => hk b o hb e) fun b hb => hf b (chs b hb)⟩
  self := self
end
/-! ### enumerate of a tuple -/
theorem meets_enumT {v : Value} {o : Obj} {Hh : Heap → Prop} (B : Begins v o Hh) : Meets (Builtin.«enumerate.__new__» ⟨[.type "enumerate", v], []⟩) (fun _ R s => Hh s.heap ∧
      R (.ok (.ret (.ref (s.heap.push o).objs.size))) { s with heap := (s.heap.push o).push { cls := .type "enumerate", data := .fields #[.none, .bool false, .ref s.heap.objs.size, rawInt 0, .none, .none] } }) :=
  .of_wp fun prog w A R s h => by
    obtain ⟨hp, g, d, tk, os⟩ := s
    obtain ⟨h1, h⟩ := h
    have hsub := sub_enumerate
    have step : ∀ {A' : Around} {E : Value → Shared → Prop} {Q : Value → Shared → Prop}, Q (.ref hp.objs.size) ⟨hp.push o, g, d, tk, os⟩ → wpAny (model prog w) A' (pyIter v) Q E ⟨hp, g, d, tk, os⟩ := fun q => B.iter prog w _ _ ⟨hp, g, d, tk, os⟩ _ h1 q
    wp_walk using step
    refine wpAny_stack_any fun st => wpAny_pure ?_
    split
    · rename_i cc _ _ _ _ _
      cases (cc == Value.type "enumerate") <;> (wp_walk using step; exact ⟨_, rfl, h⟩)
    · wp_walk using step
      exact ⟨_, rfl, h⟩
theorem call_enumT {prog : Program} {w : World} {A : Around} {E : Value → Shared → Prop} {s : Shared} {v : Value} {o : Obj} {Hh : Heap → Prop} {Q : Value → Shared → Prop} (B : Begins v o Hh) (h1 : Hh s.heap)
    (h : ∀ h', IsEnum h' (s.heap.objs.size + 1) s.heap.objs.size 0 .none → h'.get? s.heap.objs.size = some o → (∀ b o, s.heap.get? b = some o → h'.get? b = some o) → Q (.ref (s.heap.objs.size + 1)) { s with heap := h' }) : wpAny (model prog w) A (call (.type "enumerate") [v]) Q E s := by
  refine callType_new F.called_enumerate (by decide) (F.typeCall_enumerate_1 _) (F.newCall_enumerate_1 _) (fun obj => F.args_object_init_2 obj _) F.entry_enumerate_new (meets_enumT B) ⟨h1, ?_⟩
  have sz : (s.heap.push o).objs.size = s.heap.objs.size + 1 := Heap.size_push ..
  show _ ∧ _
  rw [sz]
  have he : IsEnum ((s.heap.push o).push { cls := .type "enumerate", data := .fields #[.none, .bool false, .ref s.heap.objs.size, rawInt 0, .none, .none] }) (s.heap.objs.size + 1) s.heap.objs.size 0 .none := by
    have q := Heap.get?_push_size (s.heap.push o) (o := { cls := .type "enumerate", data := .fields #[.none, .bool false, .ref s.heap.objs.size, rawInt 0, .none, .none] }) rfl
    rw [sz] at q
    exact q
  exact ⟨⟨_, he, rfl⟩, h _ he (Heap.get?_push_of_some _ (Heap.get?_push_size _ B.free)) fun b o x => Heap.get?_push_of_some _ (Heap.get?_push_of_some _ x)⟩
theorem WalksT.copy {prog : Program} {w : World} {A : Around} {it : Addr} {fp ch : List Addr} {n m : Nat} {P P' : Nat → Array Value → Prop} {St St' : Nat → Heap → Prop} {M : Nat → Addr → Heap → Prop} (W : WalksT prog w A it fp ch n P St M) (hn : n = m) (hP : P = P') (hS : St = St') : WalksT prog w A it fp ch m P' St' M := by
  subst hn hP hS
  exact W
def iEnumT (K : PySem.W.Frag) (ta : TA) : TI := fun σ H R => ta σ H fun vs H1 => ∃ a xs, vs = [.ref a] ∧ SqT K H1 a xs ∧ R (ItW xs.length (fun i => [.int (i : Nat), xs.getD i .non]) fun H => SqT K H a xs) H1
theorem sqT_upd {K : PySem.W.Frag} {H : Hp} {a T : Addr} {o : HO} {xs : List V} (h : H T = none) (q : SqT K H a xs) : SqT K (upd H T o) a xs := by
  rcases q with q | q
  · left
    rcases q with q | ⟨u, q⟩
    · exact .inl (by rw [upd_ne (ne_of_none q h)]; exact q)
    · exact .inr ⟨u, by rw [upd_ne (ne_of_none q h)]; exact q⟩
  · exact .inr q
theorem pi_enumT {X : Cx} {e : Expr} {ta : TA} {p pos tpos : Pos} {elts : List Expr} {kk : Nat} (hm : X.mg "enumerate" = none) (ha : PA X [e] ta) (hg : Gl X "enumerate" := by rfl) (hs : starEach [e] X.env = [(false, eval e X.env)] := by rfl) :
    PI X (.Tuple elts kk tpos) (.Call (.Name "enumerate" p) [e] [] pos) (iEnumT X.K ta) := by
  constructor
  intro pins s σ H R I h
  refine Call_ ?_
  apply ld_blt I hg hm boot_enumerate
  refine PyProof.Rows.callWith_type1 (thn (ha.run pos pins s σ H _ I h) fun us s1 hq => ?_) hs rfl
  obtain ⟨vs, H1, I1, r1, a, xs, rfl, hq, q⟩ := hq
  obtain ⟨u, rfl, ru⟩ := vals1 r1
  have eu : u = Value.ref a := ru
  subst eu
  obtain ⟨its0, rv0, p0, z0⟩ := I1.tuple hq
  have hal : a < s1.heap.objs.size := p0.lt
  refine call_enumT (begins_tuple a its0.toArray) p0 fun h' he hit hk => wpAny_pyIter_enum he ?_
  have I2 : Inv X pins σ H1 { s1 with heap := h' } := I1.kept (t' := s1.toks) hk
  have hne : s1.heap.objs.size + 1 ≠ s1.heap.objs.size := Nat.succ_ne_self _
  refine ⟨s1.heap.objs.size + 1, [s1.heap.objs.size + 1, s1.heap.objs.size], fun i h => (∃ old, IsEnum h (s1.heap.objs.size + 1) s1.heap.objs.size (0 + (i : Int)) old) ∧ h.IsTupleIter s1.heap.objs.size a i, _, H1, rfl, I2, ?_, ⟨⟨.none, by simpa using he⟩, ⟨_, hit, rfl, rfl⟩⟩, fun b hb => ?_, q⟩
  · refine turn_W (ι := Array Value) (good := fun z => z.size = xs.length) (has := fun z h => h.IsTuple a z) (fpW := [s1.heap.objs.size + 1, s1.heap.objs.size, a]) (ch := [s1.heap.objs.size + 1, s1.heap.objs.size]) (vals := fun z i vals => ∃ t x, z[i]? = some x ∧ vals = #[.int (0 + (i : Int)) t, x]) (mid := fun z i T h => (∃ x, IsEnumOut h (s1.heap.objs.size + 1) s1.heap.objs.size (0 + (i : Int) + 1) x T) ∧ (h.IsTupleIter s1.heap.objs.size a (i + 1) ∧ h.IsTuple a z) ∧ T ≠ s1.heap.objs.size + 1 ∧ T ≠ s1.heap.objs.size)
      (by simp) (fun b hb => hb) (fun i h st b hb => ?_) (fun i h g st k => ?_) (fun A z hA hz => ?_) (fun Y pins s σ H hP hw hK J hS => ?_) (fun i => by show 2 ≤ sizeLine; decide) (fun H T o hT hS => sqT_upd hT hS) (fun A i s Q E st h => ?_)
    · obtain ⟨⟨old, he⟩, o, ho, hc, hd⟩ := st
      have e' : b = s1.heap.objs.size + 1 ∨ b = s1.heap.objs.size := by simpa using hb
      rcases e' with z | z
      · rw [z]
        exact ⟨_, he, fun v q => by cases q⟩
      · rw [z]
        exact ⟨o, ho, fun v q => by rw [hd] at q; cases q⟩
    · obtain ⟨⟨old, he⟩, hi⟩ := st
      exact ⟨⟨old, k _ (by simp) _ he⟩, hi.at fun o q => k _ (by simp) o q⟩
    · refine WalksT.copy (WalksT.enumFrom 0 (Draws.tuple (A := A.in1) hA s1.heap.objs.size a (Nat.ne_of_lt hal) z) (s1.heap.objs.size + 1) hne (fun hm => ?_) (by simp)) hz rfl ?_
      · have e' : s1.heap.objs.size + 1 = s1.heap.objs.size ∨ s1.heap.objs.size + 1 = a := by simpa using hm
        rcases e' with q | q
        · exact hne q
        · exact absurd hal (by rw [← q]; exact Nat.not_lt.mpr (Nat.le_succ _))
      · funext i h
        exact propext and_assoc.symm
    · rw [← hK] at hS
      obtain ⟨its, rv, p, z⟩ := J.tuple hS
      refine ⟨its.toArray, by simp [rv.length], p, fun i vs hi hv => ?_⟩
      obtain ⟨t, x, hx, rfl⟩ := hv
      obtain ⟨u, hu, ru⟩ := rv.get (i := i) (x := xs.getD i .non) (by simp [List.getD_eq_getElem?_getD, hi])
      have eux : u = x := by
        have hx' : its[i]? = some x := by simpa using hx
        rw [hu] at hx'
        exact Option.some.inj hx'
      subst eux
      exact .cons ⟨t, by simp⟩ (.cons ru .nil)
    · obtain ⟨⟨_, he⟩, _⟩ := st
      exact wpAny_pyIter_enum he h
  · have e' : b = s1.heap.objs.size + 1 ∨ b = s1.heap.objs.size := by simpa using hb
    have hle : s1.heap.objs.size ≤ b := by
      rcases e' with z | z
      · rw [z]
        exact Nat.le_succ _
      · rw [z]
        exact Nat.le_refl _
    exact I1.fpOk hle (I1.hok.fresh hle)
/-! ### zip of three tuples -/
def SqT3 (K : PySem.W.Frag) (a b d : Addr) (xs ys zs : List V) (H : Hp) : Prop := SqT K H a xs ∧ SqT K H b ys ∧ SqT K H d zs
def iZip3T (K : PySem.W.Frag) (ta : TA) : TI := fun σ H R => ta σ H fun vs H1 => ∃ a b d xs ys zs, vs = [.ref a, .ref b, .ref d] ∧ SqT3 K a b d xs ys zs H1 ∧ R (ItW (min (min xs.length ys.length) zs.length) (fun i => [xs.getD i .non, ys.getD i .non, zs.getD i .non]) (SqT3 K a b d xs ys zs)) H1
theorem pi_zip3T {X : Cx} {e1 e2 e3 : Expr} {ta : TA} {p pos tpos : Pos} {elts : List Expr} {kk : Nat} (hm : X.mg "zip" = none) (ha : PA X [e1, e2, e3] ta) (hg : Gl X "zip" := by rfl) (hs : starEach [e1, e2, e3] X.env = (false, eval e1 X.env) :: starEach [e2, e3] X.env := by rfl) (hpl : (backTo pos (starEach [e2, e3] X.env)).any (·.1) = false := by rfl) :
    PI X (.Tuple elts kk tpos) (.Call (.Name "zip" p) [e1, e2, e3] [] pos) (iZip3T X.K ta) := by
  constructor
  intro pins s σ H R I h
  refine Call_ ?_
  apply ld_blt I hg hm PyProof.Rows.boot_zip
  refine PyProof.Rows.callWith_type1 (thn (ha.run pos pins s σ H _ I h) fun us s1 hq => ?_) hs hpl
  obtain ⟨vs, H1, I1, r1, a, b, d, xs, ys, zs, rfl, ⟨ha, hb, hd⟩, q⟩ := hq
  cases r1 with
  | cons ra r1 =>
  cases r1 with
  | cons rb r1 =>
  cases r1 with
  | cons rd r1 =>
  cases r1
  cases ra
  cases rb
  cases rd
  obtain ⟨i1, rv1, p1, _⟩ := I1.tuple ha
  obtain ⟨i2, rv2, p2, _⟩ := I1.tuple hb
  obtain ⟨i3, rv3, p3, _⟩ := I1.tuple hd
  have hal : a < s1.heap.objs.size := p1.lt
  have hbl : b < s1.heap.objs.size := p2.lt
  have hdl : d < s1.heap.objs.size := p3.lt
  generalize hNn : s1.heap.objs.size = N at hal hbl hdl
  refine zip_begins3 (begins_tuple a i1.toArray) (begins_tuple b i2.toArray) (begins_tuple d i3.toArray) p1 p2 p3 fun h' hz hTI hTO g1 g2 g3 hsz hk => ?_
  rw [hNn] at hz hTI hTO g1 g2 g3 hsz ⊢
  refine wpAny_pyIter_zip hz ?_
  have I2 : Inv X pins σ H1 { s1 with heap := h' } := I1.kept (t' := s1.toks) hk
  refine ⟨N + 5, [N + 5, N + 3, N + 4, N, N + 1, N + 2], fun i h => IsZip h (N + 5) (N + 3) (N + 4) .none ∧ IsTupOf3 h (N + 3) (.ref N) (.ref (N + 1)) (.ref (N + 2)) ∧ (∃ a1 a2 a3, IsTupOf3 h (N + 4) a1 a2 a3) ∧ h.IsTupleIter N a i ∧ h.IsTupleIter (N + 1) b i ∧ h.IsTupleIter (N + 2) d i, _, H1, rfl, I2, ?_, ⟨hz, hTI, ⟨_, _, _, hTO⟩, ⟨_, g1, rfl, rfl⟩, ⟨_, g2, rfl, rfl⟩, ⟨_, g3, rfl, rfl⟩⟩, fun b hb => ?_, q⟩
  · refine turn_W (ι := Array Value × Array Value × Array Value) (good := fun z => z.1.size = xs.length ∧ z.2.1.size = ys.length ∧ z.2.2.size = zs.length) (has := fun z h => h.IsTuple a z.1 ∧ h.IsTuple b z.2.1 ∧ h.IsTuple d z.2.2)
      (fpW := (N + 5) :: (N + 3) :: (N + 4) :: ([N, a] ++ [N + 1, b] ++ [N + 2, d])) (ch := [N + 5, N + 4, N, N + 1, N + 2]) (vals := fun z i vals => ∃ x1 x2 x3, z.1[i]? = some x1 ∧ z.2.1[i]? = some x2 ∧ z.2.2[i]? = some x3 ∧ vals = #[x1, x2, x3])
      (mid := fun z i T h => IsZip h (N + 5) (N + 3) (N + 4) (rawInt T) ∧ IsTupOf3 h (N + 3) (.ref N) (.ref (N + 1)) (.ref (N + 2)) ∧ (∃ a1 a2 a3, IsTupOf3 h (N + 4) a1 a2 a3) ∧ (h.IsTupleIter N a (i + 1) ∧ h.IsTuple a z.1) ∧ (h.IsTupleIter (N + 1) b (i + 1) ∧ h.IsTuple b z.2.1) ∧ (h.IsTupleIter (N + 2) d (i + 1) ∧ h.IsTuple d z.2.2) ∧ T ≠ N + 5 ∧ T ≠ N + 4 ∧ T ≠ N ∧ T ≠ N + 1 ∧ T ≠ N + 2)
      (by simp) (fun b hb => ?_) (fun i h st c hc => ?_) (fun i h g st k => ?_) (fun A z hA hz => ?_) (fun Y pins s σ H hP hw hK J hS => ?_) (fun i => by show 3 ≤ sizeLine; decide) (fun H T o hT hS => ⟨sqT_upd hT hS.1, sqT_upd hT hS.2.1, sqT_upd hT hS.2.2⟩) (fun A i s Q E st h => wpAny_pyIter_zip st.1 h)
    · simp only [List.mem_cons, List.not_mem_nil, or_false] at hb ⊢
      rcases hb with q | q | q | q | q <;> simp [q]
    · obtain ⟨hz, hTI, ⟨_, _, _, hTO⟩, ⟨o1, e1, _, d1⟩, ⟨o2, e2, _, d2⟩, ⟨o3, e3, _, d3⟩⟩ := st
      simp only [List.mem_cons, List.not_mem_nil, or_false] at hc
      rcases hc with q | q | q | q | q | q
      · rw [q]; exact ⟨_, hz, fun v z => by cases z⟩
      · rw [q]; exact ⟨_, hTI, fun v z => by cases z⟩
      · rw [q]; exact ⟨_, hTO, fun v z => by cases z⟩
      · rw [q]; exact ⟨o1, e1, fun v z => by rw [d1] at z; cases z⟩
      · rw [q]; exact ⟨o2, e2, fun v z => by rw [d2] at z; cases z⟩
      · rw [q]; exact ⟨o3, e3, fun v z => by rw [d3] at z; cases z⟩
    · obtain ⟨hz, hTI, ⟨x1, x2, x3, hTO⟩, h1, h2, h3⟩ := st
      exact ⟨k _ (by simp) _ hz, k _ (by simp) _ hTI, ⟨x1, x2, x3, k _ (by simp) _ hTO⟩, h1.at fun o q => k _ (by simp) o q, h2.at fun o q => k _ (by simp) o q, h3.at fun o q => k _ (by simp) o q⟩
    · obtain ⟨z1, z2, z3⟩ := z
      obtain ⟨s1', s2', s3'⟩ := hz
      refine WalksT.copy (WalksT.zipD3 (zip_sep3 (N := N) (fp1 := [a]) (fp2 := [b]) (fp3 := [d]) (fun c hc => ?_) (fun c hc => ?_) fun c hc => ?_) (Draws.tuple (A := A.in1) hA N a (Nat.ne_of_lt hal) z1) (Draws.tuple (A := A.in1) hA (N + 1) b (Nat.ne_of_lt (Nat.lt_succ_of_lt hbl)) z2) (Draws.tuple (A := A.in1) hA (N + 2) d (Nat.ne_of_lt (Nat.lt_succ_of_lt (Nat.lt_succ_of_lt hdl))) z3)) ?_ rfl ?_
      · rw [List.mem_singleton.mp hc]; exact hal
      · rw [List.mem_singleton.mp hc]; exact hbl
      · rw [List.mem_singleton.mp hc]; exact hdl
      · show min (min z1.size z2.size) z3.size = _
        rw [show z1.size = xs.length from s1', show z2.size = ys.length from s2', show z3.size = zs.length from s3']
      · funext i h
        apply propext
        constructor
        · rintro ⟨q1, q2, q3, ⟨q4, q5⟩, ⟨q6, q7⟩, q8, q9⟩
          exact ⟨⟨q1, q2, q3, q4, q6, q8⟩, q5, q7, q9⟩
        · rintro ⟨⟨q1, q2, q3, q4, q6, q8⟩, q5, q7, q9⟩
          exact ⟨q1, q2, q3, ⟨q4, q5⟩, ⟨q6, q7⟩, q8, q9⟩
    · rw [← hK] at hS
      obtain ⟨ha, hb, hd⟩ := hS
      obtain ⟨j1, r1, t1, _⟩ := J.tuple ha
      obtain ⟨j2, r2, t2, _⟩ := J.tuple hb
      obtain ⟨j3, r3, t3, _⟩ := J.tuple hd
      refine ⟨(j1.toArray, j2.toArray, j3.toArray), ⟨by simp [r1.length], by simp [r2.length], by simp [r3.length]⟩, ⟨t1, t2, t3⟩, fun i vs hi hv => ?_⟩
      obtain ⟨x1, x2, x3, q1, q2, q3, rfl⟩ := hv
      have l1 : i < xs.length := by omega
      have l2 : i < ys.length := by omega
      have l3 : i < zs.length := by omega
      have one : ∀ {js : List Value} {ws : List V} {x : Value}, Vals ws js → i < ws.length → js[i]? = some x → RelV (ws.getD i .non) x := fun {js ws x} r l e => by
        obtain ⟨u, hu, ru⟩ := r.get (i := i) (x := ws.getD i .non) (by simp [List.getD_eq_getElem?_getD, l])
        rw [hu] at e
        cases e
        exact ru
      exact .cons (one r1 l1 (by simpa using q1)) (.cons (one r2 l2 (by simpa using q2)) (.cons (one r3 l3 (by simpa using q3)) .nil))
  · have hle : N ≤ b := by
      simp only [List.mem_cons, List.not_mem_nil, or_false] at hb
      rcases hb with z | z | z | z | z | z <;> (rw [z]; omega)
    rw [← hNn] at hle
    exact I1.fpOk hle (I1.hok.fresh hle)
/-! ### in the judgements -/
section
variable {X : Cx} {c : C0} {Γ : List Sl} {KI : Nat → (Nat → DL.D) → Prop} {e e1 e2 e3 : Expr} {p pos tpos : Pos} {elts : List Expr} {kk : Nat}
theorem dats_getD {F : Hp} {ds : List D} {vs : List V} (h : Dats F ds vs) {i : Nat} (hi : i < ds.length) : Dat F (ds.getD i .non) (vs.getD i .non) := by
  obtain ⟨v, hv, hd⟩ := h.get (i := i) (d := ds[i]) (by simp [hi])
  have e1 : ds.getD i .non = ds[i] := by simp [hi]
  have e2 : vs.getD i .non = v := by simp [List.getD_eq_getElem?_getD, hv]
  rw [e1, e2]
  exact hd
/-- the one argument of a built-in -/
theorem arg1 {P : V → Hp → Prop} {K1 : Sl → Prop} (h : WPe X c e Γ K1) (hs : starEach [e] X.env = [(false, eval e X.env)] := by rfl) : WPa X c [e] Γ fun rs => ∃ r, rs = [frz r] ∧ K1 r := wpa_cons (h.mono fun r k => wpa_nil ⟨r, rfl, k⟩) hs
theorem wpi_enumT (hm : X.mg "enumerate" = none) (h : WPa X c [e] Γ fun rs => ∃ ds, rs = [.im (.tup ds)] ∧ KI ds.length fun i => .tup [.int i, ds.getD i .non]) (hg : Gl X "enumerate" := by rfl) (hs : starEach [e] X.env = [(false, eval e X.env)] := by rfl) : WPi X c (.Tuple elts kk tpos) (.Call (.Name "enumerate" p) [e] [] pos) Γ KI := fun F H stk S σ hl E R q => by
  refine iw_of (pi_enumT hm pa_wa hg hs) ?_
  refine h F H stk S σ hl E _ fun vs rs F1 H1 k1 hl1 E1 => ?_
  obtain ⟨ds, er, k⟩ := k1
  subst er
  obtain ⟨E2, hd⟩ := EnvR.dats (ds := [.tup ds]) (by simpa using hl1) E1
  obtain ⟨v, w, rfl, hv, hw⟩ := hd
  have hw' : w = [] := hw
  subst hw'
  obtain ⟨a, xs, rfl, ha, hds⟩ := hv
  refine ⟨a, xs, rfl, .inl (.inl (E2.ex _ _ ha)), ?_⟩
  rw [← hds.length]
  exact q _ _ _ (fun F => F a = some (.tup xs) ∧ Dats F ds xs) F1 H1 k (itok_W (fun F F' e h => ⟨e _ _ h.1, h.2.mono e⟩) (fun F H e h => .inl (.inl (e _ _ h.1))) fun F i h hi => .cons rfl (.one (dats_getD h.2 hi))) ⟨ha, hds⟩ E2
theorem wpi_zip3T (hm : X.mg "zip" = none) (h : WPa X c [e1, e2, e3] Γ fun rs => ∃ xs ys zs, rs = [.im (.tup xs), .im (.tup ys), .im (.tup zs)] ∧ KI (min (min xs.length ys.length) zs.length) fun i => .tup [xs.getD i .non, ys.getD i .non, zs.getD i .non])
    (hg : Gl X "zip" := by rfl) (hs : starEach [e1, e2, e3] X.env = (false, eval e1 X.env) :: starEach [e2, e3] X.env := by rfl) (hpl : (backTo pos (starEach [e2, e3] X.env)).any (·.1) = false := by rfl) : WPi X c (.Tuple elts kk tpos) (.Call (.Name "zip" p) [e1, e2, e3] [] pos) Γ KI := fun F H stk S σ hl E R q => by
  refine iw_of (pi_zip3T hm pa_wa hg hs hpl) ?_
  refine h F H stk S σ hl E _ fun vs rs F1 H1 k1 hl1 E1 => ?_
  obtain ⟨ds, ds2, ds3, er, k⟩ := k1
  subst er
  obtain ⟨E2, hd⟩ := EnvR.dats (ds := [.tup ds, .tup ds2, .tup ds3]) (by simpa using hl1) E1
  obtain ⟨v, w, rfl, hv, v2, w2, rfl, hv2, v3, w3, rfl, hv3, hw⟩ := hd
  have hw' : w3 = [] := hw
  subst hw'
  obtain ⟨a, xs, rfl, ha, hds⟩ := hv
  obtain ⟨b, ys, rfl, hb, hds2⟩ := hv2
  obtain ⟨d, zs, rfl, hdd, hds3⟩ := hv3
  refine ⟨a, b, d, xs, ys, zs, rfl, ⟨.inl (.inl (E2.ex _ _ ha)), .inl (.inl (E2.ex _ _ hb)), .inl (.inl (E2.ex _ _ hdd))⟩, ?_⟩
  rw [← hds.length, ← hds2.length, ← hds3.length]
  refine q _ _ _ (fun F => (F a = some (.tup xs) ∧ Dats F ds xs) ∧ (F b = some (.tup ys) ∧ Dats F ds2 ys) ∧ F d = some (.tup zs) ∧ Dats F ds3 zs) F1 H1 k (itok_W (fun F F' e h => ⟨⟨e _ _ h.1.1, h.1.2.mono e⟩, ⟨e _ _ h.2.1.1, h.2.1.2.mono e⟩, e _ _ h.2.2.1, h.2.2.2.mono e⟩) (fun F H e h => ⟨.inl (.inl (e _ _ h.1.1)), .inl (.inl (e _ _ h.2.1.1)), .inl (.inl (e _ _ h.2.2.1))⟩) fun F i h hi => ?_) ⟨⟨ha, hds⟩, ⟨hb, hds2⟩, hdd, hds3⟩ E2
  have l1 : i < ds.length := by omega
  have l2 : i < ds2.length := by omega
  have l3 : i < ds3.length := by omega
  exact .cons (dats_getD h.1.2 l1) (.cons (dats_getD h.2.1.2 l2) (.one (dats_getD h.2.2.2 l3)))
/-- enumerate of a known list -/
theorem wpi_enumL (hm : X.mg "enumerate" = none) (h : WPa X c [e] Γ fun rs => ∃ ds, rs = [.im (.lst ds)] ∧ KI ds.length fun i => .tup [.int i, ds.getD i .non]) (hg : Gl X "enumerate" := by rfl) (hs : starEach [e] X.env = [(false, eval e X.env)] := by rfl) : WPi X c (.Tuple elts kk tpos) (.Call (.Name "enumerate" p) [e] [] pos) Γ KI := fun F H stk S σ hl E R q => by
  refine iw_of (pi_enum hg hm pa_wa hs) ?_
  refine h F H stk S σ hl E _ fun vs rs F1 H1 k1 hl1 E1 => ?_
  obtain ⟨ds, er, k⟩ := k1
  subst er
  obtain ⟨E2, hd⟩ := EnvR.dats (ds := [.lst ds]) (by simpa using hl1) E1
  obtain ⟨v, w, rfl, hv, hw⟩ := hd
  have hw' : w = [] := hw
  subst hw'
  obtain ⟨a, xs, rfl, ha, hds⟩ := hv
  refine ⟨a, xs, rfl, .inl (.inl (E2.ex _ _ ha)), q _ ds.length _ (fun F => F a = some (.lst xs) ∧ Dats F ds xs) F1 H1 k ⟨fun F F' e h => ⟨e _ _ h.1, h.2.mono e⟩, fun F H i e h hi => ?_, fun c F H σ Γ i x H' E h hi hy => ?_, fun F H e h => ⟨xs, .inl (.inl (e _ _ h.1)), by rw [h.2.length]; exact Nat.le_refl _⟩⟩ ⟨ha, hds⟩ E2⟩
  · obtain ⟨v, hv, _⟩ := h.2.get (i := i) (d := ds[i]) (by simp [hi])
    exact ⟨xs, v, .inl (.inl (e _ _ h.1)), hv⟩
  · obtain ⟨T, y, rfl, hT, rfl, hx⟩ := hy
    obtain ⟨v, hv, hd⟩ := h.2.get (i := i) (d := ds[i]) (by simp [hi])
    have e1 := hx xs (.inl (.inl (E.ex _ _ h.1)))
    rw [hv] at e1
    cases e1
    have e3 : ds.getD i .non = ds[i] := by simp [hi]
    exact ⟨_, Ex.new (E.ex.back hT), by rw [e3]; exact E.pushTup hT (.cons rfl (.one hd))⟩
/-- zip of two known lists -/
theorem wpi_zipL (hm : X.mg "zip" = none) (h : WPa X c [e1, e2] Γ fun rs => ∃ xs ys, rs = [.im (.lst xs), .im (.lst ys)] ∧ KI (min xs.length ys.length) fun i => .tup [xs.getD i .non, ys.getD i .non])
    (hg : Gl X "zip" := by rfl) (hs : starEach [e1, e2] X.env = (false, eval e1 X.env) :: starEach [e2] X.env := by rfl) (hpl : (backTo pos (starEach [e2] X.env)).any (·.1) = false := by rfl) : WPi X c (.Tuple elts kk tpos) (.Call (.Name "zip" p) [e1, e2] [] pos) Γ KI := fun F H stk S σ hl E R q => by
  refine iw_of (pi_zip hg hm pa_wa hs hpl) ?_
  refine h F H stk S σ hl E _ fun vs rs F1 H1 k1 hl1 E1 => ?_
  obtain ⟨ds, ds2, er, k⟩ := k1
  subst er
  obtain ⟨E2, hd⟩ := EnvR.dats (ds := [.lst ds, .lst ds2]) (by simpa using hl1) E1
  obtain ⟨v, w, rfl, hv, v2, w2, rfl, hv2, hw⟩ := hd
  have hw' : w2 = [] := hw
  subst hw'
  obtain ⟨a, xs, rfl, ha, hds⟩ := hv
  obtain ⟨b, ys, rfl, hb, hds2⟩ := hv2
  refine ⟨a, b, xs, ys, rfl, .inl (.inl (E2.ex _ _ ha)), .inl (.inl (E2.ex _ _ hb)), q _ (min ds.length ds2.length) _ (fun F => (F a = some (.lst xs) ∧ Dats F ds xs) ∧ F b = some (.lst ys) ∧ Dats F ds2 ys) F1 H1 k ⟨fun F F' e h => ⟨⟨e _ _ h.1.1, h.1.2.mono e⟩, e _ _ h.2.1, h.2.2.mono e⟩, fun F H i e h hi => ?_, fun c F H σ Γ i x H' E h hi hy => ?_, fun F H e h => ⟨xs, ys, .inl (.inl (e _ _ h.1.1)), .inl (.inl (e _ _ h.2.1)), ?_⟩⟩ ⟨⟨ha, hds⟩, hb, hds2⟩ E2⟩
  · have l1 : i < ds.length := by omega
    have l2 : i < ds2.length := by omega
    obtain ⟨v, hv, _⟩ := h.1.2.get (i := i) (d := ds[i]) (by simp [l1])
    obtain ⟨v2, hv2, _⟩ := h.2.2.get (i := i) (d := ds2[i]) (by simp [l2])
    exact ⟨xs, ys, v, v2, .inl (.inl (e _ _ h.1.1)), .inl (.inl (e _ _ h.2.1)), hv, hv2⟩
  · have l1 : i < ds.length := by omega
    have l2 : i < ds2.length := by omega
    obtain ⟨T, y, y2, rfl, hT, rfl, hx, hx2⟩ := hy
    obtain ⟨v, hv, hd⟩ := h.1.2.get (i := i) (d := ds[i]) (by simp [l1])
    obtain ⟨v2, hv2, hd2⟩ := h.2.2.get (i := i) (d := ds2[i]) (by simp [l2])
    have e1 := hx xs (.inl (.inl (E.ex _ _ h.1.1)))
    have e2 := hx2 ys (.inl (.inl (E.ex _ _ h.2.1)))
    rw [hv] at e1
    rw [hv2] at e2
    cases e1
    cases e2
    have e3 : ds.getD i .non = ds[i] := by simp [l1]
    have e4 : ds2.getD i .non = ds2[i] := by simp [l2]
    exact ⟨_, Ex.new (E.ex.back hT), by rw [e3, e4]; exact E.pushTup hT (.cons hd (.one hd2))⟩
  · rw [← h.1.2.length, ← h.2.2.length]
    omega
end
end DL

set_option Elab.async false
set_option linter.all false
set_option maxRecDepth 100000
set_option maxHeartbeats 2000000
/-! DL8: list and dict comprehensions -/
namespace DL
open PySem PySem.Spec PyProof.Rows L2
/-! ### a comprehension's own names -/
def lookS : Sl → Sl
  | .deep v o => .vo v [] o
  | .own d => .vw d
  | s => s
def wipeS (Γ : List Sl) : List Nat → List Sl
  | [] => Γ
  | v :: vs => (wipeS Γ vs).set v .any
theorem wipeS_length (Γ : List Sl) : ∀ vs, (wipeS Γ vs).length = Γ.length
  | [] => rfl
  | v :: vs => by
    show ((wipeS Γ vs).set v .any).length = _
    rw [List.length_set, wipeS_length Γ vs]
theorem wipe_get (σ : L2.St) : ∀ (vs : List Nat) (k : Nat), (wipe σ vs)[k]? = if k ∈ vs ∧ k < σ.length then some none else σ[k]?
  | [], k => by simp [wipe]
  | v :: vs, k => by
    unfold wipe
    by_cases h : v = k
    · subst h
      by_cases hl : v < σ.length
      · rw [List.getElem?_set_self (by rw [wipe_length]; exact hl), if_pos ⟨by simp, hl⟩]
      · rw [List.getElem?_set, if_pos rfl, if_neg (by rw [wipe_length]; exact hl), if_neg (fun z => hl z.2), List.getElem?_eq_none (by omega)]
    · rw [List.getElem?_set_ne h, wipe_get σ vs k]
      by_cases q : k ∈ vs ∧ k < σ.length
      · rw [if_pos q, if_pos ⟨List.mem_cons_of_mem _ q.1, q.2⟩]
      · rw [if_neg q, if_neg (fun z => q ⟨by
          rcases List.mem_cons.mp z.1 with e | e
          · exact absurd e.symm h
          · exact e, z.2⟩)]
theorem wipe_eq {σ σ' : L2.St} {vs : List Nat} (hl : σ'.length = σ.length) (h : ∀ k, k ∉ vs → σ'[k]? = σ[k]?) : wipe σ' vs = wipe σ vs := by
  apply List.ext_getElem?
  intro k
  rw [wipe_get, wipe_get, hl]
  by_cases q : k ∈ vs
  · by_cases z : k < σ.length
    · rw [if_pos ⟨q, z⟩, if_pos ⟨q, z⟩]
    · rw [if_neg (fun w => z w.2), if_neg (fun w => z w.2), List.getElem?_eq_none (by omega), List.getElem?_eq_none (by omega)]
  · rw [if_neg (fun w => q w.1), if_neg (fun w => q w.1), h k q]
theorem wipe_set {σ : L2.St} {vs : List Nat} {i : Nat} {x : Option V} (hi : i ∈ vs) : wipe (σ.set i x) vs = wipe σ vs := wipe_eq (by simp) fun k hk => by
  rw [List.getElem?_set_ne]
  intro e
  exact hk (by rw [← e]; exact hi)
theorem wipe_wipe {σ : L2.St} {vs : List Nat} : wipe (wipe σ vs) vs = wipe σ vs := by
  apply List.ext_getElem?
  intro k
  rw [wipe_get, wipe_get, wipe_length]
  split <;> rfl
def C0.at (c : C0) (F H : Hp) : C0 := { c with F0 := F, H0 := H }
section
variable {c : C0} {F F1 H H1 : Hp} {σ σ1 stk : L2.St} {Γ Γ1 S : List Sl}
/-- own things are looked at only -/
theorem EnvR.look (E : EnvR c F H σ Γ) (g : Gr F1 H1 F) (k : Keep c.W H1 H) : EnvR (c.at F1 H1) F H σ (Γ.map lookS) where
  len := by simp [E.len]
  ex0 := g.1
  ex := E.ex
  gr := g.2
  fr := fun a o h w => k a o h w
  nw := E.nw
  hk := E.hk
  sl := by
    obtain ⟨fp, h1, h2⟩ := E.sl
    refine ⟨fun _ => [], fun i s hs => ?_, fun i j p e => by cases e⟩
    rw [List.getElem?_map] at hs
    cases q : Γ[i]? with
    | none =>
      rw [q] at hs
      cases hs
    | some t =>
      rw [q] at hs
      have es : lookS t = s := by simpa using hs
      subst es
      obtain ⟨x, hx, r⟩ := h1 i t q
      refine ⟨x, hx, ?_⟩
      cases t with
      | any => rfl
      | im d => exact ⟨rfl, r.2⟩
      | own d =>
        obtain ⟨p, _, r2, r3, _, r5, _⟩ := r
        exact ⟨rfl, p, r2, r3, r5⟩
      | vw d => exact ⟨rfl, r.2⟩
      | hand => exact ⟨rfl, r.2⟩
      | vo v π o => exact ⟨rfl, r.2⟩
      | deep v o =>
        obtain ⟨r1, r2, r3, r4⟩ := r
        exact ⟨rfl, v, _, r1, rfl, r2, fun a ha => (r4 a ha).2.1⟩
theorem EnvR.wipeR (E : EnvR c F H (stk ++ σ) (S ++ Γ)) (hl : stk.length = S.length) : ∀ {vs : List Nat}, (∀ v ∈ vs, v < Γ.length) → EnvR c F H (stk ++ wipe σ vs) (S ++ wipeS Γ vs)
  | [], _ => E
  | v :: vs, h => by
    have E1 := EnvR.wipeR E hl (vs := vs) fun u hu => h u (List.mem_cons_of_mem _ hu)
    exact (E1.pushAny none).storeS hl (by rw [wipeS_length]; exact h v (by simp))
/-- a new own thing over things that are none -/
def ownS : Sl → Bool
  | .own _ => true
  | .deep _ _ => true
  | _ => false
theorem EnvR.addOwn {d : D} {p : Addr} (E : EnvR c F H σ Γ) (h0 : c.H0 p = none) (ho : Own F H p d) (hF : F p = none) (hW : p ∉ c.W) (hn : ∀ s ∈ Γ, ownS s = false) : EnvR c F H (some (.ref p) :: σ) (.own d :: Γ) :=
  E.pushF ⟨p, rfl, rfl, ho, hF, hW, h0⟩ fun fp h1 i hi a ha hb => by
    obtain ⟨x, _, r⟩ := h1 i Γ[i] (by simp [hi])
    have hm := hn Γ[i] (List.getElem_mem hi)
    revert r hm
    cases Γ[i] with
    | any => intro r _; rw [show fp i = [] from r] at hb; cases hb
    | im d => intro r _; rw [r.1] at hb; cases hb
    | vw d => intro r _; rw [r.1] at hb; cases hb
    | hand => intro r _; rw [r.1] at hb; cases hb
    | vo v π o => intro r _; rw [r.1] at hb; cases hb
    | own d => intro r z; cases z
    | deep v o => intro r z; cases z
end
theorem look_noOwn {Γ : List Sl} : ∀ s ∈ Γ.map lookS, ownS s = false := fun s hs => by
  obtain ⟨t, _, rfl⟩ := List.mem_map.mp hs
  cases t <;> rfl
theorem wipe_noOwn {Γ : List Sl} (h : ∀ s ∈ Γ, ownS s = false) : ∀ {vs : List Nat}, ∀ s ∈ wipeS Γ vs, ownS s = false
  | [] => h
  | v :: vs => fun s hs => by
    rcases List.mem_or_eq_of_mem_set hs with z | z
    · exact wipe_noOwn h (vs := vs) s z
    · rw [z]
      rfl
/-! ### targets -/
def GtC (X : Cx) (c : C0) (tg : Expr) (r : Sl) (Γ : List Sl) (vs : List Nat) (K : List Sl → Prop) : Prop :=
  ∀ (F H : Hp) (stk : L2.St) (S : List Sl) (σ : L2.St) (v : V), stk.length = S.length → EnvR c F H (some v :: (stk ++ σ)) (r :: (S ++ Γ)) → ∀ Q : L2.St → Hp → Prop,
    (∀ F' H' σ' Γ', K Γ' → wipe σ' vs = wipe σ vs → EnvR c F' H' (stk ++ σ') (S ++ Γ') → Q σ' H') → GW X tg v σ H Q
section
variable {X : Cx} {c : C0} {Γ : List Sl} {vs : List Nat} {K : List Sl → Prop} {pos : Pos}
theorem gtc_name (i : Nat) {x : Str} {r : Sl} (hN : X.N.Nodup) (k : K (Γ.set i r)) (hl : i < Γ.length := by exact Nat.le_of_ble_eq_true rfl) (hm : i ∈ vs := by decide) (hi : X.N[i]? = some x := by rfl) (hx : Loc X.env.scope x := by first | exact Or.inl rfl | exact Or.inr rfl)
    (hf : X.fn x = true ∨ X.env.scope.names.lookup x = some .local := by first | exact .inl rfl | exact .inr rfl) : GtC X c (.Name x pos) r Γ vs K := fun F H stk S σ v hls E Q q =>
  gw_of (pg_name hN hi hx hf) (q F H _ _ k (wipe_set hm) (E.storeS hls hl))
theorem gtc_tup2 (i j : Nat) {x y : Str} {d1 d2 : DL.D} {px py : Pos} {kt} (hc : X.calm = true) (hN : X.N.Nodup) (k : K ((Γ.set i (.im d1)).set j (.im d2))) (hl : i < Γ.length := by exact Nat.le_of_ble_eq_true rfl) (hl2 : j < Γ.length := by exact Nat.le_of_ble_eq_true rfl) (hm : i ∈ vs := by decide) (hm2 : j ∈ vs := by decide) (hi : X.N[i]? = some x := by rfl) (hj : X.N[j]? = some y := by rfl) (hx : Loc X.env.scope x := by first | exact Or.inl rfl | exact Or.inr rfl) (hy : Loc X.env.scope y := by first | exact Or.inl rfl | exact Or.inr rfl)
    (hf : X.fn x = true ∨ X.env.scope.names.lookup x = some .local := by first | exact .inl rfl | exact .inr rfl) (hf2 : X.fn y = true ∨ X.env.scope.names.lookup y = some .local := by first | exact .inl rfl | exact .inr rfl)
    (hn : (assignEach [.Name x px, .Name y py] X.env).length = 2 := by rfl) (hst : (assignEach [.Name x px, .Name y py] X.env).findIdx? (·.1) = none := by rfl)
    (hs1 : (assignEach [.Name x px, .Name y py] X.env).map (·.2) = assign (.Name x px) X.env :: (assignEach [.Name y py] X.env).map (·.2) := by rfl) (hs2 : (assignEach [.Name y py] X.env).map (·.2) = assign (.Name y py) X.env :: (assignEach [] X.env).map (·.2) := by rfl) :
    GtC X c (.Tuple [.Name x px, .Name y py] kt pos) (.im (.tup [d1, d2])) Γ vs K := fun F H stk S σ v hls E Q q => by
  refine gw_of (pg_tup hc (pgs_cons (pg_name hN hi hx hf) (pgs_cons (pg_name hN hj hy hf2) pgs_nil hs2) hs1) hn hst) ?_
  obtain ⟨p, vs', e, hp, v1, w1, e1, hd1, v2, w2, e2, hd2, e3⟩ := E.imAt (i := 0) rfl rfl
  have e3 : w2 = [] := e3
  subst e3 e2 e1
  refine ⟨p, [v1, v2], e, .inl (.inl (E.ex _ _ hp)), rfl, v1, [v2], rfl, v2, [], rfl, rfl, ?_⟩
  have E1 := ((E.pop.push hd1).storeS hls hl)
  have E2 := (E1.push hd2).storeS (Γ := Γ.set i (.im d1)) hls (by simpa using hl2)
  exact q F H _ _ k (by rw [wipe_set hm2, wipe_set hm]) E2
theorem gtc_tup3 (i j l : Nat) {x y z : Str} {d1 d2 d3 : DL.D} {px py pz : Pos} {kt} (hc : X.calm = true) (hN : X.N.Nodup) (k : K (((Γ.set i (.im d1)).set j (.im d2)).set l (.im d3))) (hl : i < Γ.length := by exact Nat.le_of_ble_eq_true rfl) (hl2 : j < Γ.length := by exact Nat.le_of_ble_eq_true rfl) (hl3 : l < Γ.length := by exact Nat.le_of_ble_eq_true rfl) (hm : i ∈ vs := by decide) (hm2 : j ∈ vs := by decide) (hm3 : l ∈ vs := by decide) (hi : X.N[i]? = some x := by rfl) (hj : X.N[j]? = some y := by rfl) (hll : X.N[l]? = some z := by rfl)
    (hx : Loc X.env.scope x := by first | exact Or.inl rfl | exact Or.inr rfl) (hy : Loc X.env.scope y := by first | exact Or.inl rfl | exact Or.inr rfl) (hz : Loc X.env.scope z := by first | exact Or.inl rfl | exact Or.inr rfl)
    (hf : X.fn x = true ∨ X.env.scope.names.lookup x = some .local := by first | exact .inl rfl | exact .inr rfl) (hf2 : X.fn y = true ∨ X.env.scope.names.lookup y = some .local := by first | exact .inl rfl | exact .inr rfl) (hf3 : X.fn z = true ∨ X.env.scope.names.lookup z = some .local := by first | exact .inl rfl | exact .inr rfl)
    (hn : (assignEach [.Name x px, .Name y py, .Name z pz] X.env).length = 3 := by rfl) (hst : (assignEach [.Name x px, .Name y py, .Name z pz] X.env).findIdx? (·.1) = none := by rfl)
    (hs1 : (assignEach [.Name x px, .Name y py, .Name z pz] X.env).map (·.2) = assign (.Name x px) X.env :: (assignEach [.Name y py, .Name z pz] X.env).map (·.2) := by rfl) (hs2 : (assignEach [.Name y py, .Name z pz] X.env).map (·.2) = assign (.Name y py) X.env :: (assignEach [.Name z pz] X.env).map (·.2) := by rfl) (hs3 : (assignEach [.Name z pz] X.env).map (·.2) = assign (.Name z pz) X.env :: (assignEach [] X.env).map (·.2) := by rfl) :
    GtC X c (.Tuple [.Name x px, .Name y py, .Name z pz] kt pos) (.im (.tup [d1, d2, d3])) Γ vs K := fun F H stk S σ v hls E Q q => by
  refine gw_of (pg_tup hc (pgs_cons (pg_name hN hi hx hf) (pgs_cons (pg_name hN hj hy hf2) (pgs_cons (pg_name hN hll hz hf3) pgs_nil hs3) hs2) hs1) hn hst) ?_
  obtain ⟨p, vs', e, hp, v1, w1, e1, hd1, v2, w2, e2, hd2, v3, w3, e3, hd3, e4⟩ := E.imAt (i := 0) rfl rfl
  have e4 : w3 = [] := e4
  subst e4 e3 e2 e1
  refine ⟨p, [v1, v2, v3], e, .inl (.inl (E.ex _ _ hp)), rfl, v1, [v2, v3], rfl, v2, [v3], rfl, v3, [], rfl, rfl, ?_⟩
  have E1 := ((E.pop.push hd1).storeS hls hl)
  have E2 := (E1.push hd2).storeS (Γ := Γ.set i (.im d1)) hls (by simpa using hl2)
  have E3 := (E2.push hd3).storeS (Γ := (Γ.set i (.im d1)).set j (.im d2)) hls (by simpa using hl3)
  exact q F H _ _ k (by rw [wipe_set hm3, wipe_set hm2, wipe_set hm]) E3
end
/-! ### blocks -/
def IsBlk (X : Cx) (scope : Scope) (Y : Cx) : Prop := ∃ (s : Shared) (H : Hp) (C : Addr) (cl : List (Str × Addr)) (fp : List Addr), Y = X.blk s H scope (compEnvC scope cl C X.env) fp
def gB (X : Cx) (scope : Scope) (tg : Expr) : TG := fun v σ H Q => ∀ Y, IsBlk X scope Y → GW Y tg v σ H Q
def eB (X : Cx) (scope : Scope) (e : Expr) : TE := fun σ H Q => ∀ Y, IsBlk X scope Y → WE Y e σ H Q
def tB (X : Cx) (scope : Scope) : List Expr → TT
  | [] => tYes
  | [t] => fun σ H Q => ∀ Y, IsBlk X scope Y → WT Y t σ H Q
  | _ => fun _ _ _ => False
theorem pg_gB {X : Cx} {scope : Scope} {tg : Expr} (s : Shared) (H : Hp) (C : Addr) (cl : List (Str × Addr)) (fp : List Addr) : PG (X.blk s H scope (compEnvC scope cl C X.env) fp) tg (gB X scope tg) := ⟨fun pins s1 σ H1 v u Q I r h => h _ ⟨s, H, C, cl, fp, rfl⟩ pins s1 u I r⟩
theorem pe_eB {X : Cx} {scope : Scope} {e : Expr} (s : Shared) (H : Hp) (C : Addr) (cl : List (Str × Addr)) (fp : List Addr) : PE (X.blk s H scope (compEnvC scope cl C X.env) fp) e (eB X scope e) := ⟨fun pins s1 σ H1 Q I h => h _ ⟨s, H, C, cl, fp, rfl⟩ pins s1 I⟩
theorem pt_tB {X : Cx} {scope : Scope} {ifs : List Expr} (s : Shared) (H : Hp) (C : Addr) (cl : List (Str × Addr)) (fp : List Addr) : PTs (X.blk s H scope (compEnvC scope cl C X.env) fp) ifs (tB X scope ifs) := by
  match ifs with
  | [] => exact pts_nil
  | [t] => exact pts_one ⟨fun pins s1 σ H1 Q I h => h _ ⟨s, H, C, cl, fp, rfl⟩ pins s1 I⟩
  | _ :: _ :: _ => exact ⟨fun pins s1 σ H1 Q I h => h.elim⟩
def WPts (X : Cx) (c : C0) : List Expr → List Sl → (Bool → Prop) → Prop
  | [], _, K => K true
  | [t], Γ, K => WPt X c t Γ K
  | _, _, _ => False
/-- what a comprehension keeps from turn to turn -/
structure Acc (c : C0) (F1 H1 F H : Hp) (D : Addr) : Prop where
  ex : Ex F H
  gr : Gr F1 H1 F
  kp : Keep c.W H1 H
  hk : c.hok H
  fF : F D = none
section
variable {X : Cx} {c : C0} {Γ : List Sl} {K : Sl → Prop} {tg iter elt : Expr} {ifs : List Expr} {scope : Scope} {own : List (Str × Nat)} {pos : Pos}
/-- a turn's own entry -/
theorem Acc.env {F1 H1 F H : Hp} {D : Addr} {stk σ : L2.St} {S : List Sl} {d : DL.D} {vs : List Nat} (A : Acc c F1 H1 F H D) (E1 : EnvR c F1 H1 (stk ++ σ) (S ++ Γ)) (hl : stk.length = S.length) (hv : ∀ v ∈ vs, v < Γ.length) (hD : H1 D = none) (ho : Own F H D d) :
    EnvR (c.at F1 H1) F H (some (.ref D) :: (stk ++ wipe σ vs)) (.own d :: (S.map lookS ++ wipeS (Γ.map lookS) vs)) := by
  have E2 := (E1.step A.gr A.ex A.kp A.hk).look A.gr A.kp
  rw [List.map_append] at E2
  have E3 := E2.wipeR (vs := vs) (by rw [List.length_map]; exact hl) (fun v hm => by rw [List.length_map]; exact hv v hm)
  refine E3.addOwn hD ho A.fF (fun w => E1.wne w hD) fun s hs => ?_
  rcases List.mem_append.mp hs with z | z
  · exact look_noOwn s z
  · exact wipe_noOwn look_noOwn s z
theorem blk_of {sc' : Scope} {N' : List Str} (h : blkC N' sc' scope own = true) (hN : X.N = N' := by rfl) (hs : X.env.scope = sc' := by rfl) : BlkOk X.N X.env.scope scope own := by
  rw [hN, hs]
  exact blkOk_by h
theorem lc_D (J : Nat → List DL.D → Prop) (hv : own.all (fun p => decide (p.2 < Γ.length)) = true)
    (h : WPi X c tg iter Γ fun n item => J 0 [] ∧ (∀ (F1 H1 : Hp) (i : Nat) (acc : List DL.D), i < n → J i acc → ∀ Y, IsBlk X scope Y → GtC Y (c.at F1 H1) tg (.im (item i)) (wipeS (Γ.map lookS) (own.map (·.2))) (own.map (·.2)) fun Γ2 =>
      ∀ Y, IsBlk X scope Y → WPts Y (c.at F1 H1) ifs Γ2 fun b => (b = true → ∀ Y, IsBlk X scope Y → WPe Y (c.at F1 H1) elt Γ2 fun r => ∃ d, frz r = .im d ∧ acc.length < sizeLine ∧ J (i + 1) (acc ++ [d])) ∧ (b = false → J (i + 1) acc)) ∧ ∀ acc, J n acc → K (.own (.lst acc)))
    (F H : Hp) (stk : L2.St) (S : List Sl) (σ : L2.St) (hl : stk.length = S.length) (E : EnvR c F H (stk ++ σ) (S ++ Γ)) (Q : VK) (q : ∀ v r F' H', K r → EnvR c F' H' (some v :: (stk ++ σ)) (r :: (S ++ Γ)) → Q v H') :
    tLc (IWt X tg iter) (gB X scope tg) (tB X scope ifs) (eB X scope elt) (own.map (·.2)) σ H Q := by
  refine h F H stk S σ hl E _ fun It n item src F1 H1 k1 io sF E1 D hD => ?_
  obtain ⟨j0, turn, fin⟩ := k1
  have hDW : D ∉ c.W := fun w => E1.wne w hD
  have hD1 : F1 D = none := E1.ex.back hD
  have hvs : ∀ v ∈ own.map (·.2), v < Γ.length := fun v hm => by
    obtain ⟨p, hp, rfl⟩ := List.mem_map.mp hm
    exact of_decide_eq_true (List.all_eq_true.mp hv p hp)
  refine ⟨fun i m H => m = n - i ∧ i ≤ n ∧ ∃ F acc vs', J i acc ∧ Acc c F1 H1 F H D ∧ H D = some (.lst vs') ∧ Dats F acc vs', ⟨n, by simp, Nat.zero_le _, F1, [], [], j0, ⟨E1.ex.mut hD1, Gr.refl _ _, fun a u ha _ => by rw [upd_ne (ne_of_none ha hD)]; exact ha, c.stab H1 _ (fun a w => upd_ne (fun z => hDW (by rw [← z]; exact w))) (extx_new hD) E1.hk, hD1⟩, upd_same, .nil⟩, ?_⟩
  rintro i m H2 ⟨rfl, hi, F2, acc, vs', ji, A, hD2, hd⟩
  have sF2 : src F2 := io.mono F1 F2 A.gr.1 sF
  have E2 := A.env (vs := own.map (·.2)) E1 hl hvs hD (d := .lst acc) ⟨vs', hD2, hd⟩
  by_cases hlt : i < n
  · refine .inr ⟨io.go F2 H2 i A.ex sF2 hlt, fun H' => ∃ F acc vs', J (i + 1) acc ∧ Acc c F1 H1 F H' D ∧ H' D = some (.lst vs') ∧ Dats F acc vs', fun H' hN => ⟨n - (i + 1), by omega, rfl, hlt, hN⟩, fun x H' hy => ?_⟩
    obtain ⟨F3, e3, E3⟩ := io.yld _ F2 H2 _ _ i x H' E2 sF2 hlt hy
    intro Y hY
    refine turn F1 H1 i acc hlt ji Y hY F3 H' (some (.ref D) :: stk) (.own (.lst acc) :: S.map lookS) _ x (by simp [hl]) E3 _ fun F4 H4 σ4 Γ4 k4 w4 E4 => ⟨w4.trans wipe_wipe, ?_⟩
    have step : ∀ (F5 H5 : Hp), EnvR (c.at F1 H1) F5 H5 (some (.ref D) :: (stk ++ σ4)) (.own (.lst acc) :: (S.map lookS ++ Γ4)) → ∀ b : Bool, ((b = true → ∀ Y, IsBlk X scope Y → WPe Y (c.at F1 H1) elt Γ4 fun r => ∃ d, frz r = .im d ∧ acc.length < sizeLine ∧ J (i + 1) (acc ++ [d])) ∧ (b = false → J (i + 1) acc)) →
        if b = true then eB X scope elt σ4 H5 fun y H4 => ∃ acc, H4 D = some (.lst acc) ∧ acc.length < sizeLine ∧ (fun H' => ∃ F acc vs', J (i + 1) acc ∧ Acc c F1 H1 F H' D ∧ H' D = some (.lst vs') ∧ Dats F acc vs') (upd H4 D (.lst (acc ++ [y]))) else (fun H' => ∃ F acc vs', J (i + 1) acc ∧ Acc c F1 H1 F H' D ∧ H' D = some (.lst vs') ∧ Dats F acc vs') H5 := by
      intro F5 H5 E5 b kb
      have own5 : ∀ {F H : Hp} {L : L2.St} {G : List Sl}, EnvR (c.at F1 H1) F H (some (.ref D) :: L) (.own (.lst acc) :: G) → ∃ ws, H D = some (.lst ws) ∧ Dats F acc ws ∧ F D = none := fun {F H L G} E => by
        obtain ⟨p, hp, ⟨ws, w1, w2⟩, w3, _⟩ := E.own (i := 0) rfl
        have e : D = p := by simpa using hp
        subst e
        exact ⟨ws, w1, w2, w3⟩
      cases b with
      | false =>
        refine iteF ?_
        obtain ⟨ws, w1, w2, w3⟩ := own5 E5
        exact ⟨F5, acc, ws, kb.2 rfl, ⟨E5.ex, ⟨E5.ex0, E5.gr⟩, E5.fr, E5.hk, w3⟩, w1, w2⟩
      | true =>
        refine iteT ?_
        intro Y hY
        refine kb.1 rfl Y hY F5 H5 (some (.ref D) :: stk) (.own (.lst acc) :: S.map lookS) σ4 (by simp [hl]) E5 _ fun y r F6 H6 k6 E6 => ?_
        obtain ⟨d, hfr, hlen, j6⟩ := k6
        obtain ⟨F7, E7⟩ := E6.frzTop
        rw [hfr] at E7
        have hy := E7.imAt (i := 0) rfl rfl
        have E8 := E7.pop
        obtain ⟨ws, w1, w2, w3⟩ := own5 E8
        refine ⟨ws, w1, by rw [← w2.length]; exact hlen, F7, acc ++ [d], ws ++ [y], j6, ⟨E8.ex.mut w3, ⟨E8.ex0, E8.gr⟩, fun a o ha w => ?_, c.stab H6 _ (fun a w => upd_ne (fun z => hDW (by rw [← z]; exact w))) (extx_mut fun φ z => by rw [w1] at z; cases z) E8.hk, w3⟩, upd_same, w2.append (.one hy)⟩
        rw [upd_ne (ne_of_none ha hD)]
        exact E8.fr a o ha w
    have E4' : EnvR (c.at F1 H1) F4 H4 (some (.ref D) :: (stk ++ σ4)) (.own (.lst acc) :: (S.map lookS ++ Γ4)) := E4
    match ifs, k4 with
    | [], k4 => exact step F4 H4 E4' true (k4 Y hY)
    | [t], k4 =>
      intro Y hY
      exact k4 Y hY F4 H4 (some (.ref D) :: stk) (.own (.lst acc) :: S.map lookS) σ4 (by simp [hl]) E4 _ fun b F5 H5 kb E5 => step F5 H5 E5 b kb
    | _ :: _ :: _, k4 => exact (k4 Y hY).elim
  · have e : i = n := by omega
    subst e
    refine .inl ⟨io.stop F2 H2 A.ex sF2, q (.ref D) (.own (.lst acc)) F2 H2 (fin acc ji) ?_⟩
    exact E1.ret E2.only rfl rfl (fun a z => z) A.hk (fun z => by cases z) rfl
theorem wp_lc (J : Nat → List DL.D → Prop) (hc : X.calm = true) (hN : X.N.Nodup) (ok : BlkOk X.N X.env.scope scope own) (hv : own.all (fun p => decide (p.2 < Γ.length)) = true)
    (h : WPi X c tg iter Γ fun n item => J 0 [] ∧ (∀ (F1 H1 : Hp) (i : Nat) (acc : List DL.D), i < n → J i acc → ∀ Y, IsBlk X scope Y → GtC Y (c.at F1 H1) tg (.im (item i)) (wipeS (Γ.map lookS) (own.map (·.2))) (own.map (·.2)) fun Γ2 =>
      ∀ Y, IsBlk X scope Y → WPts Y (c.at F1 H1) ifs Γ2 fun b => (b = true → ∀ Y, IsBlk X scope Y → WPe Y (c.at F1 H1) elt Γ2 fun r => ∃ d, frz r = .im d ∧ acc.length < sizeLine ∧ J (i + 1) (acc ++ [d])) ∧ (b = false → J (i + 1) acc)) ∧ ∀ acc, J n acc → K (.own (.lst acc)))
    (hs : ∀ x, foldedSetIterable iter X.env x = pure x := by intro _; rfl) : WPe X c (.ListComp elt [⟨tg, iter, ifs, 0⟩] scope pos) Γ K := fun F H stk S σ hl E Q q =>
  we_of (pe_lc hc hN pi_iw ok pg_gB pt_tB pe_eB hs) (lc_D J hv h F H stk S σ hl E Q q)
/-- x = [.. for ..] on one line -/
theorem wst_setLc (i : Nat) {y : Str} {py spos : Pos} {D : DEnds} (J : Nat → List DL.D → Prop) (hc : X.calm = true) (hN : X.N.Nodup) (ok : BlkOk X.N X.env.scope scope own) (hv : own.all (fun p => decide (p.2 < Γ.length)) = true)
    (h : WPi X c tg iter Γ fun n item => J 0 [] ∧ (∀ (F1 H1 : Hp) (i : Nat) (acc : List DL.D), i < n → J i acc → ∀ Y, IsBlk X scope Y → GtC Y (c.at F1 H1) tg (.im (item i)) (wipeS (Γ.map lookS) (own.map (·.2))) (own.map (·.2)) fun Γ2 =>
      ∀ Y, IsBlk X scope Y → WPts Y (c.at F1 H1) ifs Γ2 fun b => (b = true → ∀ Y, IsBlk X scope Y → WPe Y (c.at F1 H1) elt Γ2 fun r => ∃ d, frz r = .im d ∧ acc.length < sizeLine ∧ J (i + 1) (acc ++ [d])) ∧ (b = false → J (i + 1) acc)) ∧ ∀ acc, J n acc → D.nx (Γ.set i (.own (.lst acc))))
    (hi : i < Γ.length := by exact Nat.le_of_ble_eq_true rfl) (hy : X.N[i]? = some y := by rfl) (hyl : X.env.scope.names.lookup y = some .local := by rfl) (hsw : swapsWith (.ListComp elt [⟨tg, iter, ifs, 0⟩] scope pos) (some (.Name y py)) spos.line X.env = pure true := by rfl)
    (hs : ∀ x, foldedSetIterable iter X.env x = pure x := by intro _; rfl) : WPst X c (.Assign [.Name y py] (.ListComp elt [⟨tg, iter, ifs, 0⟩] scope pos) spos) Γ D := fun F H σ E Ee ok' => by
  refine ws_of (ps_setLc hc hN hy hyl hsw pi_iw ok pg_gB pt_tB pe_eB hs) ?_
  refine lc_D (K := fun r => ∃ acc, r = .own (.lst acc) ∧ D.nx (Γ.set i (.own (.lst acc)))) J hv (fun F H stk S σ hl E R q => h F H stk S σ hl E R fun J' n item src F' H' k => q J' n item src F' H' ⟨k.1, k.2.1, fun acc ja => ⟨acc, rfl, k.2.2 acc ja⟩⟩) F H [] [] σ rfl E.env _ fun v r F' H' k E' => ?_
  obtain ⟨acc, rfl, k⟩ := k
  exact ok'.nx _ F' H' _ k ⟨EnvR.store (Γ := Γ) (σ := σ) E' hi, E.nv.set rfl⟩
end
end DL

set_option Elab.async false
set_option linter.all false
set_option maxRecDepth 100000
set_option maxHeartbeats 2000000
/-! DL9: methods, slices, dicts, stores -/
namespace DL
open PySem PySem.Spec PyProof.Rows L2
/-! ### methods of an own list, as statements -/
section
variable {X : Cx} {c : C0} {Γ : List Sl} {D : DEnds} {e e2 : Expr} {pos p apos cpos : Pos} {x : Str} {l : List DL.D}
theorem ixN_of {n j : Nat} (hj : j < n) : ixN n (j : Int) = some j := by
  unfold ixN
  rw [if_pos (by omega), if_pos (by omega), Int.toNat_natCast]
theorem EnvR.ownAt {F H : Hp} {σ : L2.St} {Γ : List Sl} (E : EnvR c F H σ Γ) {i : Nat} (h : Γ[i]? = some (.own (.lst l))) : ∃ p vs, σ[i]? = some (some (.ref p)) ∧ H p = some (.lst vs) ∧ Dats F l vs ∧ F p = none := by
  obtain ⟨p, h1, ⟨vs, h2, h3⟩, h4, _⟩ := E.own h
  exact ⟨p, vs, h1, h2, h3, h4⟩
theorem wst_append (i : Nat) (hΓ : Γ[i]? = some (.own (.lst l))) (hz : l.length < sizeLine) (h : WPe X c e Γ fun r => ∃ d, frz r = .im d ∧ D.nx (Γ.set i (.own (.lst (l ++ [d]))))) (hN : X.N[i]? = some x := by rfl)
    (hv : Vis X.env.scope x := by first | exact Or.inl rfl | exact Or.inr (Or.inl rfl) | exact Or.inr (Or.inr rfl)) (hd : (x == ("__debug__" : Str)) = false := by decide) (hcd : (x == ("__classdict__" : Str)) = false := by decide)
    (hbase : attributeBase (.Name x p) "append" X.env (eval (.Name x p) X.env) = eval (.Name x p) X.env := by rfl)
    (hfew : ((backTo cpos (starEach [e] X.env)).all (fun x => !x.1) && (backToKw cpos (keywordEach [] X.env)).all (fun x => x.1.isSome) && decide ([e].length + ([] : List Keyword).length + (if ([] : List Keyword).isEmpty then 0 else 1) < 30)) = true := by rfl)
    (hline : (apos.endLine == cpos.line) = true := by rfl) (hs : starEach [e] X.env = (false, eval e X.env) :: starEach [] X.env := by rfl) (hplain : (backTo cpos (starEach [] X.env)).any (·.1) = false := by rfl) (hsw : swapsWith (.Call (.Attribute (.Name x p) "append" apos) [e] [] cpos) none pos.line X.env = pure false := by rfl) :
    WPst X c (.Expr (.Call (.Attribute (.Name x p) "append" apos) [e] [] cpos) pos) Γ D := fun F H σ E Ee ok => by
  refine ws_of (ps_expr (pe_bm PySem.F.plainAttrs_list PySem.F.slot_list_append PySem.F.type_list_append mt_append (pe_var hN hv hd hcd) (pa_cons pe_we pa_nil hs) hbase hfew hline hs hplain) hsw) ?_
  obtain ⟨q, vs, h1, h2, h3, h4⟩ := E.env.ownAt hΓ
  refine ⟨.ref q, h1, .inl ⟨rfl, vs, .inl (.inl h2)⟩, ?_⟩
  refine h F H [] [] σ rfl E.env _ fun v r F1 H1 k1 E1 => ?_
  obtain ⟨d, hfr, k⟩ := k1
  obtain ⟨F2, E2⟩ := E1.frzTop
  rw [hfr] at E2
  have hy := E2.imAt (i := 0) rfl rfl
  have E3 : EnvR c F2 H1 σ Γ := E2.pop
  obtain ⟨q2, ws, g1, g2, g3, g4⟩ := E3.ownAt hΓ
  rw [h1] at g1
  cases g1
  refine ⟨q, ws, v, rfl, rfl, g2, by rw [← g3.length]; exact hz, ok.nx _ F2 _ σ k ⟨?_, E.nv.set rfl⟩⟩
  exact E3.write E.nv hΓ h1 ⟨ws ++ [v], upd_same, g3.append (.one hy)⟩
end
theorem meets_extT (l : Addr) (items : Array Value) (n : Nat) (b : Addr) (items2 : Array Value) (n2 : Nat) (dct : Option Addr) (sl : Array (Option Value)) (h0 : ¬(!items.isEmpty && Builtin.List.listTooLong (items.size + items2.size)) = true) (h1 : items.size ≤ sizeLine) (h2 : items.size + items2.size ≤ sizeLine + 1) :
    Meets (Builtin.«list.extend» ⟨[.ref l, .ref b], []⟩) (fun _ R s => s.heap.get? l = some { cls := .type "list", data := .seq items n } ∧ s.heap.get? b = some { cls := .type "tuple", dict := dct, data := .seq items2 n2, slots := sl } ∧
      R (.ok (.ret Value.none)) { s with heap := s.heap.update l (Obj.mapSeq fun x => x ++ items2), toks := s.toks }) :=
  .of_wp fun prog w A R s h => by
    obtain ⟨hp, g, d, tk, os⟩ := s
    obtain ⟨hl, hb, h⟩ := h
    have f1 := AutoSeq1.idx_int
    have f2 := AutoSeq1.sub_tuple_tuple
    have f3 := AutoSeq1.sub_list_list
    have f4 := AutoSeq1.sub_tuple_list
    have f5 := AutoSeq1.sub_list_tuple
    have sz : (items ++ items2).size ≤ sizeLine + 1 := by
      rw [Array.size_append]
      exact h2
    wp_walk using (wpAny_updateSeq hl rfl (hz := h1) (_hz' := sz)), AutoSeq1.wpAny_loadPart' hl, AutoSeq1.wpAny_loadPart' hb
    exact ⟨_, rfl, h⟩
section
variable {X : Cx} {c : C0} {Γ : List Sl} {D : DEnds} {e e2 : Expr} {pos p apos cpos : Pos} {x : Str} {l : List DL.D}
theorem mt_extendT : MtM X "list.extend" (fun x vs H Q => ∃ l b xs zs, x = .ref l ∧ vs = [.ref b] ∧ H l = some (.lst xs) ∧ H b = some (.tup zs) ∧ xs.length + zs.length ≤ sizeLine ∧ Q .non (upd H l (.lst (xs ++ zs)))) := by
  intro pins s σ H x vs v us Q I rx rv h
  obtain ⟨l, b, xs, zs, rfl, rfl, hH, hB, hz, q⟩ := h
  cases rx
  obtain ⟨u, rfl, ru⟩ := rv.one
  cases ru
  obtain ⟨z, its, n, r, hl, e⟩ := I.lstM hH
  obtain ⟨its2, r2, ⟨o, ho, hc, n2, hd⟩, z2⟩ := I.tuple (.inl (.inl hB))
  have hl2 := r2.length
  have total : its.toArray.size + its2.toArray.size ≤ sizeLine := by rw [List.size_toArray, List.size_toArray]; omega
  have short : ¬ (!its.toArray.isEmpty && Builtin.List.listTooLong (its.toArray.size + its2.toArray.size)) = true := by
    rw [notLongL total, Bool.and_false]
    exact Bool.false_ne_true
  obtain ⟨oc, od, odt, osl⟩ := o
  replace hc : oc = .type "tuple" := hc
  replace hd : odt = .seq its2.toArray n2 := hd
  subst hc hd
  refine call_meets F.slot_list_extend ⟨_, e, rfl⟩ F.entry_list_extend (F.args_list_extend_2 _ _) (meets_extT l its.toArray n b its2.toArray n2 od osl short (by rw [List.size_toArray]; omega) (by omega)) ⟨e, ho, ?_⟩
  exact ⟨.non, _, I.lset (its' := its ++ its2) hH e (by simp) (r.append r2) (by rw [List.length_append]; omega), rfl, q⟩
/-- a method's call that leaves a changed list in slot i -/
theorem wst_extend (i : Nat) (hΓ : Γ[i]? = some (.own (.lst l))) (h : WPe X c e Γ fun r => ∃ m, seq? (frz r) = some m ∧ l.length + m.length ≤ sizeLine ∧ D.nx (Γ.set i (.own (.lst (l ++ m))))) (hN : X.N[i]? = some x := by rfl)
    (hv : Vis X.env.scope x := by first | exact Or.inl rfl | exact Or.inr (Or.inl rfl) | exact Or.inr (Or.inr rfl)) (hd : (x == ("__debug__" : Str)) = false := by decide) (hcd : (x == ("__classdict__" : Str)) = false := by decide)
    (hbase : attributeBase (.Name x p) "extend" X.env (eval (.Name x p) X.env) = eval (.Name x p) X.env := by rfl)
    (hfew : ((backTo cpos (starEach [e] X.env)).all (fun x => !x.1) && (backToKw cpos (keywordEach [] X.env)).all (fun x => x.1.isSome) && decide ([e].length + ([] : List Keyword).length + (if ([] : List Keyword).isEmpty then 0 else 1) < 30)) = true := by rfl)
    (hline : (apos.endLine == cpos.line) = true := by rfl) (hs : starEach [e] X.env = (false, eval e X.env) :: starEach [] X.env := by rfl) (hplain : (backTo cpos (starEach [] X.env)).any (·.1) = false := by rfl) (hsw : swapsWith (.Call (.Attribute (.Name x p) "extend" apos) [e] [] cpos) none pos.line X.env = pure false := by rfl) :
    WPst X c (.Expr (.Call (.Attribute (.Name x p) "extend" apos) [e] [] cpos) pos) Γ D := fun F H σ E Ee ok => by
  refine ws_of (ps_expr (pe_bm PySem.F.plainAttrs_list PySem.F.slot_list_extend PySem.F.type_list_extend (MtR.or mt_extend mt_extendT) (pe_var hN hv hd hcd) (pa_cons pe_we pa_nil hs) hbase hfew hline hs hplain) hsw) ?_
  obtain ⟨q, vs, h1, h2, h3, h4⟩ := E.env.ownAt hΓ
  refine ⟨.ref q, h1, .inl ⟨rfl, vs, .inl (.inl h2)⟩, ?_⟩
  refine h F H [] [] σ rfl E.env _ fun v r F1 H1 k1 E1 => ?_
  obtain ⟨m, hfr, hz, k⟩ := k1
  obtain ⟨F2, E2⟩ := E1.frzTop
  have E3 : EnvR c F2 H1 σ Γ := E2.pop
  obtain ⟨q2, ws, g1, g2, g3, g4⟩ := E3.ownAt hΓ
  rw [h1] at g1
  cases g1
  have fin : ∀ (zs : List V), Dats F2 m zs → Ee.nx σ (upd H1 q (.lst (ws ++ zs))) := fun zs hzs =>
    ok.nx _ F2 _ σ k ⟨E3.write E.nv hΓ h1 ⟨ws ++ zs, upd_same, g3.append hzs⟩, E.nv.set rfl⟩
  have key : lst? (frz r) = some m → ∃ l b xs zs, V.ref q = .ref l ∧ [v] = [V.ref b] ∧ H1 l = some (.lst xs) ∧ H1 b = some (.lst zs) ∧ xs.length + zs.length ≤ sizeLine ∧ Ee.nx σ (upd H1 l (.lst (xs ++ zs))) := fun z => by
    obtain ⟨b, zs, e1, e2, e3⟩ := E2.lstAt (i := 0) rfl rfl z
    exact ⟨q, b, ws, zs, rfl, by rw [e1], g2, e2, by rw [← g3.length, ← e3.length]; exact hz, fin zs e3⟩
  revert key E2 hfr
  generalize frz r = rf
  intro hfr E2 key
  cases rf with
  | im d =>
    cases d with
    | lst l' => exact .inl (key hfr)
    | tup l' =>
      cases hfr
      obtain ⟨b, zs, e1, e2, e3⟩ := E2.imAt (i := 0) rfl rfl
      exact .inr ⟨q, b, ws, zs, rfl, by rw [e1], g2, E2.ex _ _ e2, by rw [← g3.length, ← e3.length]; exact hz, fin zs e3⟩
    | _ => cases hfr
  | vw d =>
    cases d with
    | lst l' => exact .inl (key hfr)
    | _ => cases hfr
  | _ => cases hfr
theorem wst_popAt (i : Nat) (hΓ : Γ[i]? = some (.own (.lst l))) (h : WPe X c e Γ fun r => ∃ n : Nat, r = .im (.int (n : Int)) ∧ n < l.length ∧ l.length ≤ sizeLine ∧ D.nx (Γ.set i (.own (.lst (l.eraseIdx n))))) (hN : X.N[i]? = some x := by rfl)
    (hv : Vis X.env.scope x := by first | exact Or.inl rfl | exact Or.inr (Or.inl rfl) | exact Or.inr (Or.inr rfl)) (hd : (x == ("__debug__" : Str)) = false := by decide) (hcd : (x == ("__classdict__" : Str)) = false := by decide)
    (hbase : attributeBase (.Name x p) "pop" X.env (eval (.Name x p) X.env) = eval (.Name x p) X.env := by rfl)
    (hfew : ((backTo cpos (starEach [e] X.env)).all (fun x => !x.1) && (backToKw cpos (keywordEach [] X.env)).all (fun x => x.1.isSome) && decide ([e].length + ([] : List Keyword).length + (if ([] : List Keyword).isEmpty then 0 else 1) < 30)) = true := by rfl)
    (hline : (apos.endLine == cpos.line) = true := by rfl) (hs : starEach [e] X.env = (false, eval e X.env) :: starEach [] X.env := by rfl) (hplain : (backTo cpos (starEach [] X.env)).any (·.1) = false := by rfl) (hsw : swapsWith (.Call (.Attribute (.Name x p) "pop" apos) [e] [] cpos) none pos.line X.env = pure false := by rfl) :
    WPst X c (.Expr (.Call (.Attribute (.Name x p) "pop" apos) [e] [] cpos) pos) Γ D := fun F H σ E Ee ok => by
  refine ws_of (ps_expr (pe_bm PySem.F.plainAttrs_list PySem.F.slot_list_pop PySem.F.type_list_pop mt_popAt (pe_var hN hv hd hcd) (pa_cons pe_we pa_nil hs) hbase hfew hline hs hplain) hsw) ?_
  obtain ⟨q, vs, h1, h2, h3, h4⟩ := E.env.ownAt hΓ
  refine ⟨.ref q, h1, .inl ⟨rfl, vs, .inl (.inl h2)⟩, ?_⟩
  refine h F H [] [] σ rfl E.env _ fun v r F1 H1 k1 E1 => ?_
  obtain ⟨n, hfr, hn, hz, k⟩ := k1
  subst hfr
  have hy : v = .int (n : Int) := E1.imAt (i := 0) rfl rfl
  subst hy
  have E3 : EnvR c F1 H1 σ Γ := E1.pop
  obtain ⟨q2, ws, g1, g2, g3, g4⟩ := E3.ownAt hΓ
  rw [h1] at g1
  cases g1
  have hws : n < ws.length := by rw [← g3.length]; exact hn
  have h62 : sizeLine = 2 ^ 24 := rfl
  refine ⟨q, ws, (n : Int), n, ws[n], rfl, rfl, g2, by omega, by omega, (ixN_seq (ixN_of hws)).1, by simp [hws], ok.nx _ F1 _ σ k ⟨?_, E.nv.set rfl⟩⟩
  exact E3.write E.nv hΓ h1 ⟨ws.eraseIdx n, upd_same, g3.eraseIdx n⟩
theorem wst_insert (i : Nat) (hΓ : Γ[i]? = some (.own (.lst l))) (h : WPe X c e Γ fun r => ∃ n : Nat, r = .im (.int (n : Int)) ∧ n < 2 ^ 63 ∧ l.length < sizeLine ∧ WPe X c e2 Γ fun r2 => ∃ d, frz r2 = .im d ∧ D.nx (Γ.set i (.own (.lst (l.take n ++ [d] ++ l.drop n))))) (hN : X.N[i]? = some x := by rfl)
    (hv : Vis X.env.scope x := by first | exact Or.inl rfl | exact Or.inr (Or.inl rfl) | exact Or.inr (Or.inr rfl)) (hd : (x == ("__debug__" : Str)) = false := by decide) (hcd : (x == ("__classdict__" : Str)) = false := by decide)
    (hbase : attributeBase (.Name x p) "insert" X.env (eval (.Name x p) X.env) = eval (.Name x p) X.env := by rfl)
    (hfew : ((backTo cpos (starEach [e, e2] X.env)).all (fun x => !x.1) && (backToKw cpos (keywordEach [] X.env)).all (fun x => x.1.isSome) && decide ([e, e2].length + ([] : List Keyword).length + (if ([] : List Keyword).isEmpty then 0 else 1) < 30)) = true := by rfl)
    (hline : (apos.endLine == cpos.line) = true := by rfl) (hs : starEach [e, e2] X.env = (false, eval e X.env) :: starEach [e2] X.env := by rfl) (hs2 : starEach [e2] X.env = (false, eval e2 X.env) :: starEach [] X.env := by rfl) (hplain : (backTo cpos (starEach [e2] X.env)).any (·.1) = false := by rfl) (hsw : swapsWith (.Call (.Attribute (.Name x p) "insert" apos) [e, e2] [] cpos) none pos.line X.env = pure false := by rfl) :
    WPst X c (.Expr (.Call (.Attribute (.Name x p) "insert" apos) [e, e2] [] cpos) pos) Γ D := fun F H σ E Ee ok => by
  refine ws_of (ps_expr (pe_bm PySem.F.plainAttrs_list PySem.F.slot_list_insert PySem.F.type_list_insert mt_insert (pe_var hN hv hd hcd) (pa_cons pe_we (pa_cons pe_we pa_nil hs2) hs) hbase hfew hline hs hplain) hsw) ?_
  obtain ⟨q, vs, h1, h2, h3, h4⟩ := E.env.ownAt hΓ
  refine ⟨.ref q, h1, .inl ⟨rfl, vs, .inl (.inl h2)⟩, ?_⟩
  refine h F H [] [] σ rfl E.env _ fun v r F1 H1 k1 E1 => ?_
  obtain ⟨n, hfr, hn, hz, k1⟩ := k1
  subst hfr
  refine k1 F1 H1 [some v] [.im (.int (n : Int))] σ rfl E1 _ fun v2 r2 F2 H2 k2 E2 => ?_
  obtain ⟨d, hfr, k⟩ := k2
  obtain ⟨F3, E3⟩ := E2.frzTop
  rw [hfr] at E3
  have hy2 := E3.imAt (i := 0) rfl rfl
  have E4 : EnvR c F3 H2 (some v :: σ) (.im (.int (n : Int)) :: Γ) := E3.pop
  have hy : v = .int (n : Int) := E4.imAt (i := 0) rfl rfl
  subst hy
  have E5 := E4.pop
  obtain ⟨q2, ws, g1, g2, g3, g4⟩ := E5.ownAt hΓ
  rw [h1] at g1
  cases g1
  refine ⟨q, ws, (n : Int), v2, rfl, rfl, g2, by rw [← g3.length]; exact hz, by omega, by omega, ok.nx _ F3 _ σ k ⟨?_, E.nv.set rfl⟩⟩
  exact E5.write E.nv hΓ h1 ⟨_, upd_same, by rw [Int.toNat_natCast]; exact ((g3.take n).append (.one hy2)).append (g3.drop n)⟩
/-- x[e] = v, x an own list -/
theorem wst_lput (i : Nat) {ie : Expr} {p2 : Pos} (hΓ : Γ[i]? = some (.own (.lst l))) (h : WPe X c e Γ fun r => ∃ d, r = .im d ∧ WPe X c ie Γ fun r2 => ∃ n : Nat, r2 = .im (.int (n : Int)) ∧ n < l.length ∧ D.nx (Γ.set i (.own (.lst (l.set n d))))) (hN : X.N[i]? = some x := by rfl)
    (hv : Vis X.env.scope x := by first | exact Or.inl rfl | exact Or.inr (Or.inl rfl) | exact Or.inr (Or.inr rfl)) (hd : (x == ("__debug__" : Str)) = false := by decide) (hcd : (x == ("__classdict__" : Str)) = false := by decide)
    (ha : ∀ v, assign (.Subscript (.Name x p) ie p2) X.env v = (do
      let ov ← holding [v] (eval (.Name x p) X.env)
      let iv ← holding [v, ov] (eval ie X.env)
      standAt p2
      holding [v, ov, iv] (setItem ov iv v)
      release [v, ov, iv] []) := by intro _; rfl) (hs1 : swapsWithSole [.Subscript (.Name x p) ie p2] e pos.line X.env = pure false := by rfl) (hs2 : swappedStores [.Subscript (.Name x p) ie p2] e X.env = pure none := by rfl)
    (hs3 : (assignEach [.Subscript (.Name x p) ie p2] X.env).map (·.2) = [assign (.Subscript (.Name x p) ie p2) X.env] := by rfl) : WPst X c (.Assign [.Subscript (.Name x p) ie p2] e pos) Γ D := fun F H σ E Ee ok => by
  refine ws_of (ps_asg pe_we (pg_sub (pe_var hN hv hd hcd) pe_we set_list ha) hs1 hs2 hs3) ?_
  refine h F H [] [] σ rfl E.env _ fun v r F1 H1 k1 E1 => ?_
  obtain ⟨d, hfr, k1⟩ := k1
  subst hfr
  have E1' : EnvR c F1 H1 σ Γ := E1.pop
  obtain ⟨q, vs, h1, h2, h3, h4⟩ := E1'.ownAt hΓ
  refine ⟨.ref q, h1, ?_⟩
  refine k1 F1 H1 [some v] [.im d] σ rfl E1 _ fun v2 r2 F2 H2 k2 E2 => ?_
  obtain ⟨n, hfr, hn, k⟩ := k2
  subst hfr
  have hy2 : v2 = .int (n : Int) := E2.imAt (i := 0) rfl rfl
  subst hy2
  have E3 : EnvR c F2 H2 (some v :: σ) (.im d :: Γ) := E2.pop
  have hy := E3.imAt (i := 0) rfl rfl
  have E5 := E3.pop
  obtain ⟨q2, ws, g1, g2, g3, g4⟩ := E5.ownAt hΓ
  rw [h1] at g1
  cases g1
  refine ⟨q, ws, (n : Int), n, rfl, rfl, g2, ixN_of (by rw [← g3.length]; exact hn), ok.nx _ F2 _ σ k ⟨?_, E.nv.set rfl⟩⟩
  exact E5.write E.nv hΓ h1 ⟨_, upd_same, g3.set n hy⟩
end
/-! ### slices -/
def WO (X : Cx) (e : Option Expr) : TO := fun σ H Q => ∀ (pins : List (Addr × Obj)) (s : Shared), Inv X pins σ H s → wpAny (model X.prog X.w) X.A (evalPart e X.env) (fun u s' => ∃ o H', Inv X pins σ H' s' ∧ IsPart u o ∧ Q o H') X.xe s
theorem po_wo {X : Cx} {e : Option Expr} : PO X e (WO X e) := ⟨fun pins s σ H Q I h => h pins s I⟩
theorem wo_of {X : Cx} {e : Option Expr} {t : TO} (h : PO X e t) {σ : L2.St} {H : Hp} {Q : Option Int → Hp → Prop} (q : t σ H Q) : WO X e σ H Q := fun pins s I => h.run pins s σ H Q I q
def WPo (X : Cx) (c : C0) (e : Option Expr) (Γ : List Sl) (K : Option Int → Prop) : Prop :=
  ∀ (F H : Hp) (stk : L2.St) (S : List Sl) (σ : L2.St), stk.length = S.length → EnvR c F H (stk ++ σ) (S ++ Γ) → ∀ Q : Option Int → Hp → Prop,
    (∀ o F' H', K o → EnvR c F' H' (stk ++ σ) (S ++ Γ) → Q o H') → WO X e σ H Q
section
variable {X : Cx} {c : C0} {Γ : List Sl} {K : Sl → Prop} {a e : Expr} {lo hi : Option Expr} {pos p2 : Pos}
theorem wpo_none {KO : Option Int → Prop} (k : KO none) : WPo X c none Γ KO := fun F H stk S σ hl E Q q => wo_of po_none (q none F H k E)
theorem wpo_some {KO : Option Int → Prop} (h : WPe X c e Γ fun r => ∃ i, r = .im (.int i) ∧ KO (some i)) : WPo X c (some e) Γ KO := fun F H stk S σ hl E Q q => by
  refine wo_of (po_some pe_we) ?_
  refine h F H stk S σ hl E _ fun v r F1 H1 k1 E1 => ?_
  obtain ⟨i, rfl, k⟩ := k1
  exact ⟨i, E1.imAt (i := 0) rfl rfl, q (some i) F1 H1 k E1.pop⟩
/-- the items of a slice -/
def cutD (xs : List D) (lo hi : Option Int) : List D := (xs.drop (HT.sIx xs.length 0 lo)).take (HT.sIx xs.length xs.length hi - HT.sIx xs.length 0 lo)
theorem Dats.cut {F : Hp} {ds : List D} {vs : List V} (h : Dats F ds vs) (lo hi : Option Int) : Dats F (cutD ds lo hi) (cutV vs lo hi) := by
  unfold cutD cutV
  rw [h.length]
  exact (h.drop _).take _
theorem wp_sliceT (h : WPe X c a Γ fun ra => ∃ l, ra = .im (.tup l) ∧ WPo X c lo Γ fun o1 => WPo X c hi Γ fun o2 => K (.im (.tup (cutD l o1 o2)))) : WPe X c (.Subscript a (.Slice lo hi none p2) pos) Γ K := fun F H stk S σ hl E Q q => by
  refine we_of (pe_slice sl_tupA pe_we po_wo po_wo) ?_
  refine h F H stk S σ hl E _ fun x ra F1 H1 k1 E1 => ?_
  obtain ⟨l, rfl, k1⟩ := k1
  refine k1 F1 H1 (some x :: stk) (.im (.tup l) :: S) σ (by simp [hl]) E1 _ fun o1 F2 H2 k2 E2 => ?_
  refine k2 F2 H2 (some x :: stk) (.im (.tup l) :: S) σ (by simp [hl]) E2 _ fun o2 F3 H3 k3 E3 => ?_
  obtain ⟨p, vs, e1, hp, hd⟩ := E3.imAt (i := 0) rfl rfl
  have hcut := hd.cut o1 o2
  refine ⟨p, vs, e1, .inl (.inl (E3.ex _ _ hp)), fun w => ?_, fun w p3 hp3 => ?_⟩
  · have e : cutD l o1 o2 = l := by
      have hl := hd.length
      unfold cutD
      rw [hl, w.1, w.2, List.drop_zero, Nat.sub_zero, List.take_of_length_le (by omega)]
    refine q _ (.im (.tup (cutD l o1 o2))) F3 H3 k3 ?_
    rw [e, ← e1]
    exact E3
  · exact q _ (.im (.tup (cutD l o1 o2))) _ _ k3 (EnvR.pushTup (σ := stk ++ σ) (Γ := S ++ Γ) E3.pop hp3 hcut)
theorem wp_sliceL (h : WPe X c a Γ fun ra => ∃ l, lst? (frz ra) = some l ∧ WPo X c lo Γ fun o1 => WPo X c hi Γ fun o2 => K (.own (.lst (cutD l o1 o2)))) : WPe X c (.Subscript a (.Slice lo hi none p2) pos) Γ K := fun F H stk S σ hl E Q q => by
  refine we_of (pe_slice sl_list pe_we po_wo po_wo) ?_
  refine h F H stk S σ hl E _ fun x ra F1 H1 k1 E1 => ?_
  obtain ⟨l, hr, k1⟩ := k1
  obtain ⟨F1, E1⟩ := E1.frzTop
  refine k1 F1 H1 (some x :: stk) (frz ra :: S) σ (by simp [hl]) E1 _ fun o1 F2 H2 k2 E2 => ?_
  refine k2 F2 H2 (some x :: stk) (frz ra :: S) σ (by simp [hl]) E2 _ fun o2 F3 H3 k3 E3 => ?_
  obtain ⟨p, vs, e1, hp, hd⟩ := E3.lstAt (i := 0) rfl rfl hr
  exact ⟨p, vs, e1, .inl (.inl hp), fun p3 hp3 => q _ (.own (.lst (cutD l o1 o2))) _ _ k3 (EnvR.pushOwn (σ := stk ++ σ) (Γ := S ++ Γ) E3.pop hp3 ⟨_, upd_same, hd.cut o1 o2⟩)⟩
/-- xs[::-1] -/
theorem wp_rev {kk : Nat} {q1 q2 q3 : Pos} (h : WPe X c a Γ fun ra => ∃ l, lst? (frz ra) = some l ∧ K (.own (.lst l.reverse))) : WPe X c (.Subscript a (.Slice none none (some (.UnaryOp .USub (.Constant (.int 1) kk q1) q2)) q3) pos) Γ K := fun F H stk S σ hl E Q q => by
  refine we_of (pe_revL pe_we) ?_
  refine h F H stk S σ hl E _ fun x ra F1 H1 k1 E1 => ?_
  obtain ⟨l, hr, k1⟩ := k1
  obtain ⟨F1, E1⟩ := E1.frzTop
  obtain ⟨p, vs, e1, hp, hd⟩ := E1.lstAt (i := 0) rfl rfl hr
  exact ⟨p, vs, e1, .inl (.inl hp), fun p3 hp3 => q _ (.own (.lst l.reverse)) _ _ k1 (EnvR.pushOwn (σ := stk ++ σ) (Γ := S ++ Γ) E1.pop hp3 ⟨_, upd_same, hd.reverse⟩)⟩
/-- list(range(n)) -/
theorem wp_listRange {q1 q2 q3 : Pos} (hc : X.calm = true) (hm : X.mg "list" = none) (hm2 : X.mg "range" = none) (h : WPe X c a Γ fun r => ∃ n : Nat, r = .im (.int (n : Int)) ∧ n ≤ 16777216 ∧ K (.own (.lst ((List.range n).map fun i => .int (i : Nat))))) (hg : Gl X "list" := by rfl) (hg2 : Gl X "range" := by rfl)
    (na : starEach [a] X.env = (false, eval a X.env) :: starEach [] X.env := by rfl) (na2 : starEach [.Call (.Name "range" q1) [a] [] q2] X.env = (false, eval (.Call (.Name "range" q1) [a] [] q2) X.env) :: starEach [] X.env := by rfl) :
    WPe X c (.Call (.Name "list" q3) [.Call (.Name "range" q1) [a] [] q2] [] pos) Γ K := fun F H stk S σ hl E Q q => by
  refine we_of (pe_listRg hc hg hm (prg_1 hg2 hm2 pe_we na) na2) ?_
  refine h F H stk S σ hl E _ fun v r F1 H1 k1 E1 => ?_
  obtain ⟨n, rfl, hn, k⟩ := k1
  refine ⟨(n : Int), E1.imAt (i := 0) rfl rfl, RgOk.of_le (Int.le_refl 0) (by omega) (by omega) (by omega), fun p hp => q _ _ F1 _ k (EnvR.pushOwn (σ := stk ++ σ) (Γ := S ++ Γ) E1.pop hp ⟨_, upd_same, ?_⟩)⟩
  unfold rgV
  have e1 : ((n : Int) - 0).toNat = n := by omega
  rw [e1]
  have e2 : ((List.range n).map fun i => D.int ((i : Nat) : Int)) = ((List.range n).map fun i => ((i : Nat) : Int)).map D.int := by rw [List.map_map]; rfl
  have e3 : ((List.range n).map fun i => V.int (0 + ((i : Nat) : Int))) = ((List.range n).map fun i => ((i : Nat) : Int)).map V.int := by
    rw [List.map_map]
    apply List.map_congr_left
    intro i _
    simp
  rw [e2, e3]
  exact Dats.of_ints _
end
/-! ### dicts -/
def kD : Key → D
  | .inl i => .int i
  | .inr s => .str s
theorem kD_dat {F : Hp} {k : Key} {v : V} (h : Dat F (kD k) v) : v = kV k := by
  cases k with
  | inl i => exact h
  | inr s => exact h
/-- d[k] -/
def getD? : List Key → List D → Key → Option D
  | k :: ks, d :: ds, j => if k = j then some d else getD? ks ds j
  | _, _, _ => none
theorem valV_zip {F : Hp} {j : Key} : ∀ {ks : List Key} {ds : List D} {vs : List V}, ks.length = ds.length → Dats F ds vs → (valV (ks.zip vs) j).isSome = (getD? ks ds j).isSome ∧ ∀ d, getD? ks ds j = some d → ∃ v, valV (ks.zip vs) j = some v ∧ Dat F d v
  | [], [], vs, _, h => by
    have e : vs = [] := h
    subst e
    exact ⟨rfl, fun d h => by cases h⟩
  | [], _ :: _, _, e, _ => by simp at e
  | _ :: _, [], _, e, _ => by simp at e
  | k :: ks, d :: ds, vs, e, h => by
    obtain ⟨v, w, rfl, hd, ht⟩ := h
    have ih := valV_zip (j := j) (ks := ks) (ds := ds) (vs := w) (by simpa using e) ht
    rw [List.zip_cons_cons]
    by_cases q : k = j
    · have e1 : getD? (k :: ks) (d :: ds) j = some d := if_pos q
      rw [valV_pos (show (k, v).1 = j from q), e1]
      exact ⟨rfl, fun d' h' => by cases h'; exact ⟨v, rfl, hd⟩⟩
    · have e1 : getD? (k :: ks) (d :: ds) j = getD? ks ds j := if_neg q
      rw [valV_neg (show ¬ (k, v).1 = j from q), e1]
      exact ih
theorem getD?_none {j : Key} : ∀ {ks : List Key} {ds : List D}, ks.length = ds.length → (getD? ks ds j = none ↔ j ∉ ks)
  | [], [], _ => by simp [getD?]
  | [], _ :: _, e => by simp at e
  | _ :: _, [], e => by simp at e
  | k :: ks, d :: ds, e => by
    have ih := getD?_none (j := j) (ks := ks) (ds := ds) (by simpa using e)
    by_cases q : k = j
    · subst q
      have e1 : getD? (k :: ks) (d :: ds) k = some d := if_pos rfl
      rw [e1]
      simp
    · have e1 : getD? (k :: ks) (d :: ds) j = getD? ks ds j := if_neg q
      rw [e1, ih, List.mem_cons]
      exact ⟨fun h z => z.elim (fun z => q z.symm) h, fun h z => h (.inr z)⟩
section
variable {X : Cx} {c : C0} {Γ : List Sl} {K : Sl → Prop} {a b : Expr} {pos : Pos}
theorem wp_dget (hu : X.A.units + 1 < cLine) (h : WPe X c a Γ fun ra => WPe X c b Γ fun rb => ∃ ks ds k d, dct? (frz ra) = some (ks, ds) ∧ rb = .im (kD k) ∧ getD? ks ds k = some d ∧ K (.im d)) (hs : NoSl b := by exact fun _ _ => rfl) : WPe X c (.Subscript a b pos) Γ K := fun F H stk S σ hl E Q q => by
  refine we_of (pe_dget hu pe_we pe_we hs) ?_
  refine h F H stk S σ hl E _ fun x ra F1 H1 k1 E1 => ?_
  obtain ⟨F1, E1⟩ := E1.frzTop
  refine k1 F1 H1 (some x :: stk) (frz ra :: S) σ (by simp [hl]) E1 _ fun y rb F2 H2 k2 E2 => ?_
  obtain ⟨ks, ds, k, d, hr, rfl, hg, k2⟩ := k2
  have hy := kD_dat (E2.imAt (i := 0) rfl rfl)
  obtain ⟨p, vs, e1, e2, e3, e4⟩ := E2.dctAt (i := 1) rfl rfl hr
  obtain ⟨v, hv, hd⟩ := (valV_zip (j := k) e3 e4).2 d hg
  refine ⟨p, v, e1, .inl ⟨_, k, .inl e2, hy, hv.symm⟩, q v (.im d) F2 H2 k2 ?_⟩
  exact EnvR.push (σ := stk ++ σ) (Γ := S ++ Γ) E2.pop.pop hd
theorem op_inD (hu : X.A.units + 1 < cLine) : OpR X (compareOp .In) (fun y x H Q => ∃ a o, x = .ref a ∧ DGet H a y o ∧ Q (.bl o.isSome) H) := fun pins s σ H x y v u Q I rx ry h => by
  obtain ⟨a, o, rfl, g, q⟩ := h
  have eu : u = Value.ref a := ry
  subst eu
  exact d_in hu I g rx fun s3 I3 => ⟨.bl o.isSome, H, I3, rfl, q⟩
theorem od_inD (hu : X.A.units + 1 < cLine) {rb : Sl} {k : Key} {ks : List Key} {ds : List D} (hr : dct? rb = some (ks, ds)) (kk : K (.im (.bl (getD? ks ds k).isSome))) : OpD X c (compareOp .In) (.im (kD k)) rb K := fun F H L G x y E Q q pins s σ u w I rx ry => by
  have hx := kD_dat (E.imAt (i := 1) rfl rfl)
  obtain ⟨p, vs, e1, e2, e3, e4⟩ := E.dctAt (i := 0) rfl rfl hr
  refine op_inD hu pins s σ H x y u w Q I rx ry ⟨p, valV (ks.zip vs) k, e1, .inl ⟨_, k, .inl e2, hx, rfl⟩, ?_⟩
  rw [(valV_zip (j := k) e3 e4).1]
  exact q _ (.im (.bl (getD? ks ds k).isSome)) F H kk (E.pop.pop.push rfl)
/-- sorted(d) of int keys -/
theorem cd_sortedDI (hc : X.calm = true) {r : Sl} {ns : List Int} {ds : List D} (hr : dct? r = some (ns.map Sum.inl, ds)) (hl : ns.length < 64) (k : ∀ ys : List Int, ys.Perm ns → ys.Pairwise (· ≤ ·) → K (.own (.lst (ys.map D.int)))) : CallD X c (.builtin "sorted") [r] K := cd_one (call_sortedDI hc) fun F H L G v E Q q => by
  obtain ⟨p, vs, e1, e2, e3, e4⟩ := E.dctAt (i := 0) rfl rfl hr
  refine ⟨p, _, ns, by rw [e1], .inl e2, ?_, hl, fun ys a hp hs ha => q _ (.own (.lst (ys.map D.int))) F _ (k ys hp hs) (E.pop.pushOwn ha ⟨_, upd_same, Dats.of_ints ys⟩)⟩
  rw [List.map_fst_zip]
  rw [e3, e4.length]
  exact Nat.le_refl _
/-! ### isinstance -/
def tyD : Sl → String
  | .im .non => "NoneType"
  | .im (.bl _) => "bool"
  | .im (.int _) => "int"
  | .im (.str _) => "str"
  | .im (.tup _) => "tuple"
  | .im (.lst _) => "list"
  | .vw (.lst _) => "list"
  | .im (.dct _ _) => "dict"
  | .vw (.dct _ _) => "dict"
  | _ => ""
theorem EnvR.tyX {F H : Hp} {σ : L2.St} {Γ : List Sl} (E : EnvR c F H σ Γ) {i : Nat} {r : Sl} {v : V} (h : Γ[i]? = some r) (hv : σ[i]? = some (some v)) (hn : tyD r ≠ "") : TyX X.K H v (.type (tyD r)) := by
  have kd : ∀ ks l, dct? r = some (ks, l) → tyD r = "dict" → TyX X.K H v (.type (tyD r)) := fun ks l z z2 => by
    obtain ⟨p, vs, e1, e2, _⟩ := E.dctAt h hv z
    rw [e1, z2]
    exact .base (.dK e2)
  have kl : ∀ l, lst? r = some l → tyD r = "list" → TyX X.K H v (.type (tyD r)) := fun l z z2 => by
    obtain ⟨p, vs, e1, e2, _⟩ := E.lstAt h hv z
    rw [e1, z2]
    exact .base (.lst e2)
  cases r with
  | any => exact absurd rfl hn
  | own d => exact absurd rfl hn
  | hand => exact absurd rfl hn
  | deep v o => exact absurd rfl hn
  | vo v π o => exact absurd rfl hn
  | im d =>
    have hd := E.imAt h hv
    cases d with
    | non =>
      have e : v = .non := hd
      rw [e]
      exact .base .non
    | bl b =>
      have e : v = .bl b := hd
      rw [e]
      exact .base (.bl b)
    | int b =>
      have e : v = .int b := hd
      rw [e]
      exact .base (.int b)
    | str b =>
      have e : v = .str b := hd
      rw [e]
      exact .base (.str b)
    | tup l =>
      obtain ⟨p, vs, e, e2, _⟩ := hd
      rw [e]
      exact .base (.tup (E.ex _ _ e2))
    | lst l => exact kl l rfl rfl
    | dct ks l => exact kd ks l rfl rfl
  | vw d =>
    cases d with
    | lst l => exact kl l rfl rfl
    | dct ks l => exact kd ks l rfl rfl
    | _ => exact absurd rfl hn
theorem wp_isi {e : Expr} {p q : Pos} {T : Str} {Tn : String} (hm : X.mg "isinstance" = none) (hT : X.mg T = none) (hb : bootBuiltins T = some (.type Tn)) (h : WPe X c e Γ fun r => ∃ t b, tyD (frz r) = t ∧ t ≠ "" ∧ kitB t Tn = some b ∧ K (.im (.bl b))) (hg : Gl X "isinstance" := by rfl) (hg2 : Gl X T := by rfl) (hn : T ≠ "__name__" := by decide) (hd : (T == ("__debug__" : Str)) = false := by decide)
    (he : starEach [e, .Name T q] X.env = (false, eval e X.env) :: starEach [.Name T q] X.env := by rfl) (he2 : starEach [.Name T q] X.env = (false, eval (.Name T q) X.env) :: starEach [] X.env := by rfl) (hpl : (backTo pos (starEach [.Name T q] X.env)).any (·.1) = false := by rfl) :
    WPe X c (.Call (.Name "isinstance" p) [e, .Name T q] [] pos) Γ K := fun F H stk S σ hl E Q qq => by
  refine we_of (pe_callB call_isi hg hm PyProof.Rows.boot_isinstance (pa_cons pe_we (pa_cons (pe_bltn (v := .ty Tn) hg2 hT hb rfl hn hd) pa_nil he2) he) (by decide) (by decide) he hpl) ?_
  refine h F H stk S σ hl E _ fun v r F1 H1 k1 E1 => ?_
  obtain ⟨t, b, rfl, h1, h2, k⟩ := k1
  obtain ⟨F1, E1⟩ := E1.frzTop
  exact ⟨v, .ty Tn, _, _, b, rfl, .ty Tn, E1.tyX (i := 0) rfl rfl h1, kit_ty h2, qq _ (.im (.bl b)) F1 H1 k (E1.pop.push rfl)⟩
end
end DL

set_option Elab.async false
set_option linter.all false
set_option maxRecDepth 100000
set_option maxHeartbeats 2000000
/-! DL10: cuts, stores into dicts, dict comprehensions, update -/
namespace DL
open PySem PySem.Spec PyProof.Rows L2
section
variable {X : Cx} {c : C0} {Γ : List Sl} {D : DEnds} {st : Stmt} {rest : List Stmt}
/-- a statement, then the rest by what is known between -/
theorem wps_seq (J : List Sl → Prop) (h1 : WPst X c st Γ { D with nx := J }) (h2 : ∀ Γ, J Γ → WPs X c rest Γ D) : WPs X c (st :: rest) Γ D := wps_cons (fun F H σ E Ee ok => h1 F H σ E Ee ⟨fun Γ F H σ q E => ok.nx Γ F H σ (h2 Γ q) E, ok.rt, ok.bk, ok.ct⟩)
end
/-! ### tests whose answer is known -/
section
variable {X : Cx} {c : C0} {Γ : List Sl} {KB : Bool → Prop} {a b d : Expr} {pos : Pos} {x y z : Bool}
theorem wpt_or2 (h1 : WPt X c a Γ fun t => t = x) (h2 : x = false → WPt X c b Γ fun t => t = y) (k : KB (x || y)) : WPt X c (.BoolOp .Or [a, b] pos) Γ KB := by
  refine wpt_w <| wpw_or <| h1.mono fun t ht => ?_
  subst ht
  refine ⟨fun e => ?_, fun e => ?_⟩
  · rw [e] at k
    simpa using k
  · refine wpw_or1 <| (h2 e).mono fun t ht => ?_
    rw [e] at k
    rw [ht]
    simpa using k
theorem wpt_and2 (h1 : WPt X c a Γ fun t => t = x) (h2 : x = true → WPt X c b Γ fun t => t = y) (k : KB (x && y)) : WPt X c (.BoolOp .And [a, b] pos) Γ KB := by
  refine wpt_w <| wpw_and <| h1.mono fun t ht => ?_
  subst ht
  refine ⟨fun e => ?_, fun e => ?_⟩
  · refine wpw_and1 <| (h2 e).mono fun t ht => ?_
    rw [e] at k
    rw [ht]
    simpa using k
  · rw [e] at k
    simpa using k
theorem wpt_and3 (h1 : WPt X c a Γ fun t => t = x) (h2 : x = true → WPt X c b Γ fun t => t = y) (h3 : x = true → y = true → WPt X c d Γ fun t => t = z) (k : KB (x && (y && z))) : WPt X c (.BoolOp .And [a, b, d] pos) Γ KB := by
  refine wpt_w <| wpw_and <| h1.mono fun t ht => ?_
  subst ht
  refine ⟨fun e => ?_, fun e => ?_⟩
  · refine wpw_and <| (h2 e).mono fun t ht => ?_
    subst ht
    rw [e] at k
    refine ⟨fun e2 => ?_, fun e2 => ?_⟩
    · refine wpw_and1 <| (h3 e e2).mono fun t ht => ?_
      rw [e2] at k
      rw [ht]
      simpa using k
    · rw [e2] at k
      simpa using k
  · rw [e] at k
    simpa using k
end
/-! ### d[k] = v, a new key -/
section
variable {X : Cx} {c : C0} {Γ : List Sl} {D : DEnds} {e ie : Expr} {pos p p2 : Pos} {x : Str} {ks : List Key} {ds : List DL.D}
theorem zip_snoc {α β : Type} : ∀ {l : List α} {m : List β} {a : α} {b : β}, l.length = m.length → (l ++ [a]).zip (m ++ [b]) = l.zip m ++ [(a, b)]
  | [], [], _, _, _ => rfl
  | [], _ :: _, _, _, e => by simp at e
  | _ :: _, [], _, _, e => by simp at e
  | x :: l, y :: m, a, b, e => by
    have ih := zip_snoc (l := l) (m := m) (a := a) (b := b) (by simpa using e)
    rw [List.cons_append, List.cons_append, List.zip_cons_cons, ih]
    rfl
theorem put_new {F : Hp} {k : Key} {v : V} {vs : List V} (e3 : ks.length = ds.length) (e4 : Dats F ds vs) (hk : k ∉ ks) : putK (ks.zip vs) k v = (ks ++ [k]).zip (vs ++ [v]) := by
  rw [putK_new, zip_snoc (by rw [e3, e4.length])]
  have h := (valV_zip (j := k) e3 e4).1
  rw [(getD?_none (j := k) e3).mpr hk] at h
  cases q : valV (ks.zip vs) k with
  | none => rfl
  | some u =>
    rw [q] at h
    cases h
theorem EnvR.dctOwn {F H : Hp} {σ : L2.St} {Γ : List Sl} (E : EnvR c F H σ Γ) {i : Nat} (h : Γ[i]? = some (.own (.dct ks ds))) : ∃ p vs, σ[i]? = some (some (.ref p)) ∧ H p = some (.dK (ks.zip vs)) ∧ ks.length = ds.length ∧ Dats F ds vs ∧ F p = none := by
  obtain ⟨p, h1, ⟨vs, h2, h3, h4⟩, h5, _⟩ := E.own h
  exact ⟨p, vs, h1, h2, h3, h4, h5⟩
theorem wst_dput (i : Nat) (hu : X.A.units + 1 < cLine) (hΓ : Γ[i]? = some (.own (.dct ks ds))) (hz : ks.length < sizeLine) (h : WPe X c e Γ fun r => ∃ d, r = .im d ∧ WPe X c ie Γ fun r2 => ∃ k, r2 = .im (kD k) ∧ k ∉ ks ∧ D.nx (Γ.set i (.own (.dct (ks ++ [k]) (ds ++ [d]))))) (hN : X.N[i]? = some x := by rfl)
    (hv : Vis X.env.scope x := by first | exact Or.inl rfl | exact Or.inr (Or.inl rfl) | exact Or.inr (Or.inr rfl)) (hd : (x == ("__debug__" : Str)) = false := by decide) (hcd : (x == ("__classdict__" : Str)) = false := by decide)
    (hs : swapsWith e (some (.Subscript (.Name x p) ie p2)) pos.line X.env = pure false := by rfl) : WPst X c (.Assign [.Subscript (.Name x p) ie p2] e pos) Γ D := fun F H σ E Ee ok => by
  refine ws_of (ps_dput hu (pe_var hN hv hd hcd) pe_we pe_we hs) ?_
  refine h F H [] [] σ rfl E.env _ fun v r F1 H1 k1 E1 => ?_
  obtain ⟨d, hfr, k1⟩ := k1
  subst hfr
  have E1' : EnvR c F1 H1 σ Γ := E1.pop
  obtain ⟨q, vs, h1, h2, h3, h4, h5⟩ := E1'.dctOwn hΓ
  refine ⟨.ref q, h1, ?_⟩
  refine k1 F1 H1 [some v] [.im d] σ rfl E1 _ fun v2 r2 F2 H2 k2 E2 => ?_
  obtain ⟨k, hfr, hn, k2⟩ := k2
  subst hfr
  have hy2 := kD_dat (E2.imAt (i := 0) rfl rfl)
  have E3 : EnvR c F2 H2 (some v :: σ) (.im d :: Γ) := E2.pop
  have hy := E3.imAt (i := 0) rfl rfl
  have E5 := E3.pop
  obtain ⟨q2, ws, g1, g2, g3, g4, g5⟩ := E5.dctOwn hΓ
  rw [h1] at g1
  cases g1
  have hzip : ((ks.zip ws).length : Nat) < sizeLine := by
    rw [List.length_zip]
    omega
  refine ⟨q, _, rfl, .inl ⟨_, k, g2, hy2, hzip, rfl⟩, ok.nx _ F2 _ σ k2 ⟨?_, E.nv.set rfl⟩⟩
  exact E5.write E.nv hΓ h1 ⟨ws ++ [v], by rw [upd_same, put_new g3 g4 hn], by simp [g3], g4.append (.one hy)⟩
end
/-! ### dict comprehensions, each key new -/
section
variable {X : Cx} {c : C0} {Γ : List Sl} {K : Sl → Prop} {tg iter kx vx : Expr} {ifs : List Expr} {scope : Scope} {own : List (Str × Nat)} {pos : Pos}
theorem dc_D (J : Nat → List Key → List DL.D → Prop) (hv : own.all (fun p => decide (p.2 < Γ.length)) = true)
    (h : WPi X c tg iter Γ fun n item => J 0 [] [] ∧ (∀ (F1 H1 : Hp) (i : Nat) (ks : List Key) (acc : List DL.D), i < n → J i ks acc → ∀ Y, IsBlk X scope Y → GtC Y (c.at F1 H1) tg (.im (item i)) (wipeS (Γ.map lookS) (own.map (·.2))) (own.map (·.2)) fun Γ2 =>
      ∀ Y, IsBlk X scope Y → WPts Y (c.at F1 H1) ifs Γ2 fun b => (b = true → ∀ Y, IsBlk X scope Y → WPe Y (c.at F1 H1) kx Γ2 fun rk => ∃ k, rk = .im (kD k) ∧ k ∉ ks ∧ ∀ Y, IsBlk X scope Y → WPe Y (c.at F1 H1) vx Γ2 fun r => ∃ d, frz r = .im d ∧ ks.length < sizeLine ∧ J (i + 1) (ks ++ [k]) (acc ++ [d])) ∧ (b = false → J (i + 1) ks acc)) ∧
      ∀ ks acc, J n ks acc → K (.own (.dct ks acc)))
    (F H : Hp) (stk : L2.St) (S : List Sl) (σ : L2.St) (hl : stk.length = S.length) (E : EnvR c F H (stk ++ σ) (S ++ Γ)) (Q : VK) (q : ∀ v r F' H', K r → EnvR c F' H' (some v :: (stk ++ σ)) (r :: (S ++ Γ)) → Q v H') :
    tDc (IWt X tg iter) (gB X scope tg) (tB X scope ifs) (eB X scope kx) (eB X scope vx) (own.map (·.2)) σ H Q := by
  refine h F H stk S σ hl E _ fun It n item src F1 H1 k1 io sF E1 D hD => ?_
  obtain ⟨j0, turn, fin⟩ := k1
  have hDW : D ∉ c.W := fun w => E1.wne w hD
  have hD1 : F1 D = none := E1.ex.back hD
  have hvs : ∀ v ∈ own.map (·.2), v < Γ.length := fun v hm => by
    obtain ⟨p, hp, rfl⟩ := List.mem_map.mp hm
    exact of_decide_eq_true (List.all_eq_true.mp hv p hp)
  refine ⟨fun i m H => m = n - i ∧ i ≤ n ∧ ∃ F ks acc vs', J i ks acc ∧ Acc c F1 H1 F H D ∧ H D = some (.dK (ks.zip vs')) ∧ ks.length = acc.length ∧ Dats F acc vs', ⟨n, by simp, Nat.zero_le _, F1, [], [], [], j0, ⟨E1.ex.mut hD1, Gr.refl _ _, fun a u ha _ => by rw [upd_ne (ne_of_none ha hD)]; exact ha, c.stab H1 _ (fun a w => upd_ne (fun z => hDW (by rw [← z]; exact w))) (extx_new hD) E1.hk, hD1⟩, upd_same, rfl, .nil⟩, ?_⟩
  rintro i m H2 ⟨rfl, hi, F2, ks, acc, vs', ji, A, hD2, hkl, hd⟩
  have sF2 : src F2 := io.mono F1 F2 A.gr.1 sF
  have E2 := A.env (vs := own.map (·.2)) E1 hl hvs hD (d := .dct ks acc) ⟨vs', hD2, hkl, hd⟩
  by_cases hlt : i < n
  · refine .inr ⟨io.go F2 H2 i A.ex sF2 hlt, fun H' => ∃ F ks acc vs', J (i + 1) ks acc ∧ Acc c F1 H1 F H' D ∧ H' D = some (.dK (ks.zip vs')) ∧ ks.length = acc.length ∧ Dats F acc vs', fun H' hN => ⟨n - (i + 1), by omega, rfl, hlt, hN⟩, fun x H' hy => ?_⟩
    obtain ⟨F3, e3, E3⟩ := io.yld _ F2 H2 _ _ i x H' E2 sF2 hlt hy
    intro Y hY
    refine turn F1 H1 i ks acc hlt ji Y hY F3 H' (some (.ref D) :: stk) (.own (.dct ks acc) :: S.map lookS) _ x (by simp [hl]) E3 _ fun F4 H4 σ4 Γ4 k4 w4 E4 => ⟨w4.trans wipe_wipe, ?_⟩
    have own5 : ∀ {F H : Hp} {L : L2.St} {G : List Sl}, EnvR (c.at F1 H1) F H (some (.ref D) :: L) (.own (.dct ks acc) :: G) → ∃ ws, H D = some (.dK (ks.zip ws)) ∧ Dats F acc ws ∧ F D = none := fun {F H L G} E => by
      obtain ⟨p, ws, hp, w1, w2, w3, w4⟩ := E.dctOwn (i := 0) rfl
      have e : D = p := by simpa using hp
      subst e
      exact ⟨ws, w1, w3, w4⟩
    have step : ∀ (F5 H5 : Hp), EnvR (c.at F1 H1) F5 H5 (some (.ref D) :: (stk ++ σ4)) (.own (.dct ks acc) :: (S.map lookS ++ Γ4)) → ∀ b : Bool, ((b = true → ∀ Y, IsBlk X scope Y → WPe Y (c.at F1 H1) kx Γ4 fun rk => ∃ k, rk = .im (kD k) ∧ k ∉ ks ∧ ∀ Y, IsBlk X scope Y → WPe Y (c.at F1 H1) vx Γ4 fun r => ∃ d, frz r = .im d ∧ ks.length < sizeLine ∧ J (i + 1) (ks ++ [k]) (acc ++ [d])) ∧ (b = false → J (i + 1) ks acc)) →
        if b = true then eB X scope kx σ4 H5 fun y H4 => eB X scope vx σ4 H4 fun z H5 => ∃ kvs k, y = kV k ∧ H5 D = some (.dK kvs) ∧ kvs.length < sizeLine ∧ (fun H' => ∃ F ks acc vs', J (i + 1) ks acc ∧ Acc c F1 H1 F H' D ∧ H' D = some (.dK (ks.zip vs')) ∧ ks.length = acc.length ∧ Dats F acc vs') (upd H5 D (.dK (putK kvs k z)))
        else (fun H' => ∃ F ks acc vs', J (i + 1) ks acc ∧ Acc c F1 H1 F H' D ∧ H' D = some (.dK (ks.zip vs')) ∧ ks.length = acc.length ∧ Dats F acc vs') H5 := by
      intro F5 H5 E5 b kb
      cases b with
      | false =>
        refine iteF ?_
        obtain ⟨ws, w1, w2, w3⟩ := own5 E5
        exact ⟨F5, ks, acc, ws, kb.2 rfl, ⟨E5.ex, ⟨E5.ex0, E5.gr⟩, E5.fr, E5.hk, w3⟩, w1, hkl, w2⟩
      | true =>
        refine iteT ?_
        intro Y hY
        refine kb.1 rfl Y hY F5 H5 (some (.ref D) :: stk) (.own (.dct ks acc) :: S.map lookS) σ4 (by simp [hl]) E5 _ fun y rk F6 H6 k6 E6 => ?_
        obtain ⟨k, rfl, hnk, k6⟩ := k6
        intro Y hY
        refine k6 Y hY F6 H6 (some y :: some (.ref D) :: stk) (.im (kD k) :: .own (.dct ks acc) :: S.map lookS) σ4 (by simp [hl]) E6 _ fun z r F7 H7 k7 E7 => ?_
        obtain ⟨d, hfr, hlen, j7⟩ := k7
        obtain ⟨F8, E8⟩ := E7.frzTop
        rw [hfr] at E8
        have hz := E8.imAt (i := 0) rfl rfl
        have hy2 := kD_dat (E8.imAt (i := 1) rfl rfl)
        have E9 := E8.pop.pop
        obtain ⟨ws, w1, w2, w3⟩ := own5 E9
        have hzip : (ks.zip ws).length < sizeLine := by
          rw [List.length_zip]
          omega
        refine ⟨_, k, hy2, w1, hzip, F8, ks ++ [k], acc ++ [d], ws ++ [z], j7, ⟨E9.ex.mut w3, ⟨E9.ex0, E9.gr⟩, fun a o ha w => ?_, c.stab H7 _ (fun a w => upd_ne (fun z => hDW (by rw [← z]; exact w))) (extx_mut fun φ z => by rw [w1] at z; cases z) E9.hk, w3⟩, by rw [upd_same, put_new hkl w2 hnk], by simp [hkl], w2.append (.one hz)⟩
        rw [upd_ne (ne_of_none ha hD)]
        exact E9.fr a o ha w
    have E4' : EnvR (c.at F1 H1) F4 H4 (some (.ref D) :: (stk ++ σ4)) (.own (.dct ks acc) :: (S.map lookS ++ Γ4)) := E4
    match ifs, k4 with
    | [], k4 => exact step F4 H4 E4' true (k4 Y hY)
    | [t], k4 =>
      intro Y hY
      exact k4 Y hY F4 H4 (some (.ref D) :: stk) (.own (.dct ks acc) :: S.map lookS) σ4 (by simp [hl]) E4 _ fun b F5 H5 kb E5 => step F5 H5 E5 b kb
    | _ :: _ :: _, k4 => exact (k4 Y hY).elim
  · have e : i = n := by omega
    subst e
    refine .inl ⟨io.stop F2 H2 A.ex sF2, q (.ref D) (.own (.dct ks acc)) F2 H2 (fin ks acc ji) ?_⟩
    exact E1.ret E2.only rfl rfl (fun a z => z) A.hk (fun z => by cases z) rfl
theorem wp_dc (J : Nat → List Key → List DL.D → Prop) (hc : X.calm = true) (hN : X.N.Nodup) (ok : BlkOk X.N X.env.scope scope own) (hv : own.all (fun p => decide (p.2 < Γ.length)) = true)
    (h : WPi X c tg iter Γ fun n item => J 0 [] [] ∧ (∀ (F1 H1 : Hp) (i : Nat) (ks : List Key) (acc : List DL.D), i < n → J i ks acc → ∀ Y, IsBlk X scope Y → GtC Y (c.at F1 H1) tg (.im (item i)) (wipeS (Γ.map lookS) (own.map (·.2))) (own.map (·.2)) fun Γ2 =>
      ∀ Y, IsBlk X scope Y → WPts Y (c.at F1 H1) ifs Γ2 fun b => (b = true → ∀ Y, IsBlk X scope Y → WPe Y (c.at F1 H1) kx Γ2 fun rk => ∃ k, rk = .im (kD k) ∧ k ∉ ks ∧ ∀ Y, IsBlk X scope Y → WPe Y (c.at F1 H1) vx Γ2 fun r => ∃ d, frz r = .im d ∧ ks.length < sizeLine ∧ J (i + 1) (ks ++ [k]) (acc ++ [d])) ∧ (b = false → J (i + 1) ks acc)) ∧
      ∀ ks acc, J n ks acc → K (.own (.dct ks acc)))
    (hs : ∀ x, foldedSetIterable iter X.env x = pure x := by intro _; rfl) : WPe X c (.DictComp kx vx [⟨tg, iter, ifs, 0⟩] scope pos) Γ K := fun F H stk S σ hl E Q q =>
  we_of (pe_dc hc hN pi_iw ok pg_gB pt_tB pe_eB pe_eB hs) (dc_D J hv h F H stk S σ hl E Q q)
end
/-! ### d.update(e), all keys of e new -/
theorem merge_new : ∀ (more : List (Key × V)) (kvs : List (Key × V)), (more.map (·.1)).Nodup → (∀ p ∈ more, valV kvs p.1 = none) → mergeK kvs more = kvs ++ more
  | [], kvs, _, _ => by simp [mergeK]
  | p :: r, kvs, hn, h => by
    have hn' := List.nodup_cons.mp hn
    have ih := merge_new r (putK kvs p.1 p.2) hn'.2 (fun q hq => by
      rw [valV_put, if_neg]
      · exact h q (List.mem_cons_of_mem _ hq)
      · intro e
        exact hn'.1 (List.mem_map.mpr ⟨q, hq, e⟩))
    show mergeK (putK kvs p.1 p.2) r = _
    rw [ih, putK_new _ (h p (by simp)), List.append_assoc]
    rfl
section
variable {X : Cx} {c : C0} {Γ : List Sl} {D : DEnds} {e : Expr} {pos p apos cpos : Pos} {x : Str} {ks : List Key} {ds : List DL.D}
theorem mt_update : MtM X "dict.update" (fun x vs H Q => ∃ d o ks ms, x = .ref d ∧ vs = [.ref o] ∧ d ≠ o ∧ H d = some (.dK ks) ∧ Rd H o (.dK ms) ∧ ks.length + ms.length ≤ sizeLine ∧ Q .non (upd H d (.dK (mergeK ks ms)))) := by
  intro pins s σ H x vs v us Q I rx rv h
  obtain ⟨d, o, ks, ms, rfl, rfl, hne, hd, ho, hz, q⟩ := h
  cases rx
  obtain ⟨u, rfl, ru⟩ := rv.one
  cases ru
  obtain ⟨z, hs, vs1, rel, dd⟩ := dk_rd I.hok (.inl hd)
  obtain ⟨z2, hs2, vs2, rel2, dd2⟩ := dk_rd I.hok ho
  have l1 := Paired.length rel
  have l2 := Paired.length rel2
  refine call_meetsIn PySem.F.slot_dict_update dd.typeIs PySem.F.entry_dict_update (PySem.F.args_dict_update_2 _ _) (meets_dict_update (mixKind X.prog X.w) d o hne hs2) ⟨vs1, vs2, dd, dd2, by rw [← l1, ← l2]; exact hz, fun h' dd' _ sb => ?_⟩
  have he : ∃ q, h'.get? d = some q := let ⟨q, _, _, hq, _⟩ := dd'; ⟨q, hq⟩
  have hlen := length_mergeK ms ks
  exact ⟨.non, _, d_write (t' := s.toks) I (by rw [hd]; exact True.intro) sb he (dk_new (by omega) hs (rel2.merge rel) dd'), rfl, q⟩
theorem wst_update (i : Nat) (hΓ : Γ[i]? = some (.own (.dct ks ds))) (h : WPe X c e Γ fun r => ∃ ms es, frz r = .im (.dct ms es) ∧ ms.Nodup ∧ (∀ k ∈ ms, k ∉ ks) ∧ ks.length + ms.length ≤ sizeLine ∧ D.nx (Γ.set i (.own (.dct (ks ++ ms) (ds ++ es))))) (hN : X.N[i]? = some x := by rfl)
    (hv : Vis X.env.scope x := by first | exact Or.inl rfl | exact Or.inr (Or.inl rfl) | exact Or.inr (Or.inr rfl)) (hd : (x == ("__debug__" : Str)) = false := by decide) (hcd : (x == ("__classdict__" : Str)) = false := by decide)
    (hbase : attributeBase (.Name x p) "update" X.env (eval (.Name x p) X.env) = eval (.Name x p) X.env := by rfl)
    (hfew : ((backTo cpos (starEach [e] X.env)).all (fun x => !x.1) && (backToKw cpos (keywordEach [] X.env)).all (fun x => x.1.isSome) && decide ([e].length + ([] : List Keyword).length + (if ([] : List Keyword).isEmpty then 0 else 1) < 30)) = true := by rfl)
    (hline : (apos.endLine == cpos.line) = true := by rfl) (hs : starEach [e] X.env = (false, eval e X.env) :: starEach [] X.env := by rfl) (hplain : (backTo cpos (starEach [] X.env)).any (·.1) = false := by rfl) (hsw : swapsWith (.Call (.Attribute (.Name x p) "update" apos) [e] [] cpos) none pos.line X.env = pure false := by rfl) :
    WPst X c (.Expr (.Call (.Attribute (.Name x p) "update" apos) [e] [] cpos) pos) Γ D := fun F H σ E Ee ok => by
  refine ws_of (ps_expr (pe_bm PySem.F.plainAttrs_dict PySem.F.slot_dict_update PySem.F.type_dict_update mt_update (pe_var hN hv hd hcd) (pa_cons pe_we pa_nil hs) hbase hfew hline hs hplain) hsw) ?_
  obtain ⟨q, vs, h1, h2, h3, h4, h5⟩ := E.env.dctOwn hΓ
  refine ⟨.ref q, h1, .inr (.inr (.inl ⟨rfl, .inl ⟨_, h2⟩⟩)), ?_⟩
  refine h F H [] [] σ rfl E.env _ fun v r F1 H1 k1 E1 => ?_
  obtain ⟨ms, es, hfr, hnd, hnew, hz, k⟩ := k1
  obtain ⟨F2, E2⟩ := E1.frzTop
  rw [hfr] at E2
  obtain ⟨b, us, b1, c2, b3, b4⟩ := E2.imAt (i := 0) rfl rfl
  have b2 := E2.ex _ _ c2
  have E3 : EnvR c F2 H1 σ Γ := E2.pop
  obtain ⟨q2, ws, g1, g2, g3, g4, g5⟩ := E3.dctOwn hΓ
  rw [h1] at g1
  cases g1
  have hne : q ≠ b := fun z => by
    subst z
    rw [g5] at c2
    cases c2
  have hl1 : (ks.zip ws).length = ks.length := by rw [List.length_zip, ← g4.length, ← g3]; exact Nat.min_self _
  have hl2 : (ms.zip us).length = ms.length := by rw [List.length_zip, ← b4.length, ← b3]; exact Nat.min_self _
  refine ⟨q, b, ks.zip ws, ms.zip us, rfl, by rw [b1], hne, g2, .inl b2, by omega, ok.nx _ F2 _ σ k ⟨?_, E.nv.set rfl⟩⟩
  refine E3.write E.nv hΓ h1 ⟨ws ++ us, ?_, by simp [g3, b3], g4.append b4⟩
  have hfst : (ms.zip us).map (·.1) = ms := List.map_fst_zip (by rw [b3, b4.length]; exact Nat.le_refl _)
  rw [upd_same, merge_new _ _ (by rw [hfst]; exact hnd) (fun p hp => ?_), List.zip_append (by rw [g3, g4.length])]
  have hm : p.1 ∈ ms := by
    rw [← hfst]
    exact List.mem_map.mpr ⟨p, hp, rfl⟩
  have hv := (valV_zip (j := p.1) g3 g4).1
  rw [(getD?_none (j := p.1) g3).mpr (hnew _ hm)] at hv
  cases z : valV (ks.zip ws) p.1 with
  | none => rfl
  | some u =>
    rw [z] at hv
    cases hv
end
section
variable {X : Cx} {c : C0} {Γ : List Sl} {K : Sl → Prop} {pos : Pos}
theorem wp_dict0 (k : K (.own (.dct [] []))) : WPe X c (.Dict [] [] pos) Γ K := fun F H stk S σ hl E Q q => we_of pe_dnewK fun p hp => q _ _ F _ k (EnvR.pushOwn E hp ⟨[], upd_same, rfl, .nil⟩)
theorem ud_neg {i : Int} (k : K (.im (.int (-i)))) : UnD X c (unaryOp .USub) (.im (.int i)) K := fun F H L G x E Q q pins s σ u I rx =>
  un_neg pins s σ H x u Q I rx ⟨i, E.imAt (i := 0) rfl rfl, q _ _ F H k (E.pop.push rfl)⟩
end
/-! ### x, y = a, b by a tuple (names that a block reads) -/
section
variable {X : Cx} {c : C0} {Γ : List Sl} {D : DEnds} {a b d e : Expr} {pos : Pos}
/-- a new thing that nobody knows -/
theorem EnvR.junk {F H : Hp} {σ : L2.St} {Γ : List Sl} {p : Addr} {o : HO} (E : EnvR c F H σ Γ) (hp : H p = none) : EnvR c F (upd H p o) σ Γ :=
  E.step (Gr.refl F H) (E.ex.mut (E.ex.back hp)) (fun a u ha _ => by rw [upd_ne (ne_of_none ha hp)]; exact ha) (c.stab H _ (fun a w => upd_ne (fun z => E.wne w (by rw [z]; exact hp))) (extx_new hp) E.hk)
theorem wst_tup2 (i j : Nat) {x y : Str} {px py : Pos} {kt k2 pt pt2} (hc : X.calm = true) (hN : X.N.Nodup) (hij : i ≠ j) (h : WPe X c a Γ fun ra => WPe X c b Γ fun rb => isv ra = false ∧ isv rb = false ∧ D.nx ((Γ.set i ra).set j rb))
    (hl : i < Γ.length := by exact Nat.le_of_ble_eq_true rfl) (hl2 : j < Γ.length := by exact Nat.le_of_ble_eq_true rfl) (hi : X.N[i]? = some x := by rfl) (hj : X.N[j]? = some y := by rfl) (hx : Loc X.env.scope x := by first | exact Or.inl rfl | exact Or.inr rfl) (hy : Loc X.env.scope y := by first | exact Or.inl rfl | exact Or.inr rfl)
    (hf : X.fn x = true ∨ X.env.scope.names.lookup x = some .local := by first | exact .inl rfl | exact .inr rfl) (hf2 : X.fn y = true ∨ X.env.scope.names.lookup y = some .local := by first | exact .inl rfl | exact .inr rfl)
    (hn : (assignEach [.Name x px, .Name y py] X.env).length = 2 := by rfl) (hst : (assignEach [.Name x px, .Name y py] X.env).findIdx? (·.1) = none := by rfl)
    (hs1 : (assignEach [.Name x px, .Name y py] X.env).map (·.2) = assign (.Name x px) X.env :: (assignEach [.Name y py] X.env).map (·.2) := by rfl) (hs2 : (assignEach [.Name y py] X.env).map (·.2) = assign (.Name y py) X.env :: (assignEach [] X.env).map (·.2) := by rfl)
    (hw : swappedStores [.Tuple [.Name x px, .Name y py] kt pt] (.Tuple [a, b] k2 pt2) X.env = pure none := by rfl) (hs : swapsWithSole [.Tuple [.Name x px, .Name y py] kt pt] (.Tuple [a, b] k2 pt2) pos.line X.env = pure false := by rfl)
    (h1 : (assignEach [.Tuple [.Name x px, .Name y py] kt pt] X.env).map (·.2) = [assign (.Tuple [.Name x px, .Name y py] kt pt) X.env] := by rfl) (hsa : starEach [a, b] X.env = (false, eval a X.env) :: starEach [b] X.env := by rfl) (hsb : starEach [b] X.env = (false, eval b X.env) :: starEach [] X.env := by rfl) :
    WPst X c (.Assign [.Tuple [.Name x px, .Name y py] kt pt] (.Tuple [a, b] k2 pt2) pos) Γ D := fun F H σ E Dd ok => by
  refine ws_of (ps_asg (pe_tup (pa_cons pe_we (pa_cons pe_we pa_nil hsb) hsa)) (pg_tup hc (pgs_cons (pg_name hN hi hx hf) (pgs_cons (pg_name hN hj hy hf2) pgs_nil hs2) hs1) hn hst) hs hw h1) ?_
  refine h F H [] [] σ rfl E.env _ fun v ra F1 H1 k1 E1 => ?_
  refine k1 F1 H1 [some v] [ra] σ rfl E1 _ fun w rb F2 H2 k2 E2 => ?_
  obtain ⟨n1, n2, k⟩ := k2
  refine ⟨by show 2 ≤ sizeLine; decide, fun p hp => ⟨p, [v, w], rfl, .inl (.inl upd_same), rfl, v, [w], rfl, w, [], rfl, rfl, ok.nx _ F2 _ _ k ⟨?_, (E.nv.set (nv_of n1)).set (nv_of n2)⟩⟩⟩
  have E3 : EnvR c F2 (upd H2 p (.tup [v, w])) (some w :: some v :: σ) (rb :: ra :: Γ) := EnvR.junk E2 hp
  have E4 : EnvR c F2 (upd H2 p (.tup [v, w])) ((some v :: σ).set (j + 1) (some w)) ((ra :: Γ).set (j + 1) rb) := E3.store (by simpa using hl2)
  have E5 : EnvR c F2 (upd H2 p (.tup [v, w])) (some v :: σ.set j (some w)) (ra :: Γ.set j rb) := E4
  have E6 := E5.store (i := i) (by simpa using hl)
  rw [List.set_comm _ _ hij, List.set_comm _ _ hij]
  exact E6
theorem wst_tup3 (i j l : Nat) {x y z : Str} {px py pz : Pos} {kt k2 pt pt2} (hc : X.calm = true) (hN : X.N.Nodup) (hij : i ≠ j) (hil : i ≠ l) (hjl : j ≠ l) (h : WPe X c a Γ fun ra => WPe X c b Γ fun rb => WPe X c d Γ fun rc => isv ra = false ∧ isv rb = false ∧ isv rc = false ∧ D.nx (((Γ.set i ra).set j rb).set l rc))
    (hl : i < Γ.length := by exact Nat.le_of_ble_eq_true rfl) (hl2 : j < Γ.length := by exact Nat.le_of_ble_eq_true rfl) (hl3 : l < Γ.length := by exact Nat.le_of_ble_eq_true rfl) (hi : X.N[i]? = some x := by rfl) (hj : X.N[j]? = some y := by rfl) (hll : X.N[l]? = some z := by rfl)
    (hx : Loc X.env.scope x := by first | exact Or.inl rfl | exact Or.inr rfl) (hy : Loc X.env.scope y := by first | exact Or.inl rfl | exact Or.inr rfl) (hz : Loc X.env.scope z := by first | exact Or.inl rfl | exact Or.inr rfl)
    (hf : X.fn x = true ∨ X.env.scope.names.lookup x = some .local := by first | exact .inl rfl | exact .inr rfl) (hf2 : X.fn y = true ∨ X.env.scope.names.lookup y = some .local := by first | exact .inl rfl | exact .inr rfl) (hf3 : X.fn z = true ∨ X.env.scope.names.lookup z = some .local := by first | exact .inl rfl | exact .inr rfl)
    (hn : (assignEach [.Name x px, .Name y py, .Name z pz] X.env).length = 3 := by rfl) (hst : (assignEach [.Name x px, .Name y py, .Name z pz] X.env).findIdx? (·.1) = none := by rfl)
    (hs1 : (assignEach [.Name x px, .Name y py, .Name z pz] X.env).map (·.2) = assign (.Name x px) X.env :: (assignEach [.Name y py, .Name z pz] X.env).map (·.2) := by rfl) (hs2 : (assignEach [.Name y py, .Name z pz] X.env).map (·.2) = assign (.Name y py) X.env :: (assignEach [.Name z pz] X.env).map (·.2) := by rfl) (hs3 : (assignEach [.Name z pz] X.env).map (·.2) = assign (.Name z pz) X.env :: (assignEach [] X.env).map (·.2) := by rfl)
    (hw : swappedStores [.Tuple [.Name x px, .Name y py, .Name z pz] kt pt] (.Tuple [a, b, d] k2 pt2) X.env = pure none := by rfl) (hs : swapsWithSole [.Tuple [.Name x px, .Name y py, .Name z pz] kt pt] (.Tuple [a, b, d] k2 pt2) pos.line X.env = pure false := by rfl)
    (h1 : (assignEach [.Tuple [.Name x px, .Name y py, .Name z pz] kt pt] X.env).map (·.2) = [assign (.Tuple [.Name x px, .Name y py, .Name z pz] kt pt) X.env] := by rfl) (hsa : starEach [a, b, d] X.env = (false, eval a X.env) :: starEach [b, d] X.env := by rfl) (hsb : starEach [b, d] X.env = (false, eval b X.env) :: starEach [d] X.env := by rfl) (hsc : starEach [d] X.env = (false, eval d X.env) :: starEach [] X.env := by rfl) :
    WPst X c (.Assign [.Tuple [.Name x px, .Name y py, .Name z pz] kt pt] (.Tuple [a, b, d] k2 pt2) pos) Γ D := fun F H σ E Dd ok => by
  refine ws_of (ps_asg (pe_tup (pa_cons pe_we (pa_cons pe_we (pa_cons pe_we pa_nil hsc) hsb) hsa)) (pg_tup hc (pgs_cons (pg_name hN hi hx hf) (pgs_cons (pg_name hN hj hy hf2) (pgs_cons (pg_name hN hll hz hf3) pgs_nil hs3) hs2) hs1) hn hst) hs hw h1) ?_
  refine h F H [] [] σ rfl E.env _ fun v ra F1 H1 k1 E1 => ?_
  refine k1 F1 H1 [some v] [ra] σ rfl E1 _ fun w rb F2 H2 k2 E2 => ?_
  refine k2 F2 H2 [some w, some v] [rb, ra] σ rfl E2 _ fun u rc F3 H3 k3 E3 => ?_
  obtain ⟨n1, n2, n3, k⟩ := k3
  refine ⟨by show 3 ≤ sizeLine; decide, fun p hp => ⟨p, [v, w, u], rfl, .inl (.inl upd_same), rfl, v, [w, u], rfl, w, [u], rfl, u, [], rfl, rfl, ok.nx _ F3 _ _ k ⟨?_, ((E.nv.set (nv_of n1)).set (nv_of n2)).set (nv_of n3)⟩⟩⟩
  have E3' : EnvR c F3 (upd H3 p (.tup [v, w, u])) (some u :: some w :: some v :: σ) (rc :: rb :: ra :: Γ) := EnvR.junk E3 hp
  have E4 : EnvR c F3 (upd H3 p (.tup [v, w, u])) (some w :: some v :: σ.set l (some u)) (rb :: ra :: Γ.set l rc) := EnvR.store (i := l + 2) (Γ := rb :: ra :: Γ) (σ := some w :: some v :: σ) E3' (by simpa using hl3)
  have E5 : EnvR c F3 (upd H3 p (.tup [v, w, u])) (some v :: (σ.set l (some u)).set j (some w)) (ra :: (Γ.set l rc).set j rb) := EnvR.store (i := j + 1) (Γ := ra :: Γ.set l rc) (σ := some v :: σ.set l (some u)) E4 (by simpa using hl2)
  have E6 := EnvR.store (i := i) E5 (by simpa using hl)
  rw [set3 hij hil hjl, set3 hij hil hjl]
  exact E6
end
/-! ### a, b, c, d = [], [], [], [] -/
section
variable {X : Cx} {c : C0} {Γ : List Sl} {D : DEnds} {pos : Pos}
theorem wst_lists4 (i j l n : Nat) {x y z u : Str} {px py pz pu q1 q2 q3 q4 : Pos} {kt k2 pt pt2} (hc : X.calm = true) (hN : X.N.Nodup) (hij : i ≠ j) (hil : i ≠ l) (hin : i ≠ n) (hjl : j ≠ l) (hjn : j ≠ n) (hln : l ≠ n) (h : D.nx ((((Γ.set n (.own (.lst []))).set l (.own (.lst []))).set j (.own (.lst []))).set i (.own (.lst []))))
    (hl : i < Γ.length := by exact Nat.le_of_ble_eq_true rfl) (hl2 : j < Γ.length := by exact Nat.le_of_ble_eq_true rfl) (hl3 : l < Γ.length := by exact Nat.le_of_ble_eq_true rfl) (hl4 : n < Γ.length := by exact Nat.le_of_ble_eq_true rfl) (hi : X.N[i]? = some x := by rfl) (hj : X.N[j]? = some y := by rfl) (hll : X.N[l]? = some z := by rfl) (hnn : X.N[n]? = some u := by rfl)
    (hx : Loc X.env.scope x := by first | exact Or.inl rfl | exact Or.inr rfl) (hy : Loc X.env.scope y := by first | exact Or.inl rfl | exact Or.inr rfl) (hz : Loc X.env.scope z := by first | exact Or.inl rfl | exact Or.inr rfl) (hu : Loc X.env.scope u := by first | exact Or.inl rfl | exact Or.inr rfl)
    (hf : X.fn x = true ∨ X.env.scope.names.lookup x = some .local := by first | exact .inl rfl | exact .inr rfl) (hf2 : X.fn y = true ∨ X.env.scope.names.lookup y = some .local := by first | exact .inl rfl | exact .inr rfl) (hf3 : X.fn z = true ∨ X.env.scope.names.lookup z = some .local := by first | exact .inl rfl | exact .inr rfl) (hf4 : X.fn u = true ∨ X.env.scope.names.lookup u = some .local := by first | exact .inl rfl | exact .inr rfl)
    (hn : (assignEach [.Name x px, .Name y py, .Name z pz, .Name u pu] X.env).length = 4 := by rfl) (hst : (assignEach [.Name x px, .Name y py, .Name z pz, .Name u pu] X.env).findIdx? (·.1) = none := by rfl)
    (hs1 : (assignEach [.Name x px, .Name y py, .Name z pz, .Name u pu] X.env).map (·.2) = assign (.Name x px) X.env :: (assignEach [.Name y py, .Name z pz, .Name u pu] X.env).map (·.2) := by rfl) (hs2 : (assignEach [.Name y py, .Name z pz, .Name u pu] X.env).map (·.2) = assign (.Name y py) X.env :: (assignEach [.Name z pz, .Name u pu] X.env).map (·.2) := by rfl)
    (hs3 : (assignEach [.Name z pz, .Name u pu] X.env).map (·.2) = assign (.Name z pz) X.env :: (assignEach [.Name u pu] X.env).map (·.2) := by rfl) (hs4 : (assignEach [.Name u pu] X.env).map (·.2) = assign (.Name u pu) X.env :: (assignEach [] X.env).map (·.2) := by rfl)
    (hw : swappedStores [.Tuple [.Name x px, .Name y py, .Name z pz, .Name u pu] kt pt] (.Tuple [.List [] q1, .List [] q2, .List [] q3, .List [] q4] k2 pt2) X.env = pure none := by rfl) (hs : swapsWithSole [.Tuple [.Name x px, .Name y py, .Name z pz, .Name u pu] kt pt] (.Tuple [.List [] q1, .List [] q2, .List [] q3, .List [] q4] k2 pt2) pos.line X.env = pure false := by rfl)
    (h1 : (assignEach [.Tuple [.Name x px, .Name y py, .Name z pz, .Name u pu] kt pt] X.env).map (·.2) = [assign (.Tuple [.Name x px, .Name y py, .Name z pz, .Name u pu] kt pt) X.env] := by rfl)
    (ha : starEach [.List [] q1, .List [] q2, .List [] q3, .List [] q4] X.env = (false, eval (.List [] q1) X.env) :: starEach [.List [] q2, .List [] q3, .List [] q4] X.env := by rfl) (hb : starEach [.List [] q2, .List [] q3, .List [] q4] X.env = (false, eval (.List [] q2) X.env) :: starEach [.List [] q3, .List [] q4] X.env := by rfl)
    (hcc : starEach [.List [] q3, .List [] q4] X.env = (false, eval (.List [] q3) X.env) :: starEach [.List [] q4] X.env := by rfl) (hd : starEach [.List [] q4] X.env = (false, eval (.List [] q4) X.env) :: starEach [] X.env := by rfl) :
    WPst X c (.Assign [.Tuple [.Name x px, .Name y py, .Name z pz, .Name u pu] kt pt] (.Tuple [.List [] q1, .List [] q2, .List [] q3, .List [] q4] k2 pt2) pos) Γ D := fun F H σ E Dd ok => by
  refine ws_of (ps_asg (pe_tup (pa_cons (pe_lst pa_nil) (pa_cons (pe_lst pa_nil) (pa_cons (pe_lst pa_nil) (pa_cons (pe_lst pa_nil) pa_nil hd) hcc) hb) ha)) (pg_tup hc (pgs_cons (pg_name hN hi hx hf) (pgs_cons (pg_name hN hj hy hf2) (pgs_cons (pg_name hN hll hz hf3) (pgs_cons (pg_name hN hnn hu hf4) pgs_nil hs4) hs3) hs2) hs1) hn hst) hs hw h1) ?_
  refine ⟨Nat.zero_le _, fun p1 n1 => ⟨Nat.zero_le _, fun p2 n2 => ⟨Nat.zero_le _, fun p3 n3 => ⟨Nat.zero_le _, fun p4 n4 => ⟨by show 4 ≤ sizeLine; decide, fun p hp => ⟨p, [.ref p1, .ref p2, .ref p3, .ref p4], rfl, .inl (.inl upd_same), rfl, .ref p1, _, rfl, .ref p2, _, rfl, .ref p3, _, rfl, .ref p4, _, rfl, rfl, ?_⟩⟩⟩⟩⟩⟩
  have E1 := E.env.pushOwn n1 (d := .lst []) ⟨[], upd_same, .nil⟩
  have E2 := E1.pushOwn n2 (d := .lst []) ⟨[], upd_same, .nil⟩
  have E3 := E2.pushOwn n3 (d := .lst []) ⟨[], upd_same, .nil⟩
  have E4 := E3.pushOwn n4 (d := .lst []) ⟨[], upd_same, .nil⟩
  have E5 := E4.junk (o := .tup [.ref p1, .ref p2, .ref p3, .ref p4]) hp
  have S1 := EnvR.store (i := n + 3) E5 (by simpa using hl4)
  have S2 := EnvR.store (i := l + 2) S1 (by simpa using hl3)
  have S3 := EnvR.store (i := j + 1) S2 (by simpa using hl2)
  have S4 := EnvR.store (i := i) S3 (by simpa using hl)
  refine ok.nx _ F _ _ h ⟨?_, (((E.nv.set (nv_of rfl)).set (nv_of rfl)).set (nv_of rfl)).set (nv_of rfl)⟩
  have e : (((σ.set i (some (.ref p1))).set j (some (.ref p2))).set l (some (.ref p3))).set n (some (.ref p4)) = (((σ.set n (some (.ref p4))).set l (some (.ref p3))).set j (some (.ref p2))).set i (some (.ref p1)) := by
    rw [List.set_comm _ _ hln, List.set_comm _ _ hjn, List.set_comm _ _ hin, List.set_comm _ _ hjl, List.set_comm _ _ hil, List.set_comm _ _ hij]
  rw [e]
  exact S4
theorem cd_strInt {i : Int} (hs : i.natAbs.log2 < 1920) {K : Sl → Prop} (k : K (.im (.str (toString i)))) : CallD X c (.type "str") [.im (.int i)] K := cd_val (ds := [.int i]) (dr := .str (toString i)) call_str_int (fun F H xs _ hx => ⟨.str (toString i), rfl, fun Q q => by
    obtain ⟨v, w, e, hv, e2⟩ := hx
    have e2' : w = [] := e2
    subst e2' e
    exact ⟨i, by rw [show v = .int i from hv], hs, q⟩⟩) k
end
/-! ### items of slices -/
def cutG {α : Type} (xs : List α) (lo hi : Option Int) : List α := (xs.drop (HT.sIx xs.length 0 lo)).take (HT.sIx xs.length xs.length hi - HT.sIx xs.length 0 lo)
theorem cutD_map {α : Type} (f : α → D) (l : List α) (lo hi : Option Int) : cutD (l.map f) lo hi = (cutG l lo hi).map f := by
  unfold cutD cutG
  rw [List.length_map, ← List.map_drop, ← List.map_take]
theorem cutG_mem {α : Type} {l : List α} {lo hi : Option Int} {x : α} (h : x ∈ cutG l lo hi) : x ∈ l := List.mem_of_mem_drop (List.mem_of_mem_take h)
theorem cutG_len {α : Type} (l : List α) (lo hi : Option Int) : (cutG l lo hi).length ≤ l.length := by
  unfold cutG
  rw [List.length_take, List.length_drop]
  omega
/-! ### texts in lists, compared -/
def strsOk (l : List Str) : Prop := ∀ s ∈ l, PyData.canLay0 (.str s) = true
theorem canLay_strs : ∀ {l : List Str}, strsOk l → PyData.canLayAll0 (pys (l.map D.str)) = true
  | [], _ => by rw [List.map_nil, pys, PyData.canLayAll0]
  | s :: r, h => by
    rw [List.map_cons, pys, PyData.canLayAll0, py, h s (by simp), canLay_strs (l := r) fun t ht => h t (List.mem_cons_of_mem _ ht)]
    rfl
theorem depth_strs : ∀ l : List Str, PyData.depthAll (pys (l.map D.str)) = 0
  | [] => by rw [List.map_nil, pys, PyData.depthAll]
  | s :: r => by
    rw [List.map_cons, pys, PyData.depthAll, py, PyData.depth, depth_strs r]
    rfl
theorem shaped_strs {l : List Str} (h : strsOk l) : SeqAt.shaped (py (.tup (l.map D.str))) = true := by
  unfold SeqAt.shaped
  rw [py, PyData.canLay0, canLay_strs h, PyData.depth, depth_strs]
  rfl
theorem eqv_strsA : ∀ l m : List Str, PyData.eqvAll (pys (l.map D.str)) (pys (m.map D.str)) = decide (l = m)
  | [], [] => by simp [pys, PyData.eqvAll]
  | [], b :: m => by simp [pys, PyData.eqvAll]
  | a :: l, [] => by simp [pys, PyData.eqvAll]
  | a :: l, b :: m => by
    rw [List.map_cons, List.map_cons, pys, pys, PyData.eqvAll, eqv_strsA l m, py, py, PyData.eqv]
    by_cases h : a = b
    · subst h
      by_cases q : l = m
      · subst q
        simp
      · simp [q]
    · simp [h]
theorem eqv_strs (l m : List Str) : PyData.eqv (py (.tup (l.map D.str))) (py (.tup (m.map D.str))) = decide (l = m) := by
  rw [py, py, PyData.eqv, eqv_strsA]
end DL

set_option Elab.async false
set_option linter.all false
set_option pp.maxSteps 300
set_option maxRecDepth 100000
set_option maxHeartbeats 2000000
/-! DL11: the hand of draws: what stands at its address -/
namespace DL
open PySem PySem.Spec PyProof.Rows L2
/-- the hand at p: its great numbers at q1, its small ones at q2 -/
def HandAt (p q1 q2 : Addr) (H : Hp) : Prop := ∃ (gs ss : List Int) (su tu : Int),
  H p = some (.dK [(.inr "great", .ref q1), (.inr "small", .ref q2), (.inr "sum", .int su), (.inr "turn", .int tu)]) ∧ H q1 = some (.lst (gs.map V.int)) ∧ H q2 = some (.lst (ss.map V.int)) ∧ ss ≠ [] ∧ gs.length ≤ 100 ∧ ss.length ≤ 100
def HandyW (W : List Addr) (hp : Addr) (hok : Hp → Prop) : Prop := ∃ q1 q2, W = [hp, q1, q2] ∧ hp ≠ q1 ∧ hp ≠ q2 ∧ q1 ≠ q2 ∧ ∀ H, hok H ↔ HandAt hp q1 q2 H
/-- the hand that c speaks of is one of draws -/
def Handy (c : C0) : Prop := HandyW c.W c.hp c.hok
/-- a hand's C0 -/
def cHand (F H : Hp) (p q1 q2 : Addr) : C0 where
  F0 := F
  H0 := H
  W := [p, q1, q2]
  hp := p
  hok := HandAt p q1 q2
  stab := fun H H' h _ ⟨gs, ss, su, tu, h1, h2, h3, h4⟩ => ⟨gs, ss, su, tu, by rw [h p (by simp)]; exact h1, by rw [h q1 (by simp)]; exact h2, by rw [h q2 (by simp)]; exact h3, h4⟩
  wl := fun H ⟨gs, ss, su, tu, h1, h2, h3, h4⟩ a ha => by
    simp only [List.mem_cons, List.not_mem_nil, or_false] at ha
    rcases ha with rfl | rfl | rfl
    · rw [h1]; exact Option.some_ne_none _
    · rw [h2]; exact Option.some_ne_none _
    · rw [h3]; exact Option.some_ne_none _
theorem cHand_handy {F H : Hp} {p q1 q2 : Addr} (h1 : p ≠ q1) (h2 : p ≠ q2) (h3 : q1 ≠ q2) : Handy (cHand F H p q1 q2) := ⟨q1, q2, rfl, h1, h2, h3, fun _ => Iff.rfl⟩
/-- SpD, with a hand of draws -/
def SpH (n : Nat) (pre : List Sl → Prop) (post : List Sl → Sl → Prop) : Sp := fun vs H Q _ => vs.length = n ∧ ∃ (c : C0) (F : Hp) (rs : List Sl), Handy c ∧ rs.length = n ∧ pre rs ∧ NV rs ∧ c.F0 = F ∧ c.H0 = H ∧ EnvR c F H (vs.map some) rs ∧
  ∀ v r F' H', post rs r → EnvR c F' H' [some v] [r] → Q v H'
theorem fn_DH {P : Program} {w : World} {K : PySem.W.Frag} {mg : Str → Option Value} {base : Heap} {x qual : Str} {st : Stmt} {f : Addr} {fd : FuncData} {N ps : List Str} {k : Nat} (F : Fun K x qual st f fd) (S : FnScope N ps (defScope st)) {pre : List Sl → Prop} {post : List Sl → Sl → Prop}
    (hb : ∀ (cdv : Value) (A : Around) (outer : List Env) (s : Shared) (H : Hp) (E : XK) (c : C0) (rs : List Sl), Room k (A.deeper (PyProof.Rows.envOfC qual (defScope st) s.heap.objs.size f cdv)) → Handy c → rs.length = ps.length → pre rs →
      WPs (cxOf L2.CX0 P w K mg base N qual (defScope st) f cdv A outer s H E).nox c (defBody st) (rs ++ List.replicate (N.length - ps.length) .any) { nx := fun _ => post rs (.im .non), rt := post rs }) : FnOk P w K mg base L2.CX0 (k + 1) f fd ps (SpH ps.length pre post) := by
  refine F.ok S (fun vs H Q E h => h.1) (fun cdv A outer s H vs Q E hr h => ⟨_, pss_wss, ?_⟩)
  obtain ⟨hl, c, F1, rs, hcd, hrl, hpre, nv, e1, e2, E1, q⟩ := h
  have hst : L2.start N vs = vs.map some ++ List.replicate (N.length - ps.length) none := by
    unfold L2.start
    rw [hl]
  rw [hst]
  refine hb cdv A outer s H E c rs hr hcd hrl hpre F1 H _ ⟨E1.rest, nv.rest⟩ _ ⟨fun Γ F H σ hn E' => ?_, fun r v F H hn E' => q v r F H hn E', fun Γ F H σ hn E' => hn.elim, fun Γ F H σ hn E' => hn.elim⟩
  exact q .non (.im .non) F H hn (E'.env.push (d := .non) rfl).only
section
variable {P : Program} {w : World} {K : PySem.W.Frag} {mg : Str → Option Value} {base : Heap} {k : Nat} {f : Addr} {fd : FuncData} {ps : List Str} {sp : Sp}
/-- a def whose walk is told in the open -/
theorem fn_rawG {x qual : Str} {st : Stmt} {N : List Str} (F : Fun K x qual st f fd) (S : FnScope N ps (defScope st)) (hlen : ∀ vs H Q E, sp vs H Q E → vs.length = ps.length)
    (hb : ∀ (cdv : Value) (A : Around) (outer : List Env) (s : Shared) (H : Hp) (vs : List V) (Q : VK) (E : XK), A.guards = some [] → Room k (A.deeper (PyProof.Rows.envOfC qual (defScope st) s.heap.objs.size f cdv)) → sp vs H Q E →
      WSs (cxOf L2.CX0 P w K mg base N qual (defScope st) f cdv A outer s H E).nox (defBody st) { nx := fun _ H' => Q .non H', rt := Q } (vs.map some ++ List.replicate (N.length - ps.length) none) H) : FnG P w K mg base (k + 1) f fd ps sp := by
  obtain ⟨oc, od, kV, doc, pm, an, cdv, ct, osl, rfl, lk, hcd⟩ := F.ex
  refine ⟨hlen, fun A outer s H args us vs Q E hgd hr e0 hbd r h => ?_⟩
  have hl := hlen vs H Q E h
  have inK : K.In s.heap := e0.mod.kin.keeps fun b o e => (e0.bs b o e).1
  have noLim : s.heap.NoLimit := e0.mod.nolimit.keeps fun b o e => (e0.bs b o e).1
  have kinds : ∀ y ∈ ps.zip us, (defScope st).names.lookup y.1 = some .local ∨ ((defScope st).names.lookup y.1 = some .cell ∧ ((cellsFrom (s.heap.objs.size + 1) (defScope st).names []).lookup y.1).isSome = true) := by
    rintro ⟨n, v⟩ hy
    rcases S.par n (List.of_mem_zip hy).1 with z | z
    · exact .inl z
    · exact .inr ⟨z, PySem.W.cellsFrom_some _ _ _ (.inl z)⟩
  apply codeAny_call_function hr.depth (inK _ _ lk) rfl S.co S.gen rfl (PySem.W.codeRec_of inK hcd)
  apply hbd
  apply wpAny_newFunctionEnv_cells S.kind kinds
  intro env he s1 x
  subst he
  refine ⟨noLim.keeps x.toInCall.keep, codeAny_func ?_⟩
  have I := inv_start (CX := L2.CX0) (P := P) (w := w) (K := K) (mg := mg) (base := base) (E := E) S hr.hd e0 hl r x
  have hst : L2.start N vs = vs.map some ++ List.replicate (N.length - ps.length) none := by
    unfold L2.start
    rw [hl]
  have W := hb cdv A outer s H vs Q E hgd (hr.deeper _) h
  have T := (pss_wss (X := (cxOf L2.CX0 P w K mg base N qual (defScope st) f cdv A outer s H E).nox) (sts := defBody st)).nox
  have run := T.run [] s1 (L2.start N vs) H { nx := fun _ H' => Q .non H', rt := Q } I (by rw [hst]; exact W)
  refine wpAny_mono run (fun fl s' hs => ?_) (fun e s' hs => hs)
  cases fl with
  | ret u =>
    obtain ⟨v, σ', H', J, rv, hq⟩ := hs
    exact ⟨v, H', J.os, J.bare, J.base, J.hok, rv, hq⟩
  | next =>
    obtain ⟨σ', H', J, hq⟩ := hs
    exact ⟨V.non, H', J.os, J.bare, J.base, J.hok, rfl, hq⟩
  | brk => exact hs.choose_spec.choose_spec.2.elim
  | cont => exact hs.choose_spec.choose_spec.2.elim
theorem fn_GH {x qual : Str} {st : Stmt} {N : List Str} (F : Fun K x qual st f fd) (S : FnScope N ps (defScope st)) {pre : List Sl → Prop} {post : List Sl → Sl → Prop}
    (hb : ∀ (cdv : Value) (A : Around) (outer : List Env) (s : Shared) (H : Hp) (E : XK) (c : C0) (rs : List Sl), A.guards = some [] → Room k (A.deeper (PyProof.Rows.envOfC qual (defScope st) s.heap.objs.size f cdv)) → Handy c → rs.length = ps.length → pre rs →
      WPs (cxOf L2.CX0 P w K mg base N qual (defScope st) f cdv A outer s H E).nox c (defBody st) (rs ++ List.replicate (N.length - ps.length) .any) { nx := fun _ => post rs (.im .non), rt := post rs }) : FnG P w K mg base (k + 1) f fd ps (SpH ps.length pre post) :=
  fn_rawG F S (fun vs H Q E h => h.1) fun cdv A outer s H vs Q E hgd hr h => by
    obtain ⟨hl, c, F1, rs, hcd, hrl, hpre, nv, e1, e2, E1, q⟩ := h
    exact hb cdv A outer s H E c rs hgd hr hcd hrl hpre F1 H _ ⟨E1.rest, nv.rest⟩ _ ⟨fun Γ F H σ hn E' => q .non (.im .non) F H hn (E'.env.push (d := .non) rfl).only, fun r v F H hn E' => q v r F H hn E', fun Γ F H σ hn E' => hn.elim, fun Γ F H σ hn E' => hn.elim⟩
theorem fn_raw {x qual : Str} {st : Stmt} {N : List Str} (F : Fun K x qual st f fd) (S : FnScope N ps (defScope st)) (hlen : ∀ vs H Q E, sp vs H Q E → vs.length = ps.length)
    (hb : ∀ (cdv : Value) (A : Around) (outer : List Env) (s : Shared) (H : Hp) (vs : List V) (Q : VK) (E : XK), Room k (A.deeper (PyProof.Rows.envOfC qual (defScope st) s.heap.objs.size f cdv)) → sp vs H Q E →
      WSs (cxOf L2.CX0 P w K mg base N qual (defScope st) f cdv A outer s H E).nox (defBody st) { nx := fun _ H' => Q .non H', rt := Q } (vs.map some ++ List.replicate (N.length - ps.length) none) H) : FnOk P w K mg base L2.CX0 (k + 1) f fd ps sp := by
  refine F.ok S hlen (fun cdv A outer s H vs Q E hr h => ⟨_, pss_wss, ?_⟩)
  have hst : L2.start N vs = vs.map some ++ List.replicate (N.length - ps.length) none := by
    unfold L2.start
    rw [hlen vs H Q E h]
  rw [hst]
  exact hb cdv A outer s H vs Q E hr h
end
section
variable {X : Cx} {c : C0} {Γ : List Sl} {K : Sl → Prop} {pos p : Pos} {k : Nat} {f : Addr} {fd : FuncData} {ps : List Str} {pre : List Sl → Prop} {post : List Sl → Sl → Prop} {x : Str} {e : Expr} {es : List Expr}
theorem spH_call {F H F1 H1 : Hp} {L : L2.St} {G : List Sl} {vs : List V} {ds : List DL.D} {Q : VK} {E0 : XK} (hcd : Handy c) (hl1 : vs.length = (Sl.hand :: ds.map Sl.im).length) (E1 : EnvR c F1 H1 (vs.reverse.map some ++ L) ((Sl.hand :: ds.map Sl.im).reverse ++ G)) (hlen : ds.length + 1 = ps.length) (hpre : pre (Sl.hand :: ds.map Sl.im))
    (k1 : ∀ r, post (Sl.hand :: ds.map Sl.im) r → isv r = false ∧ K r) (q : ∀ v r F' H', K r → EnvR c F' H' (some v :: L) (r :: G) → Q v H') : SpH ps.length pre post vs H1 Q E0 := by
  cases vs with
  | nil => simp at hl1
  | cons v0 vs =>
    have hvl : vs.length = ds.length := by simpa using hl1
    have E1' : EnvR c F1 H1 (vs.reverse.map some ++ (some v0 :: L)) ((ds.map Sl.im).reverse ++ (.hand :: G)) := by simpa [List.append_assoc] using E1
    obtain ⟨E2, hd⟩ := EnvR.dats hvl E1'
    have e0 : v0 = .ref c.hp := by
      have := E2.hand (i := 0) rfl
      simpa using this
    subst e0
    let c1 : C0 := { c with F0 := F1, H0 := H1 }
    have EA : EnvR c1 F1 H1 (vs.map some) (ds.map Sl.im) := env_args E2.ex hd E2.hk E2.nw rfl rfl
    have EB : EnvR c1 F1 H1 (some (.ref c.hp) :: vs.map some) (.hand :: ds.map Sl.im) := EA.pushS ⟨rfl, rfl⟩
    refine ⟨by simp [hvl, hlen], c1, F1, .hand :: ds.map Sl.im, hcd, by simpa using hlen, hpre, (nv_ims ds).cons rfl, rfl, rfl, EB, fun v r F' H' hpost E' => ?_⟩
    obtain ⟨h1, h3⟩ := k1 r hpost
    exact q v r F' H' h3 (E2.pop.ret E' rfl rfl (fun a z => z) E'.hk (fun _ => rfl) h1)
/-- f(hand, e, ..) -/
theorem wp_callY (hcd : Handy c) (G : FnOk X.prog X.w X.K X.mg X.base L2.CX0 k f fd ps (SpH ps.length pre post)) (hr : Room k X.A) (hm : X.mg x = some (.ref f)) (hk : PySem.W.keepIn X.K (.ref f) = true) (hb : Binds X.K fd ps [])
    (h : WPa X c (e :: es) Γ fun rs => ∃ ds : List DL.D, rs = Sl.hand :: ds.map Sl.im ∧ ds.length + 1 = ps.length ∧ pre rs ∧ ∀ r, post rs r → isv r = false ∧ K r) (hg : Gl X x := by rfl) (hn : starEach (e :: es) X.env = (false, eval e X.env) :: starEach es X.env := by rfl) (hdb : (x == ("__debug__" : Str)) = false := by decide)
    (hpl : (backTo pos (starEach es X.env)).any (·.1) = false := by rfl) : WPe X c (.Call (.Name x p) (e :: es) [] pos) Γ K := fun F H stk S σ hl E Q q => by
  refine we_of (pe_call (E := L2.E0) G hr hg hm hk hb .nil L2.pass0 pa_wa hdb hn hpl) ?_
  refine h F H stk S σ hl E _ fun vs rs F1 H1 k1 hl1 E1 => ?_
  obtain ⟨ds, e1, hlen, hpre, k1⟩ := k1
  subst e1
  rw [List.append_nil]
  exact spH_call (F := F) (H := H) hcd hl1 E1 hlen hpre k1 q
theorem wp_callYG (hcd : Handy c) (G : FnG X.prog X.w X.K X.mg X.base k f fd ps (SpH ps.length pre post)) (hgd : X.A.guards = some []) (hr : Room k X.A) (hm : X.mg x = some (.ref f)) (hk : PySem.W.keepIn X.K (.ref f) = true) (hb : Binds X.K fd ps [])
    (h : WPa X c (e :: es) Γ fun rs => ∃ ds : List DL.D, rs = Sl.hand :: ds.map Sl.im ∧ ds.length + 1 = ps.length ∧ pre rs ∧ ∀ r, post rs r → isv r = false ∧ K r) (hg : Gl X x := by rfl) (hn : starEach (e :: es) X.env = (false, eval e X.env) :: starEach es X.env := by rfl) (hdb : (x == ("__debug__" : Str)) = false := by decide)
    (hpl : (backTo pos (starEach es X.env)).any (·.1) = false := by rfl) : WPe X c (.Call (.Name x p) (e :: es) [] pos) Γ K := fun F H stk S σ hl E Q q => by
  refine we_of (pe_callG G hgd hr hg hm hk hb pa_wa hdb hn hpl) ?_
  refine h F H stk S σ hl E _ fun vs rs F1 H1 k1 hl1 E1 => ?_
  obtain ⟨ds, e1, hlen, hpre, k1⟩ := k1
  subst e1
  exact spH_call (F := F) (H := H) hcd hl1 E1 hlen hpre k1 q
end
end DL

set_option Elab.async false
set_option linter.all false
set_option pp.maxSteps 300
set_option maxRecDepth 100000
set_option maxHeartbeats 2000000
/-! DL12: more of numbers; the script; what is told in the open -/
namespace DL
open PySem PySem.Spec PyProof.Rows L2
section
variable {X : Cx} {c : C0} {Γ : List Sl} {K : Sl → Prop} {a e : Expr} {lo hi : Option Expr} {pos p2 : Pos} {i j : Int}
theorem od_mul (hc : CMul i j) (k : K (.im (.int (i * j)))) : OpD X c (binaryOp .Mult) (.im (.int i)) (.im (.int j)) K := fun F H L G x y E Q q pins s σ u w I rx ry =>
  op_mul pins s σ H x y u w Q I rx ry ⟨i, j, E.imAt (i := 1) rfl rfl, E.imAt (i := 0) rfl rfl, hc, q _ (.im (.int (i * j))) F H k (E.pop.pop.push rfl)⟩
theorem od_mod (hc : 0 < j) (k : K (.im (.int (i % j)))) : OpD X c (binaryOp .Mod) (.im (.int i)) (.im (.int j)) K := fun F H L G x y E Q q pins s σ u w I rx ry =>
  op_mod pins s σ H x y u w Q I rx ry ⟨i, j, E.imAt (i := 1) rfl rfl, E.imAt (i := 0) rfl rfl, hc, q _ (.im (.int (i % j))) F H k (E.pop.pop.push rfl)⟩
theorem od_fdiv (hc : CDiv i j) (k : K (.im (.int (i / j)))) : OpD X c (binaryOp .FloorDiv) (.im (.int i)) (.im (.int j)) K := fun F H L G x y E Q q pins s σ u w I rx ry =>
  op_fdiv pins s σ H x y u w Q I rx ry ⟨i, j, E.imAt (i := 1) rfl rfl, E.imAt (i := 0) rfl rfl, hc, q _ (.im (.int (i / j))) F H k (E.pop.pop.push rfl)⟩
theorem od_pow (hc : CPow i j) (k : K (.im (.int (i ^ j.toNat)))) : OpD X c (binaryOp .Pow) (.im (.int i)) (.im (.int j)) K := fun F H L G x y E Q q pins s σ u w I rx ry =>
  op_pow pins s σ H x y u w Q I rx ry ⟨i, j, E.imAt (i := 1) rfl rfl, E.imAt (i := 0) rfl rfl, hc, q _ (.im (.int (i ^ j.toNat))) F H k (E.pop.pop.push rfl)⟩
theorem cd_abs (k : K (.im (.int (if i < 0 then -i else i)))) : CallD X c (.builtin "abs") [.im (.int i)] K := cd_one call_abs fun F H L G v E Q q =>
  ⟨i, by rw [show v = .int i from E.imAt (i := 0) rfl rfl], q _ (.im (.int _)) F H k (E.pop.push rfl)⟩
theorem cd_int (k : K (.im (.int i))) : CallD X c (.type "int") [.im (.int i)] K := cd_one call_int1 fun F H L G v E Q q =>
  .inl ⟨i, by rw [show v = .int i from E.imAt (i := 0) rfl rfl], q _ (.im (.int i)) F H k (E.pop.push rfl)⟩
/-- the script's own C0 -/
def cScr (F H : Hp) (a : Addr) : C0 := ⟨F, H, [], a, fun _ => True, fun _ _ _ _ _ => trivial, fun _ _ a h => by cases h⟩
theorem sql_mono {K : PySem.W.Frag} {H H' : Hp} {a : Addr} {xs : List V} (h : SqL K H a xs) (e : ∀ b o, H b = some o → H' b = some o) : SqL K H' a xs := by
  rcases h with (h | ⟨o, h⟩) | h
  · exact .inl (.inl (e _ _ h))
  · exact .inl (.inr ⟨o, e _ _ h⟩)
  · exact .inr h
/-- script[lo:hi] -/
theorem wp_sliceScr {ns : List Int} (hS : SqL X.K c.H0 c.hp (ns.map V.int)) (hW : c.W = []) (h : WPe X c a Γ fun ra => ra = .hand ∧ WPo X c lo Γ fun o1 => WPo X c hi Γ fun o2 => K (.own (.lst (cutD (ns.map D.int) o1 o2)))) : WPe X c (.Subscript a (.Slice lo hi none p2) pos) Γ K := fun F H stk S σ hl E Q q => by
  refine we_of (pe_slice sl_list pe_we po_wo po_wo) ?_
  refine h F H stk S σ hl E _ fun x ra F1 H1 k1 E1 => ?_
  obtain ⟨rfl, k1⟩ := k1
  refine k1 F1 H1 (some x :: stk) (.hand :: S) σ (by simp [hl]) E1 _ fun o1 F2 H2 k2 E2 => ?_
  refine k2 F2 H2 (some x :: stk) (.hand :: S) σ (by simp [hl]) E2 _ fun o2 F3 H3 k3 E3 => ?_
  have ex : x = .ref c.hp := by
    have := E3.hand (i := 0) rfl
    simpa using this
  subst ex
  have hS3 : SqL X.K H3 c.hp (ns.map V.int) := sql_mono hS fun b o z => E3.fr b o z (by rw [hW]; exact List.not_mem_nil)
  exact ⟨c.hp, ns.map V.int, rfl, hS3, fun p3 hp3 => q _ (.own (.lst (cutD (ns.map D.int) o1 o2))) _ _ k3 (EnvR.pushOwn (σ := stk ++ σ) (Γ := S ++ Γ) E3.pop hp3 ⟨_, upd_same, (Dats.of_ints ns).cut o1 o2⟩)⟩
end
section
variable {c : C0} {F H : Hp} {σ : L2.St} {Γ : List Sl}
/-- two own ones lie apart -/
theorem EnvR.apart (E : EnvR c F H σ Γ) {i j : Nat} {d1 d2 : D} {p q : Addr} (h1 : Γ[i]? = some (.own d1)) (h2 : Γ[j]? = some (.own d2)) (e1 : σ[i]? = some (some (.ref p))) (e2 : σ[j]? = some (some (.ref q))) (hn : i ≠ j) : p ≠ q := by
  obtain ⟨fp, g1, g2⟩ := E.sl
  obtain ⟨x, hx, p', f1, z1, _⟩ := g1 i _ h1
  obtain ⟨y, hy, q', f2, z2, _⟩ := g1 j _ h2
  rw [e1] at hx
  rw [e2] at hy
  cases hx
  cases hy
  cases z1
  cases z2
  intro e
  subst e
  exact hn (g2 i j p (by rw [f1]; exact List.mem_cons_self ..) (by rw [f2]; exact List.mem_cons_self ..)).1
/-- a new start, where nothing is own -/
theorem EnvR.reb (E : EnvR c F H σ Γ) (hno : ∀ s ∈ Γ, ownS s = false ∧ isv s = false) {H1 : Hp} (e : Ex F H1) (hk : c.hok H1) : EnvR { c with F0 := F, H0 := H1 } F H1 σ Γ where
  len := E.len
  ex0 := Ex.refl F
  ex := e
  gr := fun a o z => .inl z
  fr := fun a o z _ => z
  nw := E.nw
  hk := hk
  sl := by
    obtain ⟨fp, g1, g2⟩ := E.sl
    refine ⟨fp, fun i s hs => ?_, g2⟩
    obtain ⟨x, hx, r⟩ := g1 i s hs
    refine ⟨x, hx, ?_⟩
    have hm := hno s (List.mem_of_getElem? hs)
    cases s with
    | any => exact r
    | im d => exact r
    | hand => exact r
    | own d => cases hm.1
    | vw d => cases hm.2
    | deep v o => cases hm.1
    | vo v π o => cases hm.2
end
/-- the rest, told for one end -/
def WPsE (X : Cx) (c : C0) (sts : List Stmt) (Γ : List Sl) (E : Ends) : Prop := ∀ (F H : Hp) (σ : L2.St), EnvS c F H σ Γ → WSs X sts E σ H
theorem wpsE_cons {X : Cx} {c : C0} {Γ : List Sl} {E : Ends} {st : Stmt} {rest : List Stmt} (h : WPst X c st Γ { nx := fun Γ' => WPsE X c rest Γ' E, rt := fun _ => False }) : WPsE X c (st :: rest) Γ E := fun F H σ Ev => by
  refine wss_of (pss_cons ps_ws pss_wss) ?_
  exact h F H σ Ev _ ⟨fun Γ' F' H' σ' q E' => q F' H' σ' E', fun _ _ _ _ z => z.elim, fun _ _ _ _ z => z.elim, fun _ _ _ _ z => z.elim⟩
theorem wpsE_freeze {X : Cx} {c : C0} {Γ : List Sl} {E : Ends} {sts : List Stmt} (i : Nat) {d : DL.D} (hd : Γ[i]? = some (.own d)) (h : WPsE X c sts (Γ.set i (.im d)) E) : WPsE X c sts Γ E := fun F H σ Ev => by
  obtain ⟨F', E'⟩ := Ev.env.freeze hd
  exact h F' H σ ⟨E', Ev.nv.set rfl⟩
end DL

set_option Elab.async false
set_option linter.all false
set_option pp.maxSteps 300
set_option maxRecDepth 100000
set_option maxHeartbeats 2000000
/-! DL13: own trees -/
namespace DL
open PySem PySem.Spec PyProof.Rows L2
mutual
/-- what a tree tells -/
def O.toD : O → D
  | .im d => d
  | .nd .lst l => .lst (O.toDs l)
  | .nd (.dct ks) l => .dct ks (O.toDs l)
  | .nd (.ins _ _) _ => .non
def O.toDs : List O → List D
  | [] => []
  | o :: r => o.toD :: O.toDs r
end
mutual
/-- no instance in it -/
def O.plain : O → Bool
  | .im _ => true
  | .nd .lst l => O.plains l
  | .nd (.dct _) l => O.plains l
  | .nd (.ins _ _) _ => false
def O.plains : List O → Bool
  | [] => true
  | o :: r => o.plain && O.plains r
end
theorem toDs_eq : ∀ l : List O, O.toDs l = l.map O.toD
  | [] => rfl
  | o :: r => by rw [O.toDs, toDs_eq r]; rfl
theorem plains_of : ∀ {l : List O}, (∀ o ∈ l, o.plain = true) → O.plains l = true
  | [], _ => rfl
  | o :: r, h => by
    rw [O.plains, h o (List.mem_cons_self ..), plains_of fun x hx => h x (List.mem_cons_of_mem _ hx)]
    rfl
theorem toDs_im : ∀ l : List D, O.toDs (l.map O.im) = l
  | [] => rfl
  | d :: r => by rw [List.map_cons, O.toDs, toDs_im r]; rfl
theorem plains_im : ∀ l : List D, O.plains (l.map O.im) = true
  | [] => rfl
  | d :: r => by rw [List.map_cons, O.plains, plains_im r]; rfl
section
variable {F G H H' : Hp}
theorem OwnTs.length : ∀ {l : List O} {vs : List V} {fp : List Addr}, OwnTs F H l vs fp → vs.length = l.length
  | [], vs, fp, h => by rw [h.1]; rfl
  | o :: r, vs, fp, h => by
    obtain ⟨v, w, f1, f2, rfl, _, _, h2⟩ := h
    rw [List.length_cons, List.length_cons, OwnTs.length h2]
theorem OwnTs.ims : ∀ {l : List D} {vs : List V}, Dats F l vs → OwnTs F H (l.map O.im) vs []
  | [], vs, h => ⟨h, rfl⟩
  | d :: r, vs, h => by
    obtain ⟨v, w, rfl, h1, h2⟩ := h
    exact ⟨v, w, [], [], rfl, rfl, ⟨rfl, h1⟩, OwnTs.ims h2⟩
mutual
/-- a tree whose nodes are known is known data -/
theorem OwnT.dat (e : Ex F G) : ∀ {o : O} {v : V} {fp : List Addr}, OwnT F H o v fp → o.plain = true → (∀ a ∈ fp, G a = H a) → Dat G o.toD v
  | .im d, v, fp, h, _, _ => h.2.mono e
  | .nd k l, v, fp, h, hp, g => by
    obtain ⟨p, dx, vs, fq, rfl, rfl, h1, h2, h3⟩ := h
    have gp : G p = some (k.ho dx vs) := by rw [g p (List.mem_cons_self ..), h1]
    cases k with
    | lst => exact ⟨p, vs, rfl, gp, OwnTs.dats e h3 hp fun a z => g a (List.mem_cons_of_mem _ z)⟩
    | dct ks => exact ⟨p, vs, rfl, gp, by rw [toDs_eq, List.length_map]; exact h2, OwnTs.dats e h3 hp fun a z => g a (List.mem_cons_of_mem _ z)⟩
    | ins C ns => cases hp
theorem OwnTs.dats (e : Ex F G) : ∀ {l : List O} {vs : List V} {fp : List Addr}, OwnTs F H l vs fp → O.plains l = true → (∀ a ∈ fp, G a = H a) → Dats G (O.toDs l) vs
  | [], vs, fp, h, _, _ => h.1
  | o :: r, vs, fp, h, hp, g => by
    obtain ⟨v, w, f1, f2, rfl, rfl, h1, h2⟩ := h
    rw [O.plains, Bool.and_eq_true] at hp
    exact ⟨v, w, rfl, OwnT.dat e h1 hp.1 fun a z => g a (List.mem_append_left _ z), OwnTs.dats e h2 hp.2 fun a z => g a (List.mem_append_right _ z)⟩
end
/-- one of some trees, and the others around it -/
theorem OwnTs.split : ∀ {l : List O} {vs : List V} {fp : List Addr} {n : Nat} {o : O}, OwnTs F H l vs fp → l[n]? = some o →
    ∃ u fa fb fc, vs[n]? = some u ∧ fp = fa ++ (fb ++ fc) ∧ OwnT F H o u fb ∧ ∀ (F' H' : Hp) (o' : O) (u' : V) (fb' : List Addr), Ex F F' → (∀ a, a ∈ fa ∨ a ∈ fc → H' a = H a) → OwnT F' H' o' u' fb' → OwnTs F' H' (l.set n o') (vs.set n u') (fa ++ (fb' ++ fc))
  | [], vs, fp, n, o, h, e => by simp at e
  | o1 :: r, vs, fp, 0, o, h, e => by
    obtain ⟨v, w, f1, f2, rfl, rfl, h1, h2⟩ := h
    have eo : o1 = o := by simpa using e
    subst eo
    exact ⟨v, [], f1, f2, rfl, rfl, h1, fun F' H' o' u' fb' ex k h' => ⟨u', w, fb', f2, rfl, rfl, h', h2.mono ex fun a z => k a (.inr z)⟩⟩
  | o1 :: r, vs, fp, n + 1, o, h, e => by
    obtain ⟨v, w, f1, f2, rfl, rfl, h1, h2⟩ := h
    obtain ⟨u, fa, fb, fc, e1, rfl, e3, e4⟩ := OwnTs.split (n := n) h2 (by simpa using e)
    refine ⟨u, f1 ++ fa, fb, fc, by simpa using e1, by rw [List.append_assoc], e3, fun F' H' o' u' fb' ex k h' => ?_⟩
    exact ⟨v, w.set n u', f1, fa ++ (fb' ++ fc), rfl, by rw [List.append_assoc], h1.mono ex fun a z => k a (.inl (List.mem_append_left _ z)), e4 F' H' o' u' fb' ex (fun a z => k a (z.imp (fun y => List.mem_append_right _ y) id)) h'⟩
theorem OwnTs.append : ∀ {l m : List O} {vs ws : List V} {fp fq : List Addr}, OwnTs F H l vs fp → OwnTs F H m ws fq → OwnTs F H (l ++ m) (vs ++ ws) (fp ++ fq)
  | [], m, vs, ws, fp, fq, h, t => by
    obtain ⟨rfl, rfl⟩ := h
    exact t
  | o :: r, m, vs, ws, fp, fq, h, t => by
    obtain ⟨v, w, f1, f2, rfl, rfl, h1, h2⟩ := h
    exact ⟨v, w ++ ws, f1, f2 ++ fq, rfl, by rw [List.append_assoc], h1, OwnTs.append h2 t⟩
theorem OwnTs.one {o : O} {v : V} {fp : List Addr} (h : OwnT F H o v fp) : OwnTs F H [o] [v] fp := ⟨v, [], fp, [], rfl, by rw [List.append_nil], h, rfl, rfl⟩
theorem kids_ho {k : Nd} {dx : Addr} {vs : List V} {n : Nat} (h : k.fits n) (hv : vs.length = n) : kids (k.ho dx vs) = vs := by
  cases k with
  | lst => rfl
  | dct ks =>
    have h' : ks.length = n := h
    exact List.map_snd_zip (by omega)
  | ins C ns =>
    have h' : ns.length = n := h
    exact List.map_snd_zip (by omega)
end
/-- what stands at a place of a tree -/
def O.sub : O → List Nat → Option O
  | o, [] => some o
  | .im _, _ :: _ => none
  | .nd _ l, n :: π => match l[n]? with
    | some o => o.sub π
    | none => none
termination_by _ π => π.length
/-- something else at a place of a tree -/
def O.put : O → List Nat → O → O
  | _, [], t => t
  | .im d, _ :: _, _ => .im d
  | .nd k l, n :: π, t => match l[n]? with
    | some o => .nd k (l.set n (o.put π t))
    | none => .nd k l
termination_by _ π _ => π.length
theorem sub_nil (o : O) : o.sub [] = some o := by unfold O.sub; rfl
theorem put_nil (o t : O) : o.put [] t = t := by unfold O.put; rfl
theorem sub_cons {k : Nd} {l : List O} {n : Nat} {π : List Nat} {o : O} (h : l[n]? = some o) : (O.nd k l).sub (n :: π) = o.sub π := by
  rw [O.sub, h]
theorem put_cons {k : Nd} {l : List O} {n : Nat} {π : List Nat} {o t : O} (h : l[n]? = some o) : (O.nd k l).put (n :: π) t = .nd k (l.set n (o.put π t)) := by
  rw [O.put, h]
theorem Adr.snoc {W : List Addr} {H : Hp} {w : V} {p : Addr} {h : HO} {n : Nat} {u : V} (hp : p ∉ W) (hH : H p = some h) (hu : (kids h)[n]? = some u) : ∀ {π : List Nat} {v : V}, Adr W H v π (.ref p) → Adr W H v (π ++ [n]) u
  | [], v, e => ⟨p, h, u, e.symm, hp, hH, hu, rfl⟩
  | m :: π, v, e => by
    obtain ⟨q, g, x, e1, e2, e3, e4, e5⟩ := e
    exact ⟨q, g, x, e1, e2, e3, e4, Adr.snoc (w := w) hp hH hu e5⟩
theorem sub_snoc {n : Nat} {t : O} : ∀ {π : List Nat} {o : O} {k : Nd} {l : List O}, o.sub π = some (.nd k l) → l[n]? = some t → o.sub (π ++ [n]) = some t
  | [], o, k, l, h, e => by
    rw [sub_nil] at h
    cases h
    rw [List.nil_append, sub_cons e, sub_nil]
  | m :: π, .im d, k, l, h, e => by
    rw [O.sub] at h
    cases h
  | m :: π, .nd k' l', k, l, h, e => by
    cases q : l'[m]? with
    | none =>
      rw [O.sub, q] at h
      cases h
    | some o' =>
      rw [sub_cons q] at h
      rw [List.cons_append, sub_cons q]
      exact sub_snoc h e
section
variable {F H : Hp}
/-- the place of a tree at which a way ends: what stands there, and what a change there makes of the tree -/
theorem OwnT.at {W : List Addr} {t : O} {w : V} : ∀ {π : List Nat} {o : O} {v : V} {fp : List Addr}, OwnT F H o v fp → o.sub π = some t → Adr W H v π w →
    ∃ f1, OwnT F H t w f1 ∧ (∀ a ∈ f1, a ∈ fp) ∧ (fp.Nodup → f1.Nodup) ∧ ∀ (F' H' : Hp) (t' : O) (f1' fx : List Addr), Ex F F' → (∀ a ∈ fp, a ∉ f1 → H' a = H a) → OwnT F' H' t' w f1' → (∀ a ∈ f1', a ∈ f1 ∨ a ∈ fx) → (∀ a ∈ fx, a ∉ fp) → f1'.Nodup → fp.Nodup →
      ∃ fp', OwnT F' H' (o.put π t') v fp' ∧ fp'.Nodup ∧ ∀ a ∈ fp', a ∈ fp ∨ a ∈ fx
  | [], o, v, fp, h, hs, ha => by
    rw [sub_nil] at hs
    cases hs
    have ha : w = v := ha
    subst ha
    exact ⟨fp, h, fun a z => z, id, fun F' H' t' f1' fx _ _ h' hx _ hn _ => ⟨f1', by rw [put_nil]; exact h', hn, hx⟩⟩
  | n :: π, .im d, v, fp, h, hs, ha => by
    rw [O.sub] at hs
    cases hs
  | n :: π, .nd k l, v, fp, h, hs, ha => by
    obtain ⟨p, dx, vs, fq, rfl, rfl, h1, h2, h3⟩ := h
    obtain ⟨q, g, u, e1, e2, e3, e4, e5⟩ := ha
    cases e1
    rw [h1] at e3
    cases e3
    rw [kids_ho h2 h3.length] at e4
    cases q : l[n]? with
    | none =>
      rw [O.sub, q] at hs
      cases hs
    | some o =>
      rw [sub_cons q] at hs
      obtain ⟨u', fa, fb, fc, g1, rfl, g3, g4⟩ := h3.split q
      rw [e4] at g1
      cases g1
      obtain ⟨f1, r1, r2, r3, r4⟩ := OwnT.at g3 hs e5
      have fbIn : ∀ a ∈ fb, a ∈ p :: (fa ++ (fb ++ fc)) := fun a z => by simp [z]
      refine ⟨f1, r1, fun a z => fbIn a (r2 a z), fun z => r3 ?_, fun F' H' t' f1' fx ex hk h' hx hd hn hnd => ?_⟩
      · have z1 := (List.nodup_cons.mp z).2
        exact (List.nodup_append.mp (List.nodup_append.mp z1).2.1).1
      · have z0 := List.nodup_cons.mp hnd
        have z1 := List.nodup_append.mp z0.2
        have z2 := List.nodup_append.mp z1.2.1
        obtain ⟨fb', s1, s2, s3⟩ := r4 F' H' t' f1' fx ex (fun a z => hk a (fbIn a z)) h' hx (fun a z y => hd a z (fbIn a y)) hn z2.1
        have hout : ∀ a, a ∈ p :: (fa ++ (fb ++ fc)) → a ∉ fb → H' a = H a := fun a z y => hk a z fun x => y (r2 a x)
        have pfb : p ∉ fb := fun z => z0.1 (by simp [z])
        have hfa : ∀ a ∈ fa, a ∉ fb := fun a z y => z1.2.2 a z a (List.mem_append_left _ y) rfl
        have hfc : ∀ a ∈ fc, a ∉ fb := fun a z y => z2.2.2 a y a z rfl
        have key := g4 F' H' (o.put π t') u fb' ex (fun a z => z.elim (fun y => hout a (by simp [y]) (hfa a y)) fun y => hout a (by simp [y]) (hfc a y)) s1
        rw [show vs.set n u = vs from by
          obtain ⟨hlt, hg⟩ := List.getElem?_eq_some_iff.mp e4
          rw [← hg, List.set_getElem_self]] at key
        refine ⟨p :: (fa ++ (fb' ++ fc)), ?_, ?_, fun a z => ?_⟩
        · rw [put_cons q]
          exact ⟨p, dx, vs, _, rfl, rfl, by rw [hout p (List.mem_cons_self ..) pfb]; exact h1, by rw [List.length_set]; exact h2, key⟩
        · have sub : ∀ a ∈ fb', a ∉ fa ∧ a ∉ fc ∧ a ≠ p := fun a z => by
            rcases s3 a z with y | y
            · exact ⟨fun x => hfa a x y, fun x => hfc a x y, fun x => pfb (by rw [← x]; exact y)⟩
            · have := hd a y
              simp at this
              exact ⟨this.2.1, this.2.2.2, this.1⟩
          refine List.nodup_cons.mpr ⟨fun z => ?_, List.nodup_append.mpr ⟨z1.1, List.nodup_append.mpr ⟨s2, z2.2.1, fun a y b x e => (sub a y).2.1 (by rw [e]; exact x)⟩, fun a y b x e => ?_⟩⟩
          · rcases List.mem_append.mp z with y | y
            · exact z0.1 (by simp [y])
            · rcases List.mem_append.mp y with y | y
              · exact (sub p y).2.2 rfl
              · exact z0.1 (by simp [y])
          · rcases List.mem_append.mp x with x | x
            · exact (sub b x).1 (by rw [← e]; exact y)
            · exact z1.2.2 a y b (List.mem_append_right _ x) e
        · rcases List.mem_cons.mp z with y | y
          · exact .inl (by simp [y])
          · rcases List.mem_append.mp y with y | y
            · exact .inl (by simp [y])
            · rcases List.mem_append.mp y with y | y
              · exact (s3 a y).imp (fbIn a) id
              · exact .inl (by simp [y])
end
/-- what a slot's value is as a tree -/
def ownO : D → Option O
  | .lst l => some (.nd .lst (l.map O.im))
  | .dct ks l => some (.nd (.dct ks) (l.map O.im))
  | _ => none
def toO : Sl → Option O
  | .im d => some (.im d)
  | .own d => ownO d
  | .deep _ o => some o
  | _ => none
section
variable {c : C0} {F H : Hp} {x : Option V} {fp : List Addr}
theorem Own.tree {p : Addr} {d : D} {o : O} (h : Own F H p d) (ho : ownO d = Option.some o) : OwnT F H o (.ref p) [p] := by
  cases d with
  | lst l =>
    cases ho
    obtain ⟨vs, h1, h2⟩ := h
    exact ⟨p, 0, vs, [], rfl, rfl, h1, trivial, OwnTs.ims h2⟩
  | dct ks l =>
    cases ho
    obtain ⟨vs, h1, h3, h2⟩ := h
    exact ⟨p, 0, vs, [], rfl, rfl, h1, by rw [List.length_map]; exact h3, OwnTs.ims h2⟩
  | _ => cases ho
theorem SlR.tree {r : Sl} {o : O} (h : SlR c F H x fp r) (ho : toO r = some o) : ∃ v, x = some v ∧ OwnT F H o v fp ∧ fp.Nodup ∧ ∀ a ∈ fp, F a = none ∧ a ∉ c.W ∧ c.H0 a = none := by
  cases r with
  | im d =>
    cases ho
    obtain ⟨h1, v, h2, h3⟩ := h
    exact ⟨v, h2, ⟨h1, h3⟩, by rw [h1]; exact List.nodup_nil, fun a z => by rw [h1] at z; cases z⟩
  | own d =>
    obtain ⟨p, h1, h2, h3, h4⟩ := h
    subst h1
    exact ⟨.ref p, h2, h3.tree ho, by simp, fun a z => by rw [List.mem_singleton.mp z]; exact h4⟩
  | deep v o' =>
    cases ho
    exact ⟨v, h⟩
  | _ => cases ho
end
/-- an environment with its footprints -/
structure EnvF (c : C0) (F H : Hp) (σ : L2.St) (Γ : List Sl) (fp : Nat → List Addr) : Prop where
  len : σ.length = Γ.length
  ex0 : Ex c.F0 F
  ex : Ex F H
  gr : ∀ a o, F a = some o → c.F0 a = some o ∨ c.H0 a = none
  fr : ∀ a o, c.H0 a = some o → a ∉ c.W → H a = some o
  nw : ∀ a ∈ c.W, F a = none
  hk : c.hok H
  sl : ∀ (i : Nat) (s : Sl), Γ[i]? = some s → ∃ x, σ[i]? = some x ∧ SlR c F H x (fp i) s
  dj : ∀ i j p, p ∈ fp i → p ∈ fp j → i = j ∧ i < Γ.length
section
variable {c : C0} {F H : Hp} {σ : L2.St} {Γ : List Sl} {fp : Nat → List Addr}
theorem EnvR.foot (E : EnvR c F H σ Γ) : ∃ fp, EnvF c F H σ Γ fp := by
  obtain ⟨fp, h1, h2⟩ := E.sl
  exact ⟨fp, E.len, E.ex0, E.ex, E.gr, E.fr, E.nw, E.hk, h1, h2⟩
theorem EnvF.env (E : EnvF c F H σ Γ fp) : EnvR c F H σ Γ := ⟨E.len, E.ex0, E.ex, E.gr, E.fr, E.nw, E.hk, fp, E.sl, E.dj⟩
theorem EnvF.pop {x : Option V} {s : Sl} (E : EnvF c F H (x :: σ) (s :: Γ) fp) : EnvF c F H σ Γ (fun n => fp (n + 1)) ∧ SlR c F H x (fp 0) s ∧ ∀ a ∈ fp 0, ∀ i, a ∉ fp (i + 1) := by
  refine ⟨⟨by simpa using E.len, E.ex0, E.ex, E.gr, E.fr, E.nw, E.hk, fun i t ht => ?_, fun i j p e1 e2 => ?_⟩, ?_, fun a ha i hb => ?_⟩
  · obtain ⟨y, hy, r⟩ := E.sl (i + 1) t (by simpa using ht)
    exact ⟨y, by simpa using hy, r⟩
  · obtain ⟨z1, z2⟩ := E.dj (i + 1) (j + 1) p e1 e2
    exact ⟨by omega, by simpa using z2⟩
  · obtain ⟨y, hy, r⟩ := E.sl 0 s rfl
    have ey : x = y := by simpa using hy
    rw [ey]
    exact r
  · have := (E.dj 0 (i + 1) a ha hb).1
    omega
/-- a slot tells the same otherwise -/
theorem EnvR.rel {i : Nat} {s t : Sl} (E : EnvR c F H σ Γ) (h : Γ[i]? = some s) (hst : ∀ x fp, σ[i]? = some x → SlR c F H x fp s → SlR c F H x fp t) : EnvR c F H σ (Γ.set i t) := by
  obtain ⟨fp, E⟩ := E.foot
  have hi : i < Γ.length := (List.getElem?_eq_some_iff.mp h).1
  refine ⟨by rw [List.length_set]; exact E.len, E.ex0, E.ex, E.gr, E.fr, E.nw, E.hk, fp, fun j u hu => ?_, fun j k p e1 e2 => by rw [List.length_set]; exact E.dj j k p e1 e2⟩
  by_cases q : j = i
  · subst q
    rw [List.getElem?_set_self hi] at hu
    cases hu
    obtain ⟨y, hy, r⟩ := E.sl j s h
    exact ⟨y, hy, hst y _ hy r⟩
  · rw [List.getElem?_set_ne (Ne.symm q)] at hu
    exact E.sl j u hu
/-- what a slot owns is written, with something own more -/
theorem EnvF.writeX {i : Nat} {s t : Sl} {p : Addr} {o : HO} {x : Option V} {fx fp' : List Addr} (E : EnvF c F H σ Γ fp) (nv : NV Γ) (h : Γ[i]? = some s) (hx : σ[i]? = some x) (hp : p ∈ fp i) (hfx : ∀ a ∈ fx, ∀ j, a ∉ fp j) (hs : ∀ a ∈ fp', a ∈ fp i ∨ a ∈ fx)
    (ht : SlR c F (upd H p o) x fp' t) : EnvR c F (upd H p o) σ (Γ.set i t) := by
  have hi : i < Γ.length := (List.getElem?_eq_some_iff.mp h).1
  obtain ⟨x0, hx0, r0⟩ := E.sl i s h
  obtain ⟨o1, hF, hW, h0⟩ := r0.own hp
  exact {
    len := by rw [List.length_set]; exact E.len
    ex0 := E.ex0
    ex := E.ex.mut hF
    gr := E.gr
    fr := fun a u ha w => by
      rw [upd_ne (fun z => ?_)]
      · exact E.fr a u ha w
      · rw [z, h0] at ha
        cases ha
    nw := E.nw
    hk := c.stab H _ (fun a w => upd_ne (fun z => hW (by rw [← z]; exact w))) (extx_mut (r0.noExt hp)) E.hk
    sl := by
      refine ⟨fun n => if n = i then fp' else fp n, fun j u hu => ?_, fun j k q e1 e2 => ?_⟩
      · by_cases q : j = i
        · subst q
          rw [List.getElem?_set_self hi] at hu
          cases hu
          refine ⟨x, hx, ?_⟩
          dsimp only
          rw [if_pos rfl]
          exact ht
        · rw [List.getElem?_set_ne (Ne.symm q)] at hu
          obtain ⟨y, hy, r⟩ := E.sl j u hu
          refine ⟨y, hy, ?_⟩
          dsimp only
          rw [if_neg q]
          refine r.mono (Ex.refl F) (fun a _ _ z => upd_ne fun e => ?_) fun a ha => (r.own ha).2.1
          subst e
          rcases z with z | z
          · exact q (E.dj j i a z hp).1
          · rw [nv u (List.mem_of_getElem? hu)] at z
            cases z
      · have e1 : q ∈ (if j = i then fp' else fp j) := e1
        have e2 : q ∈ (if k = i then fp' else fp k) := e2
        rw [List.length_set]
        by_cases z : j = i
        · rw [if_pos z] at e1
          by_cases z' : k = i
          · exact ⟨by rw [z, z'], by rw [z]; exact hi⟩
          · rw [if_neg z'] at e2
            rcases hs q e1 with y | y
            · exact absurd (E.dj i k q y e2).1 (Ne.symm z')
            · exact absurd e2 (hfx q y k)
        · rw [if_neg z] at e1
          by_cases z' : k = i
          · rw [if_pos z'] at e2
            rcases hs q e2 with y | y
            · exact absurd (E.dj j i q e1 y).1 z
            · exact absurd e1 (hfx q y j)
          · rw [if_neg z'] at e2
            exact E.dj j k q e1 e2 }
/-- a new node comes on top, with own things below it -/
theorem EnvF.newX {p : Addr} {o : HO} {t : Sl} {x : Option V} {fx fp' : List Addr} (E : EnvF c F H σ Γ fp) (hp : H p = none) (hfx : ∀ a ∈ fx, ∀ j, a ∉ fp j) (hs : ∀ a ∈ fp', a = p ∨ a ∈ fx)
    (ht : F p = none → p ∉ c.W → c.H0 p = none → SlR c F (upd H p o) x fp' t) : EnvR c F (upd H p o) (x :: σ) (t :: Γ) := by
  have hpW : p ∉ c.W := fun w => E.env.wne w hp
  have hF : F p = none := E.ex.back hp
  have h0 : c.H0 p = none := by
    cases q : c.H0 p with
    | none => rfl
    | some u =>
      rw [E.fr p u q hpW] at hp
      cases hp
  have E1 : EnvR c F (upd H p o) σ Γ := E.env.step (Gr.refl F H) (E.ex.mut hF) (fun a u ha _ => by rw [upd_ne (ne_of_none ha hp)]; exact ha)
    (c.stab H _ (fun a w => upd_ne (fun z => hpW (by rw [← z]; exact w))) (extx_new hp) E.hk)
  have fresh : ∀ i, p ∉ fp i := fun i ha => by
    obtain ⟨_, hi⟩ := E.dj i i p ha ha
    obtain ⟨x, _, r⟩ := E.sl i Γ[i] (by simp [hi])
    exact (r.own ha).1 hp
  have dis : ∀ a ∈ fp', ∀ j, a ∉ fp j := fun a ha j => by
    rcases hs a ha with z | z
    · rw [z]
      exact fresh j
    · exact hfx a z j
  refine { len := by simp [E1.len], ex0 := E1.ex0, ex := E1.ex, gr := E1.gr, fr := E1.fr, nw := E1.nw, hk := E1.hk, sl := ?_ }
  refine ⟨fun n => match n with | 0 => fp' | n + 1 => fp n, fun i u hu => ?_, fun i j q e1 e2 => ?_⟩
  · cases i with
    | zero =>
      have e : u = t := by simpa using hu.symm
      subst e
      exact ⟨x, rfl, ht hF hpW h0⟩
    | succ i =>
      obtain ⟨y, hy, r⟩ := E.sl i u (by simpa using hu)
      exact ⟨y, by simpa using hy, r.mono (Ex.refl F) (fun a hn _ _ => upd_ne fun z => hn (by rw [z]; exact hp)) fun a ha => (r.own ha).2.1⟩
  · cases i with
    | zero =>
      cases j with
      | zero => exact ⟨rfl, by simp⟩
      | succ j =>
        have e2' : q ∈ fp j := e2
        exact absurd e2' (dis q e1 j)
    | succ i =>
      have e1' : q ∈ fp i := e1
      cases j with
      | zero => exact absurd e1' (dis q e2 i)
      | succ j =>
        obtain ⟨z1, z2⟩ := E.dj i j q e1 e2
        exact ⟨by rw [z1], by simpa using z2⟩
/-- an own tree is from now on known -/
theorem EnvR.known {i : Nat} {v : V} {o : O} (E : EnvR c F H σ Γ) (h : Γ[i]? = some (.deep v o)) (hp : o.plain = true) : ∃ F', EnvR c F' H σ (Γ.set i (.im o.toD)) := by
  classical
  obtain ⟨fp, Ef⟩ := E.foot
  obtain ⟨x, hx, r1, r2, r3, r4⟩ := Ef.sl i _ h
  let G : Hp := fun a => if a ∈ fp i then H a else F a
  have hG : ∀ a ∈ fp i, G a = H a := fun a ha => if_pos ha
  have eF : Ex F G := fun a u ha => by
    show (if a ∈ fp i then H a else F a) = some u
    rw [if_neg (fun z => by rw [(r4 a z).1] at ha; cases ha)]
    exact ha
  have eG : Ex G H := fun a u ha => by
    have ha' : (if a ∈ fp i then H a else F a) = some u := ha
    by_cases z : a ∈ fp i
    · rw [if_pos z] at ha'
      exact ha'
    · rw [if_neg z] at ha'
      exact E.ex a u ha'
  have hi : i < Γ.length := (List.getElem?_eq_some_iff.mp h).1
  refine ⟨G, { len := by rw [List.length_set]; exact E.len, ex0 := E.ex0.trans eF, ex := eG, gr := fun a u ha => ?_, fr := E.fr, nw := fun a w => ?_, hk := E.hk, sl := ?_ }⟩
  · have ha' : (if a ∈ fp i then H a else F a) = some u := ha
    by_cases z : a ∈ fp i
    · exact .inr (r4 a z).2.2
    · rw [if_neg z] at ha'
      exact E.gr a u ha'
  · show (if a ∈ fp i then H a else F a) = none
    rw [if_neg (fun z => (r4 a z).2.1 w)]
    exact E.nw a w
  · refine ⟨fun n => if n = i then [] else fp n, fun j u hu => ?_, fun j k q e1 e2 => ?_⟩
    · by_cases q : j = i
      · subst q
        rw [List.getElem?_set_self hi] at hu
        cases hu
        refine ⟨x, hx, ?_⟩
        dsimp only
        rw [if_pos rfl]
        exact ⟨rfl, v, r1, r2.dat eF hp hG⟩
      · rw [List.getElem?_set_ne (Ne.symm q)] at hu
        obtain ⟨y, hy, r⟩ := Ef.sl j u hu
        refine ⟨y, hy, ?_⟩
        dsimp only
        rw [if_neg q]
        refine r.mono eF (fun a _ _ _ => rfl) fun a ha => ?_
        show (if a ∈ fp i then H a else F a) = none
        rw [if_neg (fun z => q (Ef.dj j i a ha z).1)]
        exact (r.own ha).2.1
    · have e1 : q ∈ (if j = i then [] else fp j) := e1
      have e2 : q ∈ (if k = i then [] else fp k) := e2
      rw [List.length_set]
      by_cases z : j = i
      · rw [if_pos z] at e1
        cases e1
      · rw [if_neg z] at e1
        by_cases z' : k = i
        · rw [if_pos z'] at e2
          cases e2
        · rw [if_neg z'] at e2
          exact Ef.dj j k q e1 e2
end
end DL

set_option Elab.async false
set_option linter.all false
set_option pp.maxSteps 300
set_option maxRecDepth 100000
set_option maxHeartbeats 2000000
/-! DL14: own trees: reads, displays, stores -/
namespace DL
open PySem PySem.Spec PyProof.Rows L2
/-- what is seen of a tree at a place -/
def seeO (v : V) (π : List Nat) : O → Sl
  | .im d => .im d
  | .nd k l => .vo v π (.nd k l)
section
variable {c : C0} {F H : Hp} {σ : L2.St} {Γ : List Sl}
/-- what a look at a node tells -/
theorem EnvR.voAt (E : EnvR c F H σ Γ) {i : Nat} {v w : V} {π : List Nat} {k : Nd} {l : List O} (h : Γ[i]? = some (.vo v π (.nd k l))) (hw : σ[i]? = some (some w)) : ∃ p dx vs fq, w = .ref p ∧ H p = some (k.ho dx vs) ∧ k.fits l.length ∧ OwnTs F H l vs fq ∧
    ∀ (n : Nat) (o : O), l[n]? = some o → ∃ u, vs[n]? = some u ∧ SlR c F H (some u) [] (seeO v (π ++ [n]) o) := by
  obtain ⟨x, f, hx, _, w', fq', hw', hA, hT, hW⟩ := E.get h
  rw [hw] at hx
  have e := (Option.some.inj hx).trans hw'
  cases e
  obtain ⟨p, dx, vs, fq, rfl, rfl, h1, h2, h3⟩ := hT
  refine ⟨p, dx, vs, fq, rfl, h1, h2, h3, fun n o ho => ?_⟩
  obtain ⟨u, fa, fb, fc, g1, rfl, g3, _⟩ := h3.split ho
  refine ⟨u, g1, ?_⟩
  have hp : p ∉ c.W := hW p (List.mem_cons_self ..)
  have hA' : Adr c.W H v (π ++ [n]) u := hA.snoc (w := .non) hp h1 (by rw [kids_ho h2 h3.length]; exact g1)
  cases o with
  | im d => exact ⟨rfl, u, rfl, g3.2⟩
  | nd k' l' => exact ⟨rfl, u, fb, rfl, hA', g3, fun a z => hW a (by simp [z])⟩
end
section
variable {X : Cx} {c : C0} {K : Sl → Prop} {Γ : List Sl} {D : DEnds} {v : V} {π : List Nat} {a b e e2 recv : Expr} {es : List Expr} {pos p apos cpos : Pos}
theorem xd_vo {l : List O} {i : Int} {n : Nat} {o : O} (hi : ixN l.length i = some n) (ho : l[n]? = some o) (k : K (seeO v (π ++ [n]) o)) : IxD X c (.vo v π (.nd .lst l)) (.im (.int i)) K := fun F H L G x y E Q q value slice pins s σ v' u I rx ry hs => by
  have hy : y = .int i := E.imAt (i := 0) rfl rfl
  subst hy
  obtain ⟨p, dx, vs, fq, e1, h1, h2, h3, h4⟩ := E.voAt (i := 1) (w := x) rfl rfl
  subst e1
  obtain ⟨z, hz, hS⟩ := h4 n o ho
  exact ix_list value slice pins s σ H _ _ v' u Q I rx ry ⟨p, vs, i, z, rfl, rfl, .inl (.inl h1), by unfold atI; rw [h3.length, hi]; exact hz, q z _ F H k (E.pop.pop.pushS hS)⟩ hs
theorem cd_lenVo {l : List O} (k : K (.im (.int l.length))) : CallD X c (.builtin "len") [.vo v π (.nd .lst l)] K := cd_one call_len_seq fun F H L G w E Q q => by
  obtain ⟨p, dx, vs, fq, e1, h1, h2, h3, h4⟩ := E.voAt (i := 0) (w := w) rfl rfl
  exact ⟨p, vs, by rw [e1], .inl (.inl (.inl h1)), by rw [h3.length]; exact q _ (.im (.int l.length)) F H k (E.pop.push rfl)⟩
/-- an own object is from now on a tree -/
theorem wps_deep {sts : List Stmt} (i : Nat) {d : DL.D} {o : O} (hd : Γ[i]? = some (.own d)) (ho : ownO d = some o) (h : ∀ v, WPs X c sts (Γ.set i (.deep v o)) D) : WPs X c sts Γ D := fun F H σ E Dd ok => by
  obtain ⟨p, hp, _⟩ := E.env.own hd
  refine h (.ref p) F H σ ⟨E.env.rel hd fun x fp hx r => ?_, E.nv.set rfl⟩ Dd ok
  obtain ⟨q, h1, h2, h3, h4⟩ := r
  rw [hp] at hx
  rw [← Option.some.inj hx] at h2 ⊢
  cases h2
  subst h1
  exact ⟨rfl, h3.tree ho, by simp, fun a z => by rw [List.mem_singleton.mp z]; exact h4⟩
/-- an own tree will not change from here on -/
theorem wps_known {sts : List Stmt} (i : Nat) {o : O} (hd : Γ[i]? = some (.deep v o)) (hp : o.plain = true) (h : WPs X c sts (Γ.set i (.im o.toD)) D) : WPs X c sts Γ D := fun F H σ E Dd ok => by
  obtain ⟨F', E'⟩ := E.env.known hd hp
  exact h F' H σ ⟨E', E.nv.set rfl⟩ Dd ok
/-- [a, b], with an own b -/
theorem wp_lstO2 (h : WPe X c a Γ fun ra => ∃ d, frz ra = .im d ∧ WPe X c b Γ fun rb => ∃ o, toO rb = some o ∧ ∀ v, K (.deep v (.nd .lst [.im d, o]))) (hs : starEach [a, b] X.env = (false, eval a X.env) :: starEach [b] X.env := by rfl) (hs2 : starEach [b] X.env = (false, eval b X.env) :: starEach [] X.env := by rfl) : WPe X c (.List [a, b] pos) Γ K := fun F H stk S σ hl E Q q => by
  refine we_of (pe_lst (pa_cons pe_we (pa_cons pe_we pa_nil hs2) hs)) ?_
  refine h F H stk S σ hl E _ fun x ra F1 H1 k1 E1 => ?_
  obtain ⟨d, hd, k1⟩ := k1
  obtain ⟨F2, E2⟩ := E1.frzTop
  rw [hd] at E2
  refine k1 F2 H1 (some x :: stk) (.im d :: S) σ (by simp [hl]) E2 _ fun y rb F3 H3 k3 E3 => ?_
  obtain ⟨o, ho, k3⟩ := k3
  refine ⟨by show 2 ≤ sizeLine; decide, fun p hp => q _ _ F3 _ (k3 (.ref p)) ?_⟩
  have hdat : Dat F3 d x := E3.imAt (i := 1) rfl rfl
  obtain ⟨fp, Ef⟩ := E3.foot
  obtain ⟨E4, r0, dis⟩ := Ef.pop
  obtain ⟨E5, r1, _⟩ := E4.pop
  obtain ⟨u, hu, hT, hN, hO⟩ := r0.tree ho
  cases hu
  refine E5.newX (fx := fp 0) (fp' := p :: fp 0) hp (fun a ha j => dis a ha (j + 1)) (fun a ha => by simpa using ha) fun z1 z2 z3 => ⟨rfl, ?_, ?_, fun a ha => ?_⟩
  · refine ⟨p, 0, [x, y], fp 0, rfl, rfl, upd_same, trivial, x, [y], [], fp 0, rfl, rfl, ⟨rfl, hdat⟩, OwnTs.one (hT.mono (Ex.refl _) fun a ha => upd_ne fun z => hT.ne a ha (by rw [z]; exact hp))⟩
  · exact List.nodup_cons.mpr ⟨fun z => hT.ne p z hp, hN⟩
  · rcases List.mem_cons.mp ha with z | z
    · rw [z]
      exact ⟨z1, z2, z3⟩
    · exact hO a z
/-- t.append(e), t a list within an own tree -/
theorem wst_appendT (i : Nat) {o : O} (hΓ : Γ[i]? = some (.deep v o)) (h : WPe X c recv Γ fun r => ∃ π l, r = .vo v π (.nd .lst l) ∧ o.sub π = some (.nd .lst l) ∧ l.length < sizeLine ∧ WPe X c e Γ fun r2 => ∃ t, toO r2 = some t ∧ D.nx (Γ.set i (.deep v (o.put π (.nd .lst (l ++ [t]))))))
    (hbase : attributeBase recv "append" X.env (eval recv X.env) = eval recv X.env := by rfl)
    (hfew : ((backTo cpos (starEach [e] X.env)).all (fun x => !x.1) && (backToKw cpos (keywordEach [] X.env)).all (fun x => x.1.isSome) && decide ([e].length + ([] : List Keyword).length + (if ([] : List Keyword).isEmpty then 0 else 1) < 30)) = true := by rfl)
    (hline : (apos.endLine == cpos.line) = true := by rfl) (hs : starEach [e] X.env = (false, eval e X.env) :: starEach [] X.env := by rfl) (hplain : (backTo cpos (starEach [] X.env)).any (·.1) = false := by rfl) (hsw : swapsWith (.Call (.Attribute recv "append" apos) [e] [] cpos) none pos.line X.env = pure false := by rfl) :
    WPst X c (.Expr (.Call (.Attribute recv "append" apos) [e] [] cpos) pos) Γ D := fun F H σ E Ee ok => by
  refine ws_of (ps_expr (pe_bm PySem.F.plainAttrs_list PySem.F.slot_list_append PySem.F.type_list_append mt_append pe_we (pa_cons pe_we pa_nil hs) hbase hfew hline hs hplain) hsw) ?_
  refine h F H [] [] σ rfl E.env _ fun w r F1 H1 k1 E1 => ?_
  obtain ⟨π, l, rfl, hsub, hz, k1⟩ := k1
  obtain ⟨p1, dx1, vs1, fq1, e1, g1, _⟩ := E1.voAt (i := 0) (w := w) rfl rfl
  subst e1
  refine ⟨.inl ⟨rfl, vs1, .inl (.inl g1)⟩, ?_⟩
  refine k1 F1 H1 [some (.ref p1)] [_] σ rfl E1 _ fun y r2 F2 H2 k2 E2 => ?_
  obtain ⟨t, ht, k2⟩ := k2
  obtain ⟨fp, Ef⟩ := E2.foot
  obtain ⟨E3, r0, dis⟩ := Ef.pop
  obtain ⟨E4, rv, _⟩ := E3.pop
  obtain ⟨u, hu, hT, hN, hO⟩ := r0.tree ht
  cases hu
  obtain ⟨_, w', fq', hw', hA, _, _⟩ := rv
  cases hw'
  obtain ⟨x, hx, hv, hTr, hNr, hOr⟩ := E4.sl i _ hΓ
  subst hv
  obtain ⟨f1, a1, a2, a3, a4⟩ := hTr.at hsub hA
  obtain ⟨p, dx, vs, fq, e5, rfl, g2, g3, g4⟩ := a1
  cases e5
  have hn1 := a3 hNr
  have dis2 : ∀ a ∈ fp 0, ∀ j, a ∉ fp (j + 1 + 1) := fun a ha j => dis a ha (j + 1)
  have hpi : p1 ∈ fp (i + 1 + 1) := a2 p1 (List.mem_cons_self ..)
  have hpq : p1 ∉ fq := (List.nodup_cons.mp hn1).1
  have hp0 : p1 ∉ fp 0 := fun z => dis2 p1 z i hpi
  have hlen := g4.length
  have hnew : OwnT F2 (L2.upd H2 p1 (.lst (vs ++ [y]))) (.nd .lst (l ++ [t])) (.ref p1) (p1 :: (fq ++ fp 0)) := ⟨p1, dx, vs ++ [y], fq ++ fp 0, rfl, rfl, upd_same, trivial, (g4.mono (Ex.refl _) fun a z => upd_ne fun e => hpq (by rw [← e]; exact z)).append (OwnTs.one (hT.mono (Ex.refl _) fun a z => upd_ne fun e => hp0 (by rw [← e]; exact z)))⟩
  have hnn : (p1 :: (fq ++ fp 0)).Nodup := List.nodup_cons.mpr ⟨fun z => (List.mem_append.mp z).elim hpq hp0, List.nodup_append.mpr ⟨(List.nodup_cons.mp hn1).2, hN, fun a x b y e => by
    subst e
    exact dis2 a y i (a2 a (List.mem_cons_of_mem _ x))⟩⟩
  obtain ⟨fp', b1, b2, b3⟩ := a4 F2 (L2.upd H2 p1 (.lst (vs ++ [y]))) (.nd .lst (l ++ [t])) (p1 :: (fq ++ fp 0)) (fp 0) (Ex.refl _) (fun a _ z => upd_ne fun e => z (by rw [e]; exact List.mem_cons_self ..)) hnew (fun a z => by
    rcases List.mem_cons.mp z with z | z
    · exact .inl (by rw [z]; exact List.mem_cons_self ..)
    · rcases List.mem_append.mp z with z | z
      · exact .inl (List.mem_cons_of_mem _ z)
      · exact .inr z) (fun a z => dis2 a z i) hnn hNr
  refine ⟨p1, vs, y, rfl, rfl, g2, by rw [hlen]; exact hz, ok.nx _ F2 _ σ k2 ⟨?_, E.nv.set rfl⟩⟩
  exact E4.writeX E.nv hΓ hx hpi dis2 b3 ⟨rfl, b1, b2, fun a z => (b3 a z).elim (fun y => hOr a y) fun y => hO a y⟩
/-- t[n] = e, t a list within an own tree -/
theorem wst_lputT (i : Nat) {ie : Expr} {p2 : Pos} {o : O} (hΓ : Γ[i]? = some (.deep v o)) (h : WPe X c e Γ fun r => ∃ t, toO r = some t ∧ WPe X c recv Γ fun r1 => ∃ π l, r1 = .vo v π (.nd .lst l) ∧ o.sub π = some (.nd .lst l) ∧ WPe X c ie Γ fun r2 => ∃ (j : Int) (n : Nat), r2 = .im (.int j) ∧ ixN l.length j = some n ∧ D.nx (Γ.set i (.deep v (o.put π (.nd .lst (l.set n t))))))
    (ha : ∀ v, assign (.Subscript recv ie p2) X.env v = (do
      let ov ← holding [v] (eval recv X.env)
      let iv ← holding [v, ov] (eval ie X.env)
      standAt p2
      holding [v, ov, iv] (setItem ov iv v)
      release [v, ov, iv] []) := by intro _; rfl) (hs1 : swapsWithSole [.Subscript recv ie p2] e pos.line X.env = pure false := by rfl) (hs2 : swappedStores [.Subscript recv ie p2] e X.env = pure none := by rfl)
    (hs3 : (assignEach [.Subscript recv ie p2] X.env).map (·.2) = [assign (.Subscript recv ie p2) X.env] := by rfl) : WPst X c (.Assign [.Subscript recv ie p2] e pos) Γ D := fun F H σ E Ee ok => by
  refine ws_of (ps_asg pe_we (pg_sub pe_we pe_we set_list ha) hs1 hs2 hs3) ?_
  refine h F H [] [] σ rfl E.env _ fun y r F1 H1 k1 E1 => ?_
  obtain ⟨t, ht, k1⟩ := k1
  refine k1 F1 H1 [some y] [r] σ rfl E1 _ fun w r1 F2 H2 k2 E2 => ?_
  obtain ⟨π, l, rfl, hsub, k2⟩ := k2
  obtain ⟨p1, dx1, vs1, fq1, e1, g1, _⟩ := E2.voAt (i := 0) (w := w) rfl rfl
  subst e1
  refine k2 F2 H2 [some (.ref p1), some y] [_, r] σ rfl E2 _ fun z r2 F3 H3 k3 E3 => ?_
  obtain ⟨j, n, rfl, hj, k3⟩ := k3
  have hz : z = .int j := E3.imAt (i := 0) rfl rfl
  subst hz
  have E3' : EnvR c F3 H3 (some (.ref p1) :: some y :: σ) (.vo v π (.nd .lst l) :: r :: Γ) := E3.pop
  obtain ⟨fp, Ef⟩ := E3'.foot
  obtain ⟨E4, rv, _⟩ := Ef.pop
  obtain ⟨E5, r0, dis⟩ := E4.pop
  obtain ⟨u, hu, hT, hN, hO⟩ := r0.tree ht
  cases hu
  obtain ⟨_, w', fq', hw', hA, _, _⟩ := rv
  cases hw'
  obtain ⟨x, hx, hv, hTr, hNr, hOr⟩ := E5.sl i _ hΓ
  subst hv
  obtain ⟨f1, a1, a2, a3, a4⟩ := hTr.at hsub hA
  obtain ⟨p, dx, vs, fq, e5, rfl, g2, g3, g4⟩ := a1
  cases e5
  have hn1 := a3 hNr
  have hpi : p1 ∈ fp (i + 1 + 1) := a2 p1 (List.mem_cons_self ..)
  have hpq : p1 ∉ fq := (List.nodup_cons.mp hn1).1
  have hp0 : p1 ∉ fp 1 := fun z => dis p1 z (i) hpi
  have hlen := g4.length
  have hnl : n < l.length := (ixN_seq hj).2.1
  obtain ⟨u0, fa, fb, fc, c1, rfl, c3, c4⟩ := g4.split (n := n) (o := l[n]) (by simp [hnl])
  have hq := List.nodup_append.mp (List.nodup_cons.mp hn1).2
  have hq2 := List.nodup_append.mp hq.2.1
  have hab : ∀ a, a ∈ fa ∨ a ∈ fc → a ∈ fp (i + 1 + 1) := fun a z => a2 a (by
    rcases z with z | z <;> simp [z])
  have hnew : OwnT F3 (L2.upd H3 p1 (.lst (vs.set n y))) (.nd .lst (l.set n t)) (.ref p1) (p1 :: (fa ++ (fp 1 ++ fc))) := ⟨p1, dx, vs.set n y, _, rfl, rfl, upd_same, trivial, c4 F3 _ t y (fp 1) (Ex.refl _) (fun a z => upd_ne fun e => hpq (by rw [← e]; rcases z with z | z <;> simp [z])) (hT.mono (Ex.refl _) fun a z => upd_ne fun e => hp0 (by rw [← e]; exact z))⟩
  have hnn : (p1 :: (fa ++ (fp 1 ++ fc))).Nodup := by
    refine List.nodup_cons.mpr ⟨fun z => ?_, List.nodup_append.mpr ⟨hq.1, List.nodup_append.mpr ⟨hN, hq2.2.1, fun a x b y e => ?_⟩, fun a x b y e => ?_⟩⟩
    · rcases List.mem_append.mp z with z | z
      · exact hpq (by simp [z])
      · rcases List.mem_append.mp z with z | z
        · exact hp0 z
        · exact hpq (by simp [z])
    · subst e
      exact dis a x i (hab a (.inr y))
    · subst e
      rcases List.mem_append.mp y with y | y
      · exact dis a y i (hab a (.inl x))
      · exact hq.2.2 a x a (List.mem_append_right _ y) rfl
  obtain ⟨fp', b1, b2, b3⟩ := a4 F3 (L2.upd H3 p1 (.lst (vs.set n y))) (.nd .lst (l.set n t)) (p1 :: (fa ++ (fp 1 ++ fc))) (fp 1) (Ex.refl _) (fun a _ z => upd_ne fun e => z (by rw [e]; exact List.mem_cons_self ..)) hnew (fun a z => by
    rcases List.mem_cons.mp z with z | z
    · exact .inl (by rw [z]; exact List.mem_cons_self ..)
    · rcases List.mem_append.mp z with z | z
      · exact .inl (by simp [z])
      · rcases List.mem_append.mp z with z | z
        · exact .inr z
        · exact .inl (by simp [z])) (fun a z => dis a z i) hnn hNr
  refine ⟨p1, vs, j, n, rfl, rfl, g2, by rw [hlen]; exact hj, ok.nx _ F3 _ σ k3 ⟨?_, E.nv.set rfl⟩⟩
  exact E5.writeX E.nv hΓ hx hpi (fun a z => dis a z) b3 ⟨rfl, b1, b2, fun a z => (b3 a z).elim (fun y => hOr a y) fun y => hO a y⟩
end
section
variable {X : Cx} {c : C0} {Γ : List Sl} {vs : List Nat} {K : List Sl → Prop} {pos : Pos}
/-- for (x, y) of a list of two, in a comprehension -/
theorem gtc_lst2 (i j : Nat) {x y : Str} {d1 d2 : DL.D} {px py : Pos} {kt} (hc : X.calm = true) (hN : X.N.Nodup) (k : K ((Γ.set i (.im d1)).set j (.im d2))) (hl : i < Γ.length := by exact Nat.le_of_ble_eq_true rfl) (hl2 : j < Γ.length := by exact Nat.le_of_ble_eq_true rfl) (hm : i ∈ vs := by decide) (hm2 : j ∈ vs := by decide) (hi : X.N[i]? = some x := by rfl) (hj : X.N[j]? = some y := by rfl) (hx : Loc X.env.scope x := by first | exact Or.inl rfl | exact Or.inr rfl) (hy : Loc X.env.scope y := by first | exact Or.inl rfl | exact Or.inr rfl)
    (hf : X.fn x = true ∨ X.env.scope.names.lookup x = some .local := by first | exact .inl rfl | exact .inr rfl) (hf2 : X.fn y = true ∨ X.env.scope.names.lookup y = some .local := by first | exact .inl rfl | exact .inr rfl)
    (hn : (assignEach [.Name x px, .Name y py] X.env).length = 2 := by rfl) (hst : (assignEach [.Name x px, .Name y py] X.env).findIdx? (·.1) = none := by rfl)
    (hs1 : (assignEach [.Name x px, .Name y py] X.env).map (·.2) = assign (.Name x px) X.env :: (assignEach [.Name y py] X.env).map (·.2) := by rfl) (hs2 : (assignEach [.Name y py] X.env).map (·.2) = assign (.Name y py) X.env :: (assignEach [] X.env).map (·.2) := by rfl) :
    GtC X c (.Tuple [.Name x px, .Name y py] kt pos) (.im (.lst [d1, d2])) Γ vs K := fun F H stk S σ v hls E Q q => by
  refine gw_of (L2.pg_unl hc (pgs_cons (pg_name hN hi hx hf) (pgs_cons (pg_name hN hj hy hf2) pgs_nil hs2) hs1) hn hst) ?_
  obtain ⟨p, vs', e, hp, v1, w1, e1, hd1, v2, w2, e2, hd2, e3⟩ := E.imAt (i := 0) rfl rfl
  have e3 : w2 = [] := e3
  subst e3 e2 e1
  refine ⟨p, [v1, v2], e, .inl (.inl (E.ex _ _ hp)), rfl, v1, [v2], rfl, v2, [], rfl, rfl, ?_⟩
  have E1 := ((E.pop.push hd1).storeS hls hl)
  have E2 := (E1.push hd2).storeS (Γ := Γ.set i (.im d1)) hls (by simpa using hl2)
  exact q F H _ _ k (by rw [wipe_set hm2, wipe_set hm]) E2
end
end DL

set_option Elab.async false
set_option linter.all false
set_option pp.maxSteps 300
set_option maxRecDepth 100000
set_option maxHeartbeats 2000000
/-! DL15: tuples put together and turned, min, repr of anything, zip, trees of dicts -/
namespace DL
open PySem PySem.Spec PyProof.Rows L2
section
variable {X : Cx} {c : C0} {Γ : List Sl} {KB : Bool → Prop} {a b d e : Expr} {pos : Pos} {x y z u : Bool}
theorem wpt_and4 (h1 : WPt X c a Γ fun t => t = x) (h2 : x = true → WPt X c b Γ fun t => t = y) (h3 : x = true → y = true → WPt X c d Γ fun t => t = z) (h4 : x = true → y = true → z = true → WPt X c e Γ fun t => t = u) (k : KB (x && (y && (z && u)))) : WPt X c (.BoolOp .And [a, b, d, e] pos) Γ KB := by
  refine wpt_w <| wpw_and <| h1.mono fun t ht => ?_
  subst ht
  refine ⟨fun e1 => ?_, fun e1 => ?_⟩
  · refine wpw_and <| (h2 e1).mono fun t ht => ?_
    subst ht
    rw [e1] at k
    refine ⟨fun e2 => ?_, fun e2 => ?_⟩
    · refine wpw_and <| (h3 e1 e2).mono fun t ht => ?_
      subst ht
      rw [e2] at k
      refine ⟨fun e3 => ?_, fun e3 => ?_⟩
      · refine wpw_and1 <| (h4 e1 e2 e3).mono fun t ht => ?_
        rw [e3] at k
        rw [ht]
        simpa using k
      · rw [e3] at k
        simpa using k
    · rw [e2] at k
      simpa using k
  · rw [e1] at k
    simpa using k
theorem wpt_or3 (h1 : WPt X c a Γ fun t => t = x) (h2 : x = false → WPt X c b Γ fun t => t = y) (h3 : x = false → y = false → WPt X c d Γ fun t => t = z) (k : KB (x || (y || z))) : WPt X c (.BoolOp .Or [a, b, d] pos) Γ KB := by
  refine wpt_w <| wpw_or <| h1.mono fun t ht => ?_
  subst ht
  refine ⟨fun e => ?_, fun e => ?_⟩
  · rw [e] at k
    simpa using k
  · refine wpw_or <| (h2 e).mono fun t ht => ?_
    subst ht
    rw [e] at k
    refine ⟨fun e2 => ?_, fun e2 => ?_⟩
    · rw [e2] at k
      simpa using k
    · refine wpw_or1 <| (h3 e e2).mono fun t ht => ?_
      rw [e2] at k
      rw [ht]
      simpa using k
end
/-! ### tuples -/
section
variable {X : Cx} {c : C0} {K : Sl → Prop} {Γ : List Sl} {a : Expr} {pos : Pos}
theorem od_catT {l m : List D} (hz : l.length + m.length ≤ sizeLine) (k : K (.im (.tup (l ++ m)))) : OpD X c (binaryOp .Add) (.im (.tup l)) (.im (.tup m)) K := fun F H L G x y E Q q pins s σ u w I rx ry => by
  obtain ⟨p, vs, e1, h3, h4⟩ := E.imAt (i := 1) rfl rfl
  obtain ⟨p2, ws, e2, h5, h6⟩ := E.imAt (i := 0) rfl rfl
  subst e1 e2
  refine op_catA pins s σ H _ _ u w Q I rx ry ⟨p, p2, vs, ws, rfl, rfl, .inl (.inl (E.ex _ _ h3)), .inl (.inl (E.ex _ _ h5)), by rw [← h4.length, ← h6.length]; exact hz, fun z => ?_, fun _ z => ?_, fun _ _ a ha => q _ (.im (.tup (l ++ m))) _ _ k (E.pop.pop.pushTup ha (h4.append h6))⟩
  · have hl : l = [] := List.length_eq_zero_iff.mp (by rw [h4.length, z]; rfl)
    rw [hl] at k
    exact q _ (.im (.tup ([] ++ m))) F H k (E.pop.pop.push ⟨p2, ws, rfl, h5, h6⟩)
  · have hm : m = [] := List.length_eq_zero_iff.mp (by rw [h6.length, z]; rfl)
    refine q _ (.im (.tup (l ++ m))) F H k (E.pop.pop.push ⟨p, vs, rfl, h3, ?_⟩)
    rw [hm, List.append_nil]
    exact h4
/-- [a, ..] * n -/
theorem Dats.rep {F : Hp} {l : List D} {vs : List V} (h : Dats F l vs) : ∀ n : Nat, Dats F (List.replicate n l).flatten (List.replicate n vs).flatten
  | 0 => rfl
  | n + 1 => by
    rw [List.replicate_succ, List.replicate_succ, List.flatten_cons, List.flatten_cons]
    exact h.append (Dats.rep h n)
theorem od_rep {l : List D} {n : Nat} {i : Int} (hi : i = (n : Int)) (hn : n < 2 ^ 62) (hz : l.length * n ≤ sizeLine) (k : K (.own (.lst (List.replicate n l).flatten))) : OpD X c (binaryOp .Mult) (.im (.lst l)) (.im (.int i)) K := fun F H L G x y E Q q pins s σ u w I rx ry => by
  subst hi
  obtain ⟨p, vs, e1, h3, h4⟩ := E.lstAt (i := 1) (l := l) rfl rfl rfl
  have hy : y = .int (n : Int) := E.imAt (i := 0) rfl rfl
  subst e1 hy
  refine op_rep pins s σ H _ _ u w Q I rx ry ⟨p, (n : Int), vs, rfl, rfl, h3, by omega, by omega, by rw [Int.toNat_natCast, ← h4.length]; exact hz, fun a ha => q _ (.own (.lst (List.replicate n l).flatten)) F _ k (E.pop.pop.pushOwn ha ⟨_, upd_same, ?_⟩)⟩
  rw [Int.toNat_natCast]
  exact h4.rep n
/-- t[::-1] -/
theorem slice_rev {sl : Addr} {vs : Value} {P : Program} {w : World} {A : Around} {E : Value → Shared → Prop} {s : Shared} {n : Nat} {Q : Int × Int × Nat → Shared → Prop} (hs : s.heap.IsSliceOf sl .none .none vs) (ps : IsPart vs (some (-1)))
    (h : Q ((n : Int) - 1, -1, n) s) : wpAny (model P w) A (Builtin.Slice.sliceApplied (.ref sl) (pure (n : Int))) Q E s := by
  obtain ⟨os, hos, hcs, hds⟩ := id hs
  unfold Builtin.Slice.sliceApplied Builtin.Slice.sliceFields
  refine wpAny_bind (wpAny_bind (wpAny_field hos hds (x := .none) rfl (wpAny_bind (wpAny_field hos hds (x := .none) rfl (wpAny_bind (wpAny_field hos hds (x := vs) rfl (wpAny_pure ?_)))))))
  refine wpAny_bind (HT.slicePart_ ps ?_)
  show wpAny _ _ (if ((-1 : Int) == 0) = true then _ else _) _ _ s
  rw [if_neg (by decide)]
  refine wpAny_bind (HT.slicePart_ .none (wpAny_bind (HT.slicePart_ .none (wpAny_bind (wpAny_pure ?_)))))
  show wpAny _ _ (match Builtin.Slice.sliceAdjust none none (-1) (n : Int) with | (lo, hi) => pure (lo, (-1 : Int), Builtin.Slice.slicePlaces lo hi (-1))) _ _ s
  have e1 : Builtin.Slice.sliceAdjust none none (-1) (n : Int) = ((n : Int) - 1, -1) := by
    unfold Builtin.Slice.sliceAdjust
    simp
  rw [e1]
  show wpAny _ _ (pure ((n : Int) - 1, (-1 : Int), Builtin.Slice.slicePlaces ((n : Int) - 1) (-1) (-1))) _ _ s
  have e2 : Builtin.Slice.slicePlaces ((n : Int) - 1) (-1) (-1) = n := by
    unfold Builtin.Slice.slicePlaces
    simp
    omega
  rw [e2]
  exact wpAny_pure h
theorem filterMap_cg {α β : Type} {f g : α → Option β} : ∀ {l : List α}, (∀ x ∈ l, f x = g x) → l.filterMap f = l.filterMap g
  | [], _ => rfl
  | a :: r, h => by
    rw [List.filterMap_cons, List.filterMap_cons, h a (List.mem_cons_self ..), filterMap_cg fun x hx => h x (List.mem_cons_of_mem _ hx)]
theorem pick_rev (xs : Array Value) : ((List.range xs.size).filterMap fun (m : Nat) => xs[(((xs.size : Int) - 1) + (m : Int) * (-1)).toNat]?).toArray = xs.toList.reverse.toArray := by
  have e : ((List.range xs.size).filterMap fun (m : Nat) => xs[(((xs.size : Int) - 1) + (m : Int) * (-1)).toNat]?) = ((List.range xs.size).map fun k => xs.size - 1 - k).filterMap (xs[·]?) := by
    rw [List.filterMap_map]
    refine filterMap_cg fun m hm => ?_
    have := List.mem_range.mp hm
    show xs[(((xs.size : Int) - 1) + (m : Int) * (-1)).toNat]? = xs[xs.size - 1 - m]?
    congr 1
    omega
  rw [e, PySem.W.krv_range, List.filterMap_reverse, PySem.W.krv_all]
theorem getItem_tuple_rev {P : Program} {w : World} {A : Around} {E : Value → Shared → Prop} {s : Shared} {t sl : Addr} {items : Array Value} {vs : Value} {Q : Value → Shared → Prop} (ht : IsTup s.heap t items) (hs : s.heap.IsSliceOf sl .none .none vs) (ps : IsPart vs (some (-1)))
    (h : Q (.ref s.heap.objs.size) { s with heap := s.heap.push { cls := .type "tuple", data := .seq items.toList.reverse.toArray } }) (hsz : items.size ≤ sizeLine) : wpAny (model P w) A (getItem (.ref t) (.ref sl)) Q E s := by
  have htake : sizeOk (.seq items.toList.reverse.toArray) := by
    show items.toList.reverse.toArray.size ≤ sizeLine
    rw [List.size_toArray, List.length_reverse, Array.length_toList]
    exact hsz
  obtain ⟨os, hos, hcs, hds⟩ := id hs
  have hTs : s.TypeIs (.ref sl) "slice" := ⟨os, hos, hcs⟩
  unfold getItem
  try with_reducible refine wpAny_holding ?_
  first | refine wpAny_bind (wpAny_pure ?_) | skip
  refine wpAny_bind (wpAny_sequenceKey ht.typeIs (by decide) ?_)
  refine wpAny_bind (wpAny_callSpecial?_slot (name := Str.ofString "__getitem__") ht.typeIs PyProof.Rows.slot_tuple_getitem
    (wpAny_call_entry PyProof.Rows.slot_tuple_getitem ht.typeIs entry_tuple_getitem ?_ (args_tuple_getitem _ _)))
  show wpAny _ _ (Builtin.Tuple.tupleItemsOf (.ref t) >>= _) _ _ s
  refine wpAny_bind (tupleItemsOf_ ht ?_)
  refine wpAny_bind (wpAny_typeOf hTs ?_)
  rw [if_pos (by decide)]
  refine wpAny_bind (slice_rev hs ps ?_)
  have hno : ¬ ((((items.size : Int) - 1) == 0 && (-1 : Int) == 1 && items.size == items.size) = true) := by
    intro q
    rw [Bool.and_eq_true, Bool.and_eq_true] at q
    exact absurd q.1.2 (by decide)
  show wpAny _ _ (if (((items.size : Int) - 1) == 0 && (-1 : Int) == 1 && items.size == items.size) = true then _ else _) _ _ s
  rw [if_neg hno, pick_rev]
  first
    | exact wpAny_bind (m := Builtin.Tuple.tupleExact _) (wpAny_newObj_type (wpAny_pure ⟨_, rfl, wpAny_pure h⟩) htake)
    | exact wpAny_bind (m := Builtin.Tuple.tupleExact _) (wpAny_newObj_type (wpAny_bind (wpAny_pure (wpAny_pure ⟨_, rfl, wpAny_pure h⟩))) htake)
    | exact wpAny_bind (wpAny_bind (m := Builtin.Tuple.tupleExact _) (wpAny_newObj_type (wpAny_pure (wpAny_pure ⟨_, rfl, wpAny_pure h⟩)) htake))
    | exact wpAny_bind (wpAny_bind (m := Builtin.Tuple.tupleExact _) (wpAny_newObj_type (wpAny_pure ⟨_, rfl, wpAny_pure h⟩) htake))
def tRevT (K : PySem.W.Frag) (te : TE) : TE := fun σ H Q => te σ H fun x H1 => ∃ a xs, x = .ref a ∧ SqT K H1 a xs ∧ ∀ p, H1 p = none → Q (.ref p) (L2.upd H1 p (.tup xs.reverse))
theorem pe_revT {e : Expr} {te : TE} {k : Nat} {p1 p2 p3 pos : Pos} (he : PE X e te) : PE X (.Subscript e (.Slice none none (some (.UnaryOp .USub (.Constant (.int 1) k p1) p2)) p3) pos) (tRevT X.K te) := by
  refine ⟨fun pins s σ H Q I h => ?_⟩
  refine Subscript_ (thn (he.run pins s σ H _ I h) fun v s1 ⟨x, H1, I1, r1, q1⟩ => ?_)
  obtain ⟨a, xs, ex, hx, q⟩ := q1
  subst ex
  cases r1
  have hst : PO X (some (.UnaryOp .USub (.Constant (.int 1) k p1) p2)) (tPart (tUn (rU fun i => .int (-i)) (tC (.int 1)))) := po_some (pe_un un_neg pe_int)
  refine wpAny_Slice (thn (po_none.run pins s1 σ H1 (fun o H2 => o = none ∧ H2 = H1) I1 ⟨rfl, rfl⟩) fun vl s2 ⟨l, H2, I2, pl, el, e2⟩ => ?_)
  subst el e2
  refine thn (po_none.run pins s2 σ H2 (fun o H3 => o = none ∧ H3 = H2) I2 ⟨rfl, rfl⟩) fun vu s3 ⟨u, H3, I3, pu, eu, e3⟩ => ?_
  subst eu e3
  refine thn (hst.run pins s3 σ H3 (fun o H4 => o = some (-1) ∧ H4 = H3) I3 ⟨1, rfl, -1, rfl, rfl, rfl⟩) fun vs s4 ⟨o, H4, I4, ps, eo, e4⟩ => ?_
  subst eo e4
  cases pl
  cases pu
  have I5 : Inv X pins σ H4 { s4 with heap := s4.heap.push { cls := .type "slice", data := .fields #[.none, .none, vs] } } := I4.kept (t' := s4.toks) fun b ob q => Heap.get?_push_of_some _ q
  obtain ⟨its, r, ht, hz⟩ := I5.tuple hx
  have hlen := r.length
  show wpAny (model X.prog X.w) X.A (subscriptTail e (.Slice none none (some (.UnaryOp .USub (.Constant (.int 1) k p1) p2)) p3) (.ref a) (.ref s4.heap.objs.size)) (EP X pins σ Q) X.xe { s4 with heap := s4.heap.push { cls := .type "slice", data := .fields #[.none, .none, vs] } }
  refine tail_any (ops := [.ref a, .ref s4.heap.objs.size]) ht.typeIs (PyProof.Rows.slot_tuple_getitem.lookup) ?_ (by with_unfolding_all rfl)
  refine getItem_tuple_rev ht (Heap.IsSliceOf.new _ .none .none vs) ps ?_ (by rw [List.size_toArray]; omega)
  refine ⟨.ref _, _, I5.laid (t' := s4.toks) (o := .tup xs.reverse) (fun b ob q => Heap.get?_push_of_some _ q) (Nat.le_refl _) ?_, rfl, q _ (I5.hok.fresh (Nat.le_refl _))⟩
  exact ⟨by rw [List.length_reverse]; exact hz, _, r.reverse, IsTup.new _ _⟩
theorem wp_revT {kk : Nat} {q1 q2 q3 : Pos} (h : WPe X c a Γ fun ra => ∃ l, ra = .im (.tup l) ∧ K (.im (.tup l.reverse))) : WPe X c (.Subscript a (.Slice none none (some (.UnaryOp .USub (.Constant (.int 1) kk q1) q2)) q3) pos) Γ K := fun F H stk S σ hl E Q q => by
  refine we_of (pe_revT pe_we) ?_
  refine h F H stk S σ hl E _ fun x ra F1 H1 k1 E1 => ?_
  obtain ⟨l, rfl, k1⟩ := k1
  obtain ⟨p, vs, e1, hp, hd⟩ := E1.imAt (i := 0) rfl rfl
  exact ⟨p, vs, e1, .inl (.inl (E1.ex _ _ hp)), fun p3 hp3 => q _ (.im (.tup l.reverse)) _ _ k1 (EnvR.pushTup (σ := stk ++ σ) (Γ := S ++ Γ) E1.pop hp3 hd.reverse)⟩
/-! ### min, int, repr -/
theorem cd_minL (hc : X.calm = true) {r : Sl} {ns : List Int} (hr : lst? r = some (ns.map D.int)) (h0 : 0 < ns.length) (k : ∀ m, m ∈ ns → (∀ y ∈ ns, m ≤ y) → K (.im (.int m))) : CallD X c (.builtin "min") [r] K := cd_one (cr_min hc) fun F H L G v E Q q => by
  obtain ⟨p, vs, e1, h2, h3⟩ := E.lstAt (i := 0) rfl rfl hr
  rw [h3.ints] at h2
  exact ⟨p, ns, by rw [e1], .inl (.inl h2), h0, fun m hm hy => q _ (.im (.int m)) F H (k m hm hy) (E.pop.push rfl)⟩
theorem cd_intB {b : Bool} (k : K (.im (.int (if b then 1 else 0)))) : CallD X c (.type "int") [.im (.bl b)] K := cd_one call_int1 fun F H L G v E Q q => by
  have hv : v = .bl b := E.imAt (i := 0) rfl rfl
  exact .inr ⟨b, by rw [hv], q _ (.im (.int (if b then 1 else 0))) F H k (E.pop.push rfl)⟩
/-- what repr shows of data -/
def shw : D → Str
  | .dct _ _ => (PyData.dict []).shown
  | d => (py d).shown
/-- what may be shown: texts short, numbers small, dicts empty -/
def Sh : D → Prop
  | .dct ks l => ks = [] ∧ l = []
  | .str s => (reprText s).length ≤ sizeLine
  | .int i => i.natAbs.log2 < 1920
  | .tup l => (py (.tup l)).canLay0 = true ∧ (py (.tup l)).depth ≤ 60 ∧ (py (.tup l)).showable = true ∧ (py (.tup l)).shown.length ≤ sizeLine
  | .lst l => (py (.lst l)).canLay0 = true ∧ (py (.lst l)).depth ≤ 60 ∧ (py (.lst l)).showable = true ∧ (py (.lst l)).shown.length ≤ sizeLine
  | _ => True
theorem cd_reprA (hg : X.A.guards = some []) (hu : X.A.units + 64 < cLine) {d : D} (hs : Sh d) (k : K (.im (.str (shw d)))) : CallD X c (.builtin "repr") [.im d] K := by
  cases d with
  | tup l => exact cd_repr hg hu rfl (.inl rfl) hs.1 hs.2.1 hs.2.2.1 hs.2.2.2 k
  | lst l => exact cd_repr hg hu rfl (.inr rfl) hs.1 hs.2.1 hs.2.2.1 hs.2.2.2 k
  | non =>
    exact fun F H L G vs hl E Q q pins s σ us I rv => by
      cases vs with
      | nil => simp at hl
      | cons v w =>
        cases w with
        | cons => simp at hl
        | nil =>
          have hv : v = .non := E.imAt (i := 0) rfl rfl
          subst hv
          obtain ⟨u, eu, ru⟩ := vals1 rv
          subst eu
          have eu : u = Value.none := ru
          subst eu
          exact PySem.P.repr_of_none ⟨.str "None", H, I.tok _, ⟨_, rfl⟩, q _ (.im (.str (shw .non))) F H k (E.pop.push rfl)⟩
  | bl b =>
    exact fun F H L G vs hl E Q q pins s σ us I rv => by
      cases vs with
      | nil => simp at hl
      | cons v w =>
        cases w with
        | cons => simp at hl
        | nil =>
          have hv : v = .bl b := E.imAt (i := 0) rfl rfl
          subst hv
          obtain ⟨u, eu, ru⟩ := vals1 rv
          subst eu
          have eu : u = Value.bool b := ru
          subst eu
          exact PySem.P.repr_of_bool ⟨.str (shw (.bl b)), H, I.tok _, ⟨_, rfl⟩, q _ (.im (.str (shw (.bl b)))) F H k (E.pop.push rfl)⟩
  | int i =>
    exact fun F H L G vs hl E Q q pins s σ us I rv => by
      cases vs with
      | nil => simp at hl
      | cons v w =>
        cases w with
        | cons => simp at hl
        | nil =>
          have hv : v = .int i := E.imAt (i := 0) rfl rfl
          subst hv
          obtain ⟨u, eu, ru⟩ := vals1 rv
          subst eu
          obtain ⟨t, eu⟩ := ru
          subst eu
          exact PySem.P.repr_of_int hs ⟨.str (shw (.int i)), H, I.tok _, ⟨_, rfl⟩, q _ (.im (.str (shw (.int i)))) F H k (E.pop.push rfl)⟩
  | str x =>
    exact fun F H L G vs hl E Q q pins s σ us I rv => by
      cases vs with
      | nil => simp at hl
      | cons v w =>
        cases w with
        | cons => simp at hl
        | nil =>
          have hv : v = .str x := E.imAt (i := 0) rfl rfl
          subst hv
          obtain ⟨u, eu, ru⟩ := vals1 rv
          subst eu
          obtain ⟨t, eu⟩ := ru
          subst eu
          exact PySem.P.repr_of_str ⟨.str (shw (.str x)), H, I.tok _, ⟨_, rfl⟩, q _ (.im (.str (shw (.str x)))) F H k (E.pop.push rfl)⟩ hs
  | dct ks l =>
    exact fun F H L G vs hl E Q q pins s σ us I rv => by
      cases vs with
      | nil => simp at hl
      | cons v w =>
        cases w with
        | cons => simp at hl
        | nil =>
          obtain ⟨rfl, rfl⟩ := hs
          obtain ⟨p, vs, h1, h2, h3, h4⟩ := E.imAt (i := 0) rfl rfl
          subst h1
          obtain ⟨u, eu, ru⟩ := vals1 rv
          subst eu
          have eu : u = Value.ref p := ru
          subst eu
          have h2' : H p = some (.dK []) := by rw [E.ex _ _ h2]; rfl
          obtain ⟨_, hsys, kvs, hkv, o, es, ep, g1, g2, g3, g4, g5, g6⟩ := I.hok p _ h2'
          have hk0 : kvs = [] := by cases hkv; rfl
          subst hk0
          have hes : es.toList = [] := by
            have := g5
            generalize es.toList = l at this
            cases this
            rfl
          have R : Reads s.heap (.ref p) (.dict []) [p] := by
            have := Reads.dict (h := s.heap) (kvs := []) (as := []) (bs := []) g1 g2.1 g3 (by rw [hes]; exact .nil) (by rw [hes]; exact .nil)
            exact this
          refine repr_of_reads' R rfl (fun _ z => ?_) hg (Nat.lt_of_le_of_lt (Nat.add_le_add_left (show PyData.depth (.dict []) + 1 ≤ 64 by decide) _) hu) (fun _ _ e => e) (fun h' t tk hk => ?_) (by decide)
          · rw [List.mem_singleton] at z
            rw [← z] at hsys
            simp at hsys
          · exact ⟨.str (PyData.dict []).shown, H, I.kept hk, ⟨t, rfl⟩, q _ (.im (.str (shw (.dct [] [])))) F H k (E.pop.push rfl)⟩
end
end DL

set_option Elab.async false
set_option linter.all false
set_option pp.maxSteps 300
set_option maxRecDepth 100000
set_option maxHeartbeats 2000000
/-! DL16: zip of tuples, trees of dicts, stores at places of any sign -/
namespace DL
open PySem PySem.Spec PyProof.Rows L2
section
variable {X : Cx} {c : C0} {Γ : List Sl} {KI : Nat → (Nat → DL.D) → Prop} {e1 e2 : Expr} {elts : List Expr} {kk : Nat} {tpos pos p : Pos}
/-- zip of two known tuples -/
theorem wpi_zipT (hm : X.mg "zip" = none) (h : WPa X c [e1, e2] Γ fun rs => ∃ xs ys, rs = [.im (.tup xs), .im (.tup ys)] ∧ KI (min xs.length ys.length) fun i => .tup [xs.getD i .non, ys.getD i .non])
    (hg : Gl X "zip" := by rfl) (hs : starEach [e1, e2] X.env = (false, eval e1 X.env) :: starEach [e2] X.env := by rfl) (hpl : (backTo pos (starEach [e2] X.env)).any (·.1) = false := by rfl) : WPi X c (.Tuple elts kk tpos) (.Call (.Name "zip" p) [e1, e2] [] pos) Γ KI := fun F H stk S σ hl E R q => by
  refine iw_of (RZ.pi_zipA hg hm pa_wa hs hpl) ?_
  refine h F H stk S σ hl E _ fun vs rs F1 H1 k1 hl1 E1 => ?_
  obtain ⟨ds, ds2, er, k⟩ := k1
  subst er
  obtain ⟨E2, hd⟩ := EnvR.dats (ds := [.tup ds, .tup ds2]) (by simpa using hl1) E1
  obtain ⟨v, w, rfl, hv, v2, w2, rfl, hv2, hw⟩ := hd
  have hw' : w2 = [] := hw
  subst hw'
  obtain ⟨a, xs, rfl, ha, hds⟩ := hv
  obtain ⟨b, ys, rfl, hb, hds2⟩ := hv2
  refine ⟨a, b, xs, ys, rfl, .inr ⟨.inl (.inl (E2.ex _ _ ha)), .inl (.inl (E2.ex _ _ hb)), q _ (min ds.length ds2.length) _ (fun F => (F a = some (.tup xs) ∧ Dats F ds xs) ∧ F b = some (.tup ys) ∧ Dats F ds2 ys) F1 H1 k ⟨fun F F' e h => ⟨⟨e _ _ h.1.1, h.1.2.mono e⟩, e _ _ h.2.1, h.2.2.mono e⟩, fun F H i e h hi => ?_, fun c F H σ Γ i x H' E h hi hy => ?_, fun F H e h => ⟨xs, ys, .inl (.inl (e _ _ h.1.1)), .inl (.inl (e _ _ h.2.1)), ?_⟩⟩ ⟨⟨ha, hds⟩, hb, hds2⟩ E2⟩⟩
  · have l1 : i < ds.length := by omega
    have l2 : i < ds2.length := by omega
    obtain ⟨v, hv, _⟩ := h.1.2.get (i := i) (d := ds[i]) (by simp [l1])
    obtain ⟨v2, hv2, _⟩ := h.2.2.get (i := i) (d := ds2[i]) (by simp [l2])
    exact ⟨xs, ys, v, v2, .inl (.inl (e _ _ h.1.1)), .inl (.inl (e _ _ h.2.1)), hv, hv2⟩
  · have l1 : i < ds.length := by omega
    have l2 : i < ds2.length := by omega
    obtain ⟨T, y, y2, rfl, hT, rfl, hx, hx2⟩ := hy
    obtain ⟨v, hv, hd⟩ := h.1.2.get (i := i) (d := ds[i]) (by simp [l1])
    obtain ⟨v2, hv2, hd2⟩ := h.2.2.get (i := i) (d := ds2[i]) (by simp [l2])
    have e1 := hx xs (.inl (.inl (E.ex _ _ h.1.1)))
    have e2 := hx2 ys (.inl (.inl (E.ex _ _ h.2.1)))
    rw [hv] at e1
    rw [hv2] at e2
    cases e1
    cases e2
    have e3 : ds.getD i .non = ds[i] := by simp [l1]
    have e4 : ds2.getD i .non = ds2[i] := by simp [l2]
    exact ⟨_, Ex.new (E.ex.back hT), by rw [e3, e4]; exact E.pushTup hT (.cons hd (.one hd2))⟩
  · rw [← h.1.2.length, ← h.2.2.length]
    omega
end
/-! ### dicts within trees -/
/-- the place of a key -/
def kIx : List Key → Key → Option Nat
  | [], _ => none
  | k :: ks, j => if k = j then some 0 else (kIx ks j).map (· + 1)
theorem kIx_val {j : Key} : ∀ {ks : List Key} {vs : List V} {n : Nat} {u : V}, kIx ks j = some n → vs[n]? = some u → valV (ks.zip vs) j = some u
  | [], _, _, _, h, _ => by cases h
  | k :: ks, [], n, u, _, h => by simp at h
  | k :: ks, v :: vs, n, u, h, e => by
    rw [List.zip_cons_cons]
    by_cases q : k = j
    · have h : (if k = j then some 0 else (kIx ks j).map (· + 1)) = some n := h
      rw [if_pos q] at h
      cases h
      have e : v = u := by simpa using e
      rw [valV_pos (show (k, v).1 = j from q), ← e]
    · have h : (if k = j then some 0 else (kIx ks j).map (· + 1)) = some n := h
      rw [if_neg q] at h
      obtain ⟨m, hm, rfl⟩ := Option.map_eq_some_iff.mp h
      rw [valV_neg (show ¬ (k, v).1 = j from q)]
      exact kIx_val hm (by simpa using e)
theorem kIx_lt {j : Key} : ∀ {ks : List Key} {n : Nat}, kIx ks j = some n → n < ks.length
  | [], _, h => by cases h
  | k :: ks, n, h => by
    have h : (if k = j then some 0 else (kIx ks j).map (· + 1)) = some n := h
    by_cases q : k = j
    · rw [if_pos q] at h
      cases h
      simp
    · rw [if_neg q] at h
      obtain ⟨m, hm, rfl⟩ := Option.map_eq_some_iff.mp h
      have := kIx_lt hm
      simp
      omega
theorem kIx_put {j : Key} {y : V} : ∀ {ks : List Key} {vs : List V} {n : Nat}, ks.Nodup → vs.length = ks.length → kIx ks j = some n → putK (ks.zip vs) j y = ks.zip (vs.set n y) := by
  intro ks vs n hnd hl h
  have hn := kIx_lt h
  have hany : ((ks.zip vs).any fun kv => decide (kv.1 = j)) = true := by
    rw [valV_any, kIx_val (vs := vs) (u := vs[n]'(by omega)) h (by simp)]
    rfl
  unfold putK
  rw [if_pos hany]
  have key : ∀ {ks : List Key} {vs : List V} {n : Nat}, ks.Nodup → vs.length = ks.length → kIx ks j = some n → (ks.zip vs).map (fun kv => if kv.1 = j then (kv.1, y) else kv) = ks.zip (vs.set n y) := by
    intro ks
    induction ks with
    | nil => intro vs n _ _ h; cases h
    | cons k ks ih =>
      intro vs n hnd hl h
      cases vs with
      | nil => simp at hl
      | cons v vs =>
        obtain ⟨hk, hnd'⟩ := List.nodup_cons.mp hnd
        have h : (if k = j then some 0 else (kIx ks j).map (· + 1)) = some n := h
        by_cases q : k = j
        · rw [if_pos q] at h
          cases h
          rw [List.zip_cons_cons, List.map_cons, if_pos q, List.set_cons_zero, List.zip_cons_cons]
          congr 1
          have : ∀ (l : List Key) (m : List V), j ∉ l → (l.zip m).map (fun kv => if kv.1 = j then (kv.1, y) else kv) = l.zip m := by
            intro l
            induction l with
            | nil => intro m _; rfl
            | cons a l ih =>
              intro m hm
              cases m with
              | nil => rfl
              | cons b m =>
                rw [List.zip_cons_cons, List.map_cons, if_neg (fun e => hm (by rw [← e]; exact List.mem_cons_self ..)), ih m fun z => hm (List.mem_cons_of_mem _ z)]
          exact this ks vs (by rw [← q]; exact hk)
        · rw [if_neg q] at h
          obtain ⟨m, hm, rfl⟩ := Option.map_eq_some_iff.mp h
          rw [List.zip_cons_cons, List.map_cons, if_neg q, List.set_cons_succ, List.zip_cons_cons, ih hnd' (by simpa using hl) hm]
  exact key hnd hl h
section
variable {X : Cx} {c : C0} {K : Sl → Prop} {Γ : List Sl} {D : DEnds} {v : V} {π : List Nat} {a b e e2 recv ie : Expr} {es : List Expr} {pos p p2 apos cpos : Pos}
/-- d[k], d a dict within an own tree -/
theorem wp_dgetO (hu : X.A.units + 1 < cLine) (h : WPe X c a Γ fun ra => WPe X c b Γ fun rb => ∃ v π ks l k n o, ra = .vo v π (.nd (.dct ks) l) ∧ rb = .im (kD k) ∧ kIx ks k = some n ∧ l[n]? = some o ∧ K (seeO v (π ++ [n]) o)) (hs : NoSl b := by exact fun _ _ => rfl) : WPe X c (.Subscript a b pos) Γ K := fun F H stk S σ hl E Q q => by
  refine we_of (pe_dget hu pe_we pe_we hs) ?_
  refine h F H stk S σ hl E _ fun x ra F1 H1 k1 E1 => ?_
  refine k1 F1 H1 (some x :: stk) (ra :: S) σ (by simp [hl]) E1 _ fun y rb F2 H2 k2 E2 => ?_
  obtain ⟨v, π, ks, l, k, n, o, rfl, rfl, hk, ho, k2⟩ := k2
  have hy := kD_dat (E2.imAt (i := 0) rfl rfl)
  obtain ⟨p, dx, vs, fq, e1, h1, h2, h3, h4⟩ := E2.voAt (i := 1) (w := x) rfl rfl
  obtain ⟨u, hu1, hS⟩ := h4 n o ho
  refine ⟨p, u, e1, .inl ⟨_, k, .inl h1, hy, (kIx_val hk hu1).symm⟩, q u _ F2 H2 k2 ?_⟩
  exact EnvR.pushS (σ := stk ++ σ) (Γ := S ++ Γ) E2.pop.pop hS
theorem cd_tupleVo {l : List DL.D} (k : K (.im (.tup l))) : CallD X c (.type "tuple") [.vo v π (.nd .lst (l.map O.im))] K := cd_one call_tuple_of fun F H L G w E Q q => by
  obtain ⟨p, dx, vs, fq, e1, h1, h2, h3, h4⟩ := E.voAt (i := 0) (w := w) rfl rfl
  have hd : Dats F l vs := by
    have key : ∀ {l : List DL.D} {vs : List V} {fp : List Addr}, OwnTs F H (l.map O.im) vs fp → Dats F l vs := by
      intro l
      induction l with
      | nil => intro vs fp h; exact h.1
      | cons d r ih =>
        intro vs fp h
        obtain ⟨v, w, f1, f2, rfl, rfl, h1, h2⟩ := h
        exact ⟨v, w, rfl, h1.2, ih h2⟩
    exact key h3
  exact ⟨p, vs, by rw [e1], .inl ⟨.inl (.inl h1), fun a ha => q _ (.im (.tup l)) _ _ k (E.pop.pushTup ha hd)⟩⟩
/-- d[k] = e, k there, d a dict within an own tree -/
theorem wst_dputT (i : Nat) {o : O} (hu : X.A.units + 1 < cLine) (hΓ : Γ[i]? = some (.deep v o)) (h : WPe X c e Γ fun r => ∃ t, toO r = some t ∧ WPe X c recv Γ fun r1 => ∃ π ks l, r1 = .vo v π (.nd (.dct ks) l) ∧ o.sub π = some (.nd (.dct ks) l) ∧ ks.Nodup ∧ l.length < sizeLine ∧ WPe X c ie Γ fun r2 => ∃ (k : Key) (n : Nat), r2 = .im (kD k) ∧ kIx ks k = some n ∧ D.nx (Γ.set i (.deep v (o.put π (.nd (.dct ks) (l.set n t))))))
    (hs : swapsWith e (some (.Subscript recv ie p2)) pos.line X.env = pure false := by rfl) : WPst X c (.Assign [.Subscript recv ie p2] e pos) Γ D := fun F H σ E Ee ok => by
  refine ws_of (ps_dput hu pe_we pe_we pe_we hs) ?_
  refine h F H [] [] σ rfl E.env _ fun y r F1 H1 k1 E1 => ?_
  obtain ⟨t, ht, k1⟩ := k1
  refine k1 F1 H1 [some y] [r] σ rfl E1 _ fun w r1 F2 H2 k2 E2 => ?_
  obtain ⟨π, ks, l, rfl, hsub, hnd, hlt, k2⟩ := k2
  obtain ⟨p1, dx1, vs1, fq1, e1, g1, _⟩ := E2.voAt (i := 0) (w := w) rfl rfl
  subst e1
  refine k2 F2 H2 [some (.ref p1), some y] [_, r] σ rfl E2 _ fun z r2 F3 H3 k3 E3 => ?_
  obtain ⟨kk, n, rfl, hk, k3⟩ := k3
  have hz := kD_dat (E3.imAt (i := 0) rfl rfl)
  have E3' : EnvR c F3 H3 (some (.ref p1) :: some y :: σ) (.vo v π (.nd (.dct ks) l) :: r :: Γ) := E3.pop
  obtain ⟨fp, Ef⟩ := E3'.foot
  obtain ⟨E4, rv, _⟩ := Ef.pop
  obtain ⟨E5, r0, dis⟩ := E4.pop
  obtain ⟨u, hu', hT, hN, hO⟩ := r0.tree ht
  cases hu'
  obtain ⟨_, w', fq', hw', hA, _, _⟩ := rv
  cases hw'
  obtain ⟨x, hx, hv, hTr, hNr, hOr⟩ := E5.sl i _ hΓ
  subst hv
  obtain ⟨f1, a1, a2, a3, a4⟩ := hTr.at hsub hA
  obtain ⟨p, dx, vs, fq, e5, rfl, g2, g3, g4⟩ := a1
  cases e5
  have hn1 := a3 hNr
  have hpi : p1 ∈ fp (i + 1 + 1) := a2 p1 (List.mem_cons_self ..)
  have hpq : p1 ∉ fq := (List.nodup_cons.mp hn1).1
  have hp0 : p1 ∉ fp 1 := fun z => dis p1 z (i) hpi
  have hlen := g4.length
  have g3' : ks.length = l.length := g3
  have hnl : n < l.length := by rw [← g3']; exact kIx_lt hk
  obtain ⟨u0, fa, fb, fc, c1, rfl, c3, c4⟩ := g4.split (n := n) (o := l[n]) (by simp [hnl])
  have hq := List.nodup_append.mp (List.nodup_cons.mp hn1).2
  have hq2 := List.nodup_append.mp hq.2.1
  have hab : ∀ a, a ∈ fa ∨ a ∈ fc → a ∈ fp (i + 1 + 1) := fun a z => a2 a (by
    rcases z with z | z <;> simp [z])
  have hnew : OwnT F3 (L2.upd H3 p1 (.dK (ks.zip (vs.set n y)))) (.nd (.dct ks) (l.set n t)) (.ref p1) (p1 :: (fa ++ (fp 1 ++ fc))) := ⟨p1, dx, vs.set n y, _, rfl, rfl, upd_same, by rw [List.length_set]; exact g3, c4 F3 _ t y (fp 1) (Ex.refl _) (fun a z => upd_ne fun e => hpq (by rw [← e]; rcases z with z | z <;> simp [z])) (hT.mono (Ex.refl _) fun a z => upd_ne fun e => hp0 (by rw [← e]; exact z))⟩
  have hnn : (p1 :: (fa ++ (fp 1 ++ fc))).Nodup := by
    refine List.nodup_cons.mpr ⟨fun z => ?_, List.nodup_append.mpr ⟨hq.1, List.nodup_append.mpr ⟨hN, hq2.2.1, fun a x b y e => ?_⟩, fun a x b y e => ?_⟩⟩
    · rcases List.mem_append.mp z with z | z
      · exact hpq (by simp [z])
      · rcases List.mem_append.mp z with z | z
        · exact hp0 z
        · exact hpq (by simp [z])
    · subst e
      exact dis a x i (hab a (.inr y))
    · subst e
      rcases List.mem_append.mp y with y | y
      · exact dis a y i (hab a (.inl x))
      · exact hq.2.2 a x a (List.mem_append_right _ y) rfl
  obtain ⟨fp', b1, b2, b3⟩ := a4 F3 (L2.upd H3 p1 (.dK (ks.zip (vs.set n y)))) (.nd (.dct ks) (l.set n t)) (p1 :: (fa ++ (fp 1 ++ fc))) (fp 1) (Ex.refl _) (fun a _ z => upd_ne fun e => z (by rw [e]; exact List.mem_cons_self ..)) hnew (fun a z => by
    rcases List.mem_cons.mp z with z | z
    · exact .inl (by rw [z]; exact List.mem_cons_self ..)
    · rcases List.mem_append.mp z with z | z
      · exact .inl (by simp [z])
      · rcases List.mem_append.mp z with z | z
        · exact .inr z
        · exact .inl (by simp [z])) (fun a z => dis a z i) hnn hNr
  have g2' : H3 p1 = some (.dK (ks.zip vs)) := g2
  have hput := kIx_put (y := y) hnd (by rw [hlen, g3']) hk
  refine ⟨p1, L2.upd H3 p1 (.dK (ks.zip (vs.set n y))), rfl, .inl ⟨ks.zip vs, kk, g2', hz, by rw [List.length_zip]; omega, by rw [hput]⟩, ok.nx _ F3 _ σ k3 ⟨?_, E.nv.set rfl⟩⟩
  exact E5.writeX E.nv hΓ hx hpi (fun a z => dis a z) b3 ⟨rfl, b1, b2, fun a z => (b3 a z).elim (fun y => hOr a y) fun y => hO a y⟩
/-- {"k": [], "l": []} -/
theorem wp_dctO2 {k1 k2 : Str} {j1 j2} {q1 q2 q3 q4 : Pos} (hne : k1 ≠ k2) (k : ∀ v, K (.deep v (.nd (.dct [.inr k1, .inr k2]) [.nd .lst [], .nd .lst []]))) : WPe X c (.Dict [some (.Constant (.str k1) j1 q1), some (.Constant (.str k2) j2 q2)] [.List [] q3, .List [] q4] pos) Γ K := fun F H stk S σ hl E Q q => by
  refine we_of (pe_disp (pps_cons pe_str (pe_lst pa_nil) (pps_cons pe_str (pe_lst pa_nil) pps_nil)) rfl rfl (by simp) (Nat.le_of_ble_eq_true rfl)) ?_
  intro p hp
  refine ⟨by decide, fun x hx => ⟨by decide, fun y hy => ?_⟩⟩
  have hxp : x ≠ p := fun e => by rw [e, upd_same] at hx; cases hx
  have hx0 : H x = none := by rw [upd_ne hxp] at hx; exact hx
  have hyx : y ≠ x := fun e => by rw [e, upd_same] at hy; cases hy
  have hyp : y ≠ p := fun e => by rw [upd_ne hyx, e, upd_same] at hy; cases hy
  have hy0 : H y = none := by rw [upd_ne hyx, upd_ne hyp] at hy; exact hy
  have E1 := E.pushOwn (d := .lst []) (o := .lst []) hx0 ⟨[], upd_same, rfl⟩
  have hy1 : L2.upd H x (.lst []) y = none := by rw [upd_ne hyx]; exact hy0
  have E2 := E1.pushOwn (d := .lst []) (o := .lst []) hy1 ⟨[], upd_same, rfl⟩
  obtain ⟨fp, Ef⟩ := E2.foot
  obtain ⟨E3, r0, dis0⟩ := Ef.pop
  obtain ⟨E4, r1, dis1⟩ := E3.pop
  have f0 : fp 0 = [y] := by
    obtain ⟨z, h1, h2, _⟩ := r0
    cases h2
    exact h1
  have f1 : fp 1 = [x] := by
    obtain ⟨z, h1, h2, _⟩ := r1
    cases h2
    exact h1
  have hpH : L2.upd (L2.upd H x (.lst [])) y (.lst []) p = none := by rw [upd_ne hyp.symm, upd_ne hxp.symm]; exact hp
  refine ⟨?_, [(.inr k1, .ref x), (.inr k2, .ref y)], rfl, Nat.le_of_ble_eq_true rfl, ?_⟩
  · rw [upd_ne hyp.symm, upd_ne hxp.symm, upd_same]
  · have hm : mergeK [] [((.inr k1 : Key), V.ref x), (.inr k2, .ref y)] = [(.inr k1, .ref x), (.inr k2, .ref y)] := by
      unfold mergeK
      simp only [List.foldl_cons, List.foldl_nil]
      rw [putK_new _ valV_nil, putK_new _ (by rw [List.nil_append, valV_neg (fun z => hne (by injection z)), valV_nil])]
      rfl
    have hH : L2.upd (L2.upd (L2.upd (L2.upd H p (.dK [])) x (.lst [])) y (.lst [])) p (.dK (mergeK [] [((.inr k1 : Key), V.ref x), (.inr k2, .ref y)])) = L2.upd (L2.upd (L2.upd H x (.lst [])) y (.lst [])) p (.dK ([(.inr k1 : Key), .inr k2].zip [V.ref x, .ref y])) := by
      rw [hm]
      funext b
      by_cases e1 : b = p
      · rw [e1, upd_same, upd_same]
        rfl
      · rw [upd_ne e1, upd_ne e1]
        by_cases e2 : b = y
        · rw [e2, upd_same, upd_same]
        · rw [upd_ne e2, upd_ne e2]
          by_cases e3 : b = x
          · rw [e3, upd_same, upd_same]
          · rw [upd_ne e3, upd_ne e3, upd_ne e1]
    rw [hH]
    refine q _ _ F _ (k (.ref p)) ?_
    refine E4.newX (fx := [x, y]) (fp' := [p, x, y]) hpH (fun a ha j => ?_) (fun a ha => by simpa using ha) fun z1 z2 z3 => ⟨rfl, ?_, ?_, fun a ha => ?_⟩
    · simp only [List.mem_cons, List.not_mem_nil, or_false] at ha
      rcases ha with rfl | rfl
      · exact dis1 a (by rw [f1]; simp) j
      · exact dis0 a (by rw [f0]; simp) (j + 1)
    · refine ⟨p, 0, [.ref x, .ref y], [x, y], rfl, rfl, upd_same, rfl, .ref x, [.ref y], [x], [y], rfl, rfl, ⟨x, 0, [], [], rfl, rfl, by rw [upd_ne hxp, upd_ne hyx.symm, upd_same]; rfl, trivial, rfl, rfl⟩, OwnTs.one ⟨y, 0, [], [], rfl, rfl, by rw [upd_ne hyp, upd_same]; rfl, trivial, rfl, rfl⟩⟩
    · simp [hxp.symm, hyp.symm, hyx.symm]
    · have o0 := r0.own (a := y) (by rw [f0]; simp)
      have o1 := r1.own (a := x) (by rw [f1]; simp)
      simp only [List.mem_cons, List.not_mem_nil, or_false] at ha
      rcases ha with rfl | rfl | rfl
      · exact ⟨z1, z2, z3⟩
      · exact o1.2
      · exact o0.2
/-- xs[j] = e, j of any sign -/
theorem wst_lputN (i : Nat) {x : Str} {l : List DL.D} (hΓ : Γ[i]? = some (.own (.lst l))) (h : WPe X c e Γ fun r => ∃ d, r = .im d ∧ WPe X c ie Γ fun r2 => ∃ (j : Int) (n : Nat), r2 = .im (.int j) ∧ ixN l.length j = some n ∧ D.nx (Γ.set i (.own (.lst (l.set n d))))) (hN : X.N[i]? = some x := by rfl)
    (hv : Vis X.env.scope x := by first | exact Or.inl rfl | exact Or.inr (Or.inl rfl) | exact Or.inr (Or.inr rfl)) (hd : (x == ("__debug__" : Str)) = false := by decide) (hcd : (x == ("__classdict__" : Str)) = false := by decide)
    (ha : ∀ v, assign (.Subscript (.Name x p) ie p2) X.env v = (do
      let ov ← holding [v] (eval (.Name x p) X.env)
      let iv ← holding [v, ov] (eval ie X.env)
      standAt p2
      holding [v, ov, iv] (setItem ov iv v)
      release [v, ov, iv] []) := by intro _; rfl) (hs1 : swapsWithSole [.Subscript (.Name x p) ie p2] e pos.line X.env = pure false := by rfl) (hs2 : swappedStores [.Subscript (.Name x p) ie p2] e X.env = pure none := by rfl)
    (hs3 : (assignEach [.Subscript (.Name x p) ie p2] X.env).map (·.2) = [assign (.Subscript (.Name x p) ie p2) X.env] := by rfl) : WPst X c (.Assign [.Subscript (.Name x p) ie p2] e pos) Γ D := fun F H σ E Ee ok => by
  refine ws_of (ps_asg pe_we (pg_sub (pe_var hN hv hd hcd) pe_we set_list ha) hs1 hs2 hs3) ?_
  refine h F H [] [] σ rfl E.env _ fun v r F1 H1 k1 E1 => ?_
  obtain ⟨d, hfr, k1⟩ := k1
  subst hfr
  have E1' : EnvR c F1 H1 σ Γ := E1.pop
  obtain ⟨q, vs, h1, h2, h3, h4⟩ := E1'.ownAt hΓ
  refine ⟨.ref q, h1, ?_⟩
  refine k1 F1 H1 [some v] [.im d] σ rfl E1 _ fun v2 r2 F2 H2 k2 E2 => ?_
  obtain ⟨j, n, hfr, hn, k⟩ := k2
  subst hfr
  have hy2 : v2 = .int j := E2.imAt (i := 0) rfl rfl
  subst hy2
  have E3 : EnvR c F2 H2 (some v :: σ) (.im d :: Γ) := E2.pop
  have hy := E3.imAt (i := 0) rfl rfl
  have E5 := E3.pop
  obtain ⟨q2, ws, g1, g2, g3, g4⟩ := E5.ownAt hΓ
  rw [h1] at g1
  cases g1
  refine ⟨q, ws, j, n, rfl, rfl, g2, by rw [← g3.length]; exact hn, ok.nx _ F2 _ σ k ⟨?_, E.nv.set rfl⟩⟩
  exact E5.write E.nv hΓ h1 ⟨_, upd_same, g3.set n hy⟩
end
end DL

set_option Elab.async false
set_option linter.all false
set_option pp.maxSteps 300
set_option maxRecDepth 100000
set_option maxHeartbeats 2000000
/-! DL17: a == b != c -/
namespace DL
open PySem PySem.Spec PyProof.Rows L2
section
variable {X : Cx} {c : C0} {Γ : List Sl} {K : Sl → Prop} {a b d : Expr} {pos : Pos}
theorem wp_cmp2 {op op' : CmpOp} (h : WPe X c a Γ fun ra => WPe X c b Γ fun rb => ∃ da db, frz ra = .im da ∧ frz rb = .im db ∧ OpD X c (compareOp op) (.im da) (.im db) fun r => ∃ k, r = .im (.bl k) ∧ (k = true → WPe X c d Γ fun rd => OpD X c (compareOp op') (.im db) (frz rd) K) ∧ (k = false → K (.im (.bl false))))
    (hm : lastMarks [op, op'] [b, d] = false := by with_unfolding_all rfl) : WPe X c (.Compare a [op, op'] [b, d] pos) Γ K := fun F H stk S σ hl E Q q => by
  refine we_of (pe_chain opr_rw opr_rw pe_we pe_we pe_we hm) ?_
  refine h F H stk S σ hl E _ fun x ra F1 H1 k1 E1 => ?_
  obtain ⟨F1, E1⟩ := E1.frzTop
  refine k1 F1 H1 (some x :: stk) (frz ra :: S) σ (by simp [hl]) E1 _ fun y rb F2 H2 k2 E2 => ?_
  obtain ⟨F2, E2⟩ := E2.frzTop
  obtain ⟨da, db, e1, e2, k2⟩ := k2
  rw [e1, e2] at E2
  have hy := E2.imAt (i := 0) rfl rfl
  have hx := E2.imAt (i := 1) (v := x) rfl rfl
  have E0 : EnvR c F2 H2 (stk ++ σ) (S ++ Γ) := E2.pop.pop
  refine k2 F2 H2 _ _ x y (((E0.push hy).push hx).push hy) _ fun v r F3 H3 k3 E3 => ?_
  obtain ⟨k, rfl, kt, kf⟩ := k3
  have hv : v = .bl k := E3.imAt (i := 0) rfl rfl
  refine ⟨k, hv, ?_⟩
  cases k with
  | true =>
    rw [if_pos rfl]
    refine kt rfl F3 H3 (some y :: stk) (.im db :: S) σ (by simp [hl]) E3.pop _ fun z rd F4 H4 k4 E4 => ?_
    obtain ⟨F4, E4⟩ := E4.frzTop
    exact k4 F4 H4 _ _ y z E4 Q fun v r F' H' kr E' => q v r F' H' kr E'
  | false =>
    rw [if_neg (by decide)]
    exact q (.bl false) (.im (.bl false)) F3 H3 (kf rfl) (EnvR.push (σ := stk ++ σ) (Γ := S ++ Γ) E3.pop.pop rfl)
/-- x is not y, flags -/
theorem od_notB {x y : Bool} (k : K (.im (.bl (!decide (x = y))))) : OpD X c (compareOp .IsNot) (.im (.bl x)) (.im (.bl y)) K :=
  opd_val (dr := .bl (!decide (x = y))) op_notBl (fun F H v w _ hx hy => ⟨.bl (!decide (x = y)), rfl, fun Q q => ⟨x, y, hx, hy, q⟩⟩) k
end
end DL

set_option Elab.async false
set_option linter.all false
set_option pp.maxSteps 300
set_option maxRecDepth 100000
set_option maxHeartbeats 2000000
/-! DL18: errors: raise, a def that raises -/
namespace DL
open PySem PySem.Spec PyProof.Rows L2
/-- an own class of errors without own __init__, as it stands behind the top -/
structure OwnE (K : PySem.W.Frag) (mg : Str → Option Value) (x : Str) (C : Addr) : Prop where
  q : ∃ (bmB : List Value) (B newId initId : String), ExcBaseFacts B newId initId bmB ∧ PySem.W.excIn K C bmB newId = true
  g : mg x = some (.ref C)
  k : PySem.W.keepIn K (.ref C) = true
  r1 : PySem.W.subIn K (.ref C) (.type "BaseException") = some true
  r2 : PySem.W.typeIn K (.ref C) = some (.type "type")
/-- an error of the class may leave -/
def Rz (X : Cx) (c : C0) (cls : Value) : Prop := ∃ E : XK, Takes X (fun k d _ H => E k d H) ∧ ∀ F H, EnvR c F H [] [] → E cls none H
section
variable {X : Cx} {c : C0} {Γ : List Sl} {D : DEnds} {x : Str} {C : Addr} {pos p cpos : Pos}
theorem pmk_own0 (O : OwnE X.K X.mg x C) (hg : Gl X x) (hdb : (x == ("__debug__" : Str)) = false := by decide) : PMk X (.Call (.Name x p) [] [] cpos) (fun _ H Q => Q (.ref C) none H) := by
  intro pins s σ H Q I h
  obtain ⟨bmB, B, newId, initId, F, q⟩ := O.q
  refine wpAny_Call_Name_kw (ld_glob I hg O.g ?_ hdb)
  refine PySem.W.callWith_K0 I.kIn O.k ?_
  obtain ⟨bm, N, nm, qn, bs, hdct, sn, sub, ab, col, dd, k0, k1, k2, k3, k5, mN, hC, hN, hni, T⟩ := exc_obj I.kIn q
  exact wpAny_call_exc_subT F T hC hN hni (fun h' e hm => mk_of I hm (raises_own O.r1 O.r2) h (I.hok.gone hm.new)) (Nat.zero_le _)
/-- nothing of the slots -/
theorem EnvR.none_ {F H : Hp} {σ : L2.St} (E : EnvR c F H σ Γ) : EnvR c F H [] [] where
  len := rfl
  ex0 := E.ex0
  ex := E.ex
  gr := E.gr
  fr := E.fr
  nw := E.nw
  hk := E.hk
  sl := ⟨fun _ => [], fun i s h => by simp at h, fun i j p z => by cases z⟩
/-- raise C() -/
theorem wst_raise (O : OwnE X.K X.mg x C) (hc : X.calm = true) (R : Rz X c (.ref C)) (hg : Gl X x := by rfl) (hdb : (x == ("__debug__" : Str)) = false := by decide) : WPst X c (.Raise (some (.Call (.Name x p) [] [] cpos)) none pos) Γ D := fun F H σ E Ee ok => by
  obtain ⟨W, tk, hw⟩ := R
  refine ws_of (ps_raise hc tk (pmk_own0 O hg hdb)) ?_
  exact hw F H E.env.none_
end
/-- a def that raises at such arguments -/
def SpE (n : Nat) (pre : List Sl → Prop) (cls : Value) : Sp := fun vs H _ E => vs.length = n ∧ ∃ (c : C0) (F : Hp) (rs : List Sl), rs.length = n ∧ pre rs ∧ NV rs ∧ c.F0 = F ∧ c.H0 = H ∧ EnvR c F H (vs.map some) rs ∧ ∀ F' H', EnvR c F' H' [] [] → E cls none H'
theorem fn_E {P : Program} {w : World} {K : PySem.W.Frag} {mg : Str → Option Value} {base : Heap} {x qual : Str} {st : Stmt} {f : Addr} {fd : FuncData} {N ps : List Str} {k : Nat} {cls : Value} (F : Fun K x qual st f fd) (S : FnScope N ps (defScope st)) {pre : List Sl → Prop}
    (hb : ∀ (cdv : Value) (A : Around) (outer : List Env) (s : Shared) (H : Hp) (E : XK) (c : C0) (rs : List Sl), Room k (A.deeper (PyProof.Rows.envOfC qual (defScope st) s.heap.objs.size f cdv)) → rs.length = ps.length → pre rs →
      Rz (cxOf (L2.CX P w) P w K mg base N qual (defScope st) f cdv A outer s H E) c cls →
      WPs (cxOf (L2.CX P w) P w K mg base N qual (defScope st) f cdv A outer s H E) c (defBody st) (rs ++ List.replicate (N.length - ps.length) .any) { nx := fun _ => False, rt := fun _ => False }) : FnOk P w K mg base (L2.CX P w) (k + 1) f fd ps (SpE ps.length pre cls) := by
  obtain ⟨oc, od, kV, doc, pm, an, cdv, ct, osl, rfl, lk, hcd⟩ := F.ex
  refine fn_of (sp := SpE ps.length pre cls) lk hcd S (fun vs H Q E h => h.1) (fun A outer s H vs Q E hr h => ⟨_, pss_wss, ?_⟩)
  obtain ⟨hl, c, F1, rs, hrl, hpre, nv, e1, e2, E1, q⟩ := h
  have hst : L2.start N vs = vs.map some ++ List.replicate (N.length - ps.length) none := by
    unfold L2.start
    rw [hl]
  rw [hst]
  exact hb cdv A outer s H E c rs hr hrl hpre ⟨E, takes_of rfl rfl rfl rfl, q⟩ F1 H _ ⟨E1.rest, nv.rest⟩ _ ⟨fun Γ F H σ hn E' => hn.elim, fun r v F H hn E' => hn.elim, fun Γ F H σ hn E' => hn.elim, fun Γ F H σ hn E' => hn.elim⟩
section
variable {X : Cx} {c : C0} {Γ : List Sl} {K : Sl → Prop} {pos p : Pos} {k : Nat} {f : Addr} {fd : FuncData} {ps : List Str} {pre : List Sl → Prop} {x : Str} {e : Expr} {es : List Expr} {cls : Value}
/-- f(e, ..), which raises -/
theorem wp_callE (G : FnOk X.prog X.w X.K X.mg X.base (L2.CX X.prog X.w) k f fd ps (SpE ps.length pre cls)) (R : Rz X c cls) (hr : Room k X.A) (hm : X.mg x = some (.ref f)) (hk : PySem.W.keepIn X.K (.ref f) = true) (hb : Binds X.K fd ps [])
    (h : WPa X c (e :: es) Γ fun rs => ∃ ds : List DL.D, rs = ds.map Sl.im ∧ ds.length = ps.length ∧ pre rs) (hg : Gl X x := by rfl) (hn : starEach (e :: es) X.env = (false, eval e X.env) :: starEach es X.env := by rfl) (hdb : (x == ("__debug__" : Str)) = false := by decide)
    (hpl : (backTo pos (starEach es X.env)).any (·.1) = false := by rfl) : WPe X c (.Call (.Name x p) (e :: es) [] pos) Γ K := fun F H stk S σ hl E Q q => by
  obtain ⟨W, tk, hw⟩ := R
  refine we_of (pe_call (E := W) G hr hg hm hk hb .nil (passes_call tk fun _ _ _ _ h => h) pa_wa hdb hn hpl) ?_
  refine h F H stk S σ hl E _ fun vs rs F1 H1 k1 hl1 E1 => ?_
  obtain ⟨ds, e1, hlen, hpre⟩ := k1
  subst e1
  have hvl : vs.length = ds.length := by simpa using hl1
  obtain ⟨E2, hd⟩ := EnvR.dats hvl E1
  rw [List.append_nil]
  refine ⟨by rw [hvl, hlen], c0 F1 H1, F1, ds.map Sl.im, by simpa using hlen, hpre, nv_ims ds, rfl, rfl, env_args E2.ex hd trivial (fun a z => by cases z) rfl rfl, fun F' H' E' => ?_⟩
  have E3 : EnvR (c0 F1 H1) F' H' [some .non] [.im .non] := E'.push (d := .non) rfl
  refine hw F' H' (E2.ret E3 rfl rfl (fun a z => by cases z) ?_ (fun z => by cases z) rfl).only.pop
  refine c.stab H1 H' (fun a w => ?_) (fun a φ h => E'.fr a _ h (by intro z; cases z)) E2.hk
  cases z : H1 a with
  | none => exact absurd z (E2.wne w)
  | some o => exact E'.fr a o z (by intro z; cases z)
end
end DL

set_option Elab.async false
set_option linter.all false
set_option pp.maxSteps 300
set_option maxRecDepth 100000
set_option maxHeartbeats 2000000
/-! DL19: a lambda handed to a def: one table changes, all else stays -/
namespace DL
open PySem PySem.Spec PyProof.Rows L2
/-- all but what stands at P stays -/
def ButP (P : Addr) (H H' : Hp) : Prop := ∀ b, b ≠ P → H b ≠ none → H' b = H b
theorem ButP.refl (P : Addr) (H : Hp) : ButP P H H := fun _ _ _ => rfl
section
variable {X : Cx} {pins : List (Addr × Obj)} {σ : L2.St} {H : Hp} {s : Shared}
theorem not_frame (I : Inv X pins σ H s) {f : Addr} (hf : s.heap.objs.size ≤ f) : f ∉ frs X.stack := fun z => by
  rcases List.mem_cons.mp (I.stkSub _ z) with e | e
  · have h1 := I.lt
    rw [← e] at h1
    exact absurd (Nat.lt_of_lt_of_le h1 hf) (Nat.lt_irrefl _)
  · exact I.nofs hf e
/-- the lambda is made -/
theorem lam_mk {P cd : Addr} {params : Arguments} {body : Expr} {scope : Scope} {pos : Pos} {Ex : Value → Shared → Prop} {Q : Value → Shared → Prop} (I : Inv X pins σ H s)
    (TB : LamX.TabB X.base X.mg cd P) (hcode : X.env.code = .ref cd) (t : LamX.TabS H P (X.env.qual ++ "<lambda>")) (hdef : defaultsOf params X.env = ([], []))
    (hfree : ∀ y ∈ scope.names, y.2 = .free → ∃ c, X.env.cells.lookup y.1 = some c)
    (h : ∀ (f c' : Addr) (pm ctv : Value) (H1 : Hp) (s' : Shared), Inv X pins σ H1 s' → ButP P H H1 → LamX.TabS H1 P (X.env.qual ++ "<lambda>") →
      s'.heap.get? f = some (PySem.W.kla_obj "<lambda>" (X.env.qual ++ "<lambda>") params body scope (cloFrom X.env.cells scope.names []) pm c' ctv) →
      H1 f = none → f ∉ frs X.stack → H1 c' = some (LamX.CodeO c' (X.env.qual ++ "<lambda>")) → Q (.ref f) s') :
    wpAny (model X.prog X.w) X.A (eval (.Lambda params body scope pos) X.env) Q Ex s := by
  obtain ⟨tb, hP, okT, know⟩ := t
  have atP : s.heap.get? P = some { cls := .none, data := .fields tb } := I.hok P _ hP
  refine PySem.W.kla_eval hdef ?_
  cases found : codeAmong pos tb.toList with
  | some cv =>
    -- its code object stands in the table
    obtain ⟨c', e, hco⟩ := know pos cv found
    subst e
    refine PySem.W.kla_makeFunctionHit (mg := X.mg) (c := cd) (P := P) (ps := tb) (closure_ok hfree) I.ok.glob (I.mod.glob.keeps I.bk) hcode (TB.code.keeps I.bk) atP okT found (TB.bm.keeps I.bk) fun ctv h' tk kp hsz => ?_
    have I1 : Inv X pins σ H { s with heap := h'.push (PySem.W.kla_obj "<lambda>" (X.env.qual ++ "<lambda>") params body scope (cloFrom X.env.cells scope.names []) ((X.mg "__name__").getD .none) c' ctv), toks := tk } :=
      I.kept fun b o e => Heap.get?_push_of_some _ (kp b o e)
    exact h h'.objs.size c' _ ctv H _ I1 (ButP.refl P H) ⟨tb, hP, okT, know⟩ (Heap.get?_push_size _ rfl) (I.hok.fresh hsz) (not_frame I hsz) hco
  | none =>
    refine PySem.W.kla_makeFunction (mg := X.mg) (c := cd) (P := P) (ps := tb) (closure_ok hfree) I.ok.glob (I.mod.glob.keeps I.bk) hcode (TB.code.keeps I.bk) atP okT found TB.gP (TB.bm.keeps I.bk) fun c' ctv h' tk kp hge hlt hrec htb => ?_
    obtain ⟨c2, oc, vs, tq, e2, hoc, hd, hv⟩ := hrec
    cases e2
    have big : s.heap.objs.size ≤ h'.objs.size := by omega
    have new : H c' = none := I.hok.fresh hge
    have nPc : P ≠ c' := fun z => by
      rw [← z, hP] at new
      cases new
    obtain ⟨tb', etb⟩ : ∃ tb' : Array Value, tb' = tb ++ #[rawInt pos.line, rawInt pos.col, .ref c'] := ⟨_, rfl⟩
    obtain ⟨H1, eH1⟩ : ∃ H1 : Hp, H1 = L2.upd (L2.upd H P (.tbl tb')) c' (LamX.CodeO c' (X.env.qual ++ "<lambda>")) := ⟨_, rfl⟩
    have I1 := LamX.inv_table (t' := tk) (more := #[rawInt pos.line, rawInt pos.col, .ref c']) (h' := h'.push (PySem.W.kla_obj "<lambda>" (X.env.qual ++ "<lambda>") params body scope (cloFrom X.env.cells scope.names []) ((X.mg "__name__").getD .none) c' ctv)) I hP
      (fun b o hb e => Heap.get?_push_of_some _ (kp b o hb e)) (Heap.get?_push_of_some _ htb) hge ⟨oc, vs, tq, Heap.get?_push_of_some _ hoc, hd, hv⟩
    rw [← etb, ← eH1] at I1
    have same : ButP P H H1 := fun b hb hn => by
      have nb : b ≠ c' := fun z => hn (by rw [z]; exact new)
      rw [eH1, upd_ne nb, upd_ne hb]
    have H1P : H1 P = some (.tbl tb') := by rw [eH1, upd_ne nPc, upd_same]
    have H1c : H1 c' = some (LamX.CodeO c' (X.env.qual ++ "<lambda>")) := by rw [eH1, upd_same]
    have eL : tb'.toList = tb.toList ++ [rawInt pos.line, rawInt pos.col, .ref c'] := by
      rw [etb]
      simp
    refine h h'.objs.size c' _ ctv H1 _ I1 same ⟨tb', H1P, ?_, fun p' cv hcv => ?_⟩ (Heap.get?_push_size _ rfl) ?_ (not_frame I big) H1c
    · rw [eL]
      exact PySem.TriplesOk_snoc _ _ _ _ okT
    · rw [eL] at hcv
      rcases LamX.among_app _ okT hcv with z | z
      · obtain ⟨c0, e1, e2⟩ := know p' cv z
        have nP0 : c0 ≠ P := fun z2 => by
          rw [z2, hP] at e2
          exact LamX.codeO_ne (c := P) (q := X.env.qual ++ "<lambda>") tb (Option.some.inj e2).symm
        exact ⟨c0, e1, by rw [same c0 nP0 (by rw [e2]; simp), e2]⟩
      · exact ⟨c', z, H1c⟩
    · have m1 : h'.objs.size ≠ c' := Nat.ne_of_gt hlt
      have m2 : h'.objs.size ≠ P := Nat.ne_of_gt (Nat.lt_of_lt_of_le (Heap.lt_size atP) big)
      rw [eH1, upd_ne m1, upd_ne m2]
      exact I.hok.fresh big
end
/-- f(lambda: body) -/
def tLm (P : Addr) (q : Str) (TT : (XK → Hp → VK → Prop) → Hp → VK → Prop) (t : XK → TE) : TE := fun σ H Q => LamX.TabS H P q ∧ ∀ H1, ButP P H H1 → LamX.TabS H1 P q → TT (fun E H' Q' => t E σ H' Q') H1 Q
section
variable {X : Cx}
theorem pe_lam {TT : (XK → Hp → VK → Prop) → Hp → VK → Prop} {x a : Str} {g cd P : Addr} {k : Nat} {st : Stmt} {fd : FuncData} {Ng : List Str} {params : Arguments} {body : Expr} {scope : Scope} {t : XK → TE} {p lpos pos : Pos}
    (F : Fun X.K x x st g fd) (Sg : FnScope Ng [a] (defScope st)) (hN0 : Ng[0]? = some a) (hg : Gl X x) (hm : X.mg x = some (.ref g)) (hb : L2.Binds X.K fd [a] [])
    (hG : ∀ cdv : Value, LamX.GivesTo X Ng x (defScope st) g cdv (defBody st) a (X.env.qual ++ "<lambda>") TT)
    (TB : LamX.TabB X.base X.mg cd P) (hcode : X.env.code = .ref cd) (hr : Room (k + 2) X.A) (L : LamX.LamS X.env.scope scope) (hdef : defaultsOf params X.env = ([], []))
    (hbind : ∀ (q : Str) (cl : List (Str × Addr)) (pm cv ctv : Value), bindArgs (PySem.W.kla_fn "<lambda>" q params body scope cl pm cv ctv) ⟨[], []⟩ = pure [])
    (hbody : ∀ (A : Around) (outer : List Env) (s : Shared) (H : Hp) (E : XK) (f c' : Addr), Room k (A.deeper (LamX.lamEnv X scope s.heap.objs.size f c')) → PE (LamX.lamCx X A outer s H E scope f c') body (t E))
    (hva : Vis (defScope st) a) (hdb : (x == ("__debug__" : Str)) = false := by decide) (hd : (a == ("__debug__" : Str)) = false := by decide) (hcd : (a == ("__classdict__" : Str)) = false := by decide) :
    PE X (.Call (.Name x p) [.Lambda params body scope lpos] [] pos) (tLm P (X.env.qual ++ "<lambda>") TT t) := by
  refine ⟨fun pins s σ H Q I h => ?_⟩
  obtain ⟨tab, h⟩ := h
  obtain ⟨oc, od, kV, doc, pm, an, cdv, ct, osl, efd, lk, hcg⟩ := F.ex
  subst efd
  refine wpAny_Call_Name_kw (ld_glob I hg hm ?_ hdb)
  refine PySem.W.callWith_K (h₀ := X.base) I.ok.mod.kin F.kp ?_ (by rfl) (by rfl)
  refine Calls.spliced_cons (lam_mk I TB hcode tab hdef (L.has I.ok) fun f c' pm' ctv H1 s' I1 same tab1 hf hfn hfr hco => ?_)
  refine Calls.spliced_nil ⟨I1.kIn, ?_⟩
  have run : codeAny (model X.prog X.w) X.A (.call (.ref g) ⟨[.ref f], []⟩) (CR C8.CX0 X.stack X.prog X.w H1 s' Q C8.E0) s' := by
    refine LamX.run_ofS (N := Ng) (ps := [a]) (us := [.ref f]) (vs := [.ref f]) lk hcg Sg hr I1.env0 (hb s' [.ref f] I1.kIn rfl) (.cons rfl .nil) rfl fun hr' => ?_
    obtain ⟨t', ht', hq'⟩ := hG cdv f c' s' H1 Q (fun E H' Q' => t E σ H' Q')
      (fun W pn xe E p1 p2 tk hW => LamX.pe_act (i := 0) I1 L hf hfn hfr (hbind _ _ _ _ _) tk hW hr' (fun A outer s H hr2 => hbody A outer s H E f c' hr2) hN0 hva hd hcd) hco (h H1 same tab1)
    exact ⟨t', ht'.nox, hq'⟩
  refine wpAny_call (codeAny_mono run fun r s2 hq => ?_)
  cases r with
  | error e => exact (show False from hq).elim
  | ok fl =>
    cases fl with
    | ret u => exact I1.after hq
    | next => exact False.elim hq
    | brk => exact False.elim hq
    | cont => exact False.elim hq
end
end DL

set_option Elab.async false
set_option linter.all false
set_option pp.maxSteps 300
set_option maxRecDepth 100000
set_option maxHeartbeats 2000000
/-! DL20: tables borne by C0; told(lambda: ..); the hand beside tables -/
namespace DL
open PySem PySem.Spec PyProof.Rows L2
/-- c bears the table at P, of lambdas of the name q -/
structure TabC (c : C0) (P : Addr) (q : Str) : Prop where
  w : P ∈ c.W
  t : ∀ H, c.hok H → LamX.TabS H P q
  s : ∀ H H', c.hok H → ButP P H H' → LamX.TabS H' P q → c.hok H'
/-- c bears a hand of draws, beside other things -/
structure HandC (c : C0) : Prop where
  ex : ∃ q1 q2, c.hp ≠ q1 ∧ c.hp ≠ q2 ∧ q1 ≠ q2 ∧ (∀ a ∈ [c.hp, q1, q2], a ∈ c.W) ∧ (∀ H, c.hok H → HandAt c.hp q1 q2 H) ∧
    ∀ H H', c.hok H → HandAt c.hp q1 q2 H' → (∀ a o, H a = some o → a ∉ [c.hp, q1, q2] → H' a = some o) → c.hok H'
theorem TabC.at {c : C0} {P : Addr} {q : Str} (T : TabC c P q) (F H : Hp) : TabC (c.at F H) P q := ⟨T.w, T.t, T.s⟩
theorem HandC.at {c : C0} (T : HandC c) (F H : Hp) : HandC (c.at F H) := ⟨T.ex⟩
theorem tabS_stay {H H' : Hp} {P : Addr} {q : Str} (t : LamX.TabS H P q) (h : H' P = H P) (x : ExtX H H') : LamX.TabS H' P q := by
  obtain ⟨ps, h1, h2, h3⟩ := t
  refine ⟨ps, by rw [h]; exact h1, h2, fun pos cv hc => ?_⟩
  obtain ⟨c, e1, e2⟩ := h3 pos cv hc
  exact ⟨c, e1, x c _ e2⟩
theorem tabS_ne {H : Hp} {P : Addr} {q : Str} (t : LamX.TabS H P q) : H P ≠ none := by
  obtain ⟨ps, h1, _⟩ := t
  rw [h1]
  exact Option.some_ne_none _
/-- a hand and tables -/
def cTab (F H : Hp) (p q1 q2 : Addr) (Ts : List (Addr × Str)) : C0 where
  F0 := F
  H0 := H
  W := [p, q1, q2] ++ Ts.map (·.1)
  hp := p
  hok := fun H => HandAt p q1 q2 H ∧ ∀ t ∈ Ts, LamX.TabS H t.1 t.2
  stab := fun H H' h x ⟨⟨gs, ss, su, tu, h1, h2, h3, h4⟩, ht⟩ => ⟨⟨gs, ss, su, tu, by rw [h p (by simp)]; exact h1, by rw [h q1 (by simp)]; exact h2, by rw [h q2 (by simp)]; exact h3, h4⟩,
    fun t hm => tabS_stay (ht t hm) (h t.1 (List.mem_append_right _ (List.mem_map.mpr ⟨t, hm, rfl⟩))) x⟩
  wl := fun H ⟨⟨gs, ss, su, tu, h1, h2, h3, h4⟩, ht⟩ a ha => by
    rcases List.mem_append.mp ha with ha | ha
    · simp only [List.mem_cons, List.not_mem_nil, or_false] at ha
      rcases ha with rfl | rfl | rfl
      · rw [h1]; exact Option.some_ne_none _
      · rw [h2]; exact Option.some_ne_none _
      · rw [h3]; exact Option.some_ne_none _
    · obtain ⟨t, hm, rfl⟩ := List.mem_map.mp ha
      exact tabS_ne (ht t hm)
theorem tabS_but {H H' : Hp} {P P2 : Addr} {q q2 : Str} (t : LamX.TabS H P q) (t2 : LamX.TabS H P2 q2) (hne : P ≠ P2) (b : ButP P2 H H') : LamX.TabS H' P q := by
  obtain ⟨ps, h1, h2, h3⟩ := t
  obtain ⟨ps2, g1, _⟩ := t2
  refine ⟨ps, by rw [b P hne (by rw [h1]; exact Option.some_ne_none _)]; exact h1, h2, fun pos cv hc => ?_⟩
  obtain ⟨c, e1, e2⟩ := h3 pos cv hc
  have nc : c ≠ P2 := fun z => by
    rw [z, g1] at e2
    exact LamX.codeO_ne (c := P2) (q := q) ps2 (Option.some.inj e2).symm
  exact ⟨c, e1, by rw [b c nc (by rw [e2]; exact Option.some_ne_none _)]; exact e2⟩
theorem cTab_tab {F H : Hp} {p q1 q2 : Addr} {Ts : List (Addr × Str)} {P : Addr} {q : Str} (hm : (P, q) ∈ Ts) (hu : ∀ t ∈ Ts, t.1 = P → t.2 = q) : TabC (cTab F H p q1 q2 Ts) P q where
  w := List.mem_append_right _ (List.mem_map.mpr ⟨_, hm, rfl⟩)
  t := fun H h => h.2 _ hm
  s := fun H H' ⟨⟨gs, ss, su, tu, h1, h2, h3, h4⟩, ht⟩ b t' => by
    obtain ⟨ps, g1, _⟩ := ht _ hm
    have g1 : H P = some (.tbl ps) := g1
    have ne : ∀ {a : Addr} {o : HO}, H a = some o → (∀ ps, o ≠ .tbl ps) → H' a = some o := fun {a o} e n => by
      rw [b a (fun z => ?_) (by rw [e]; exact Option.some_ne_none _)]
      · exact e
      · rw [z, g1] at e
        exact n ps (Option.some.inj e).symm
    refine ⟨⟨gs, ss, su, tu, ne h1 fun _ z => by (cases z), ne h2 fun _ z => by (cases z), ne h3 fun _ z => by (cases z), h4⟩, fun t hm' => ?_⟩
    by_cases e : t.1 = P
    · rw [hu t hm' e, e]
      exact t'
    · exact tabS_but (ht t hm') (ht _ hm) e b
theorem cTab_hand {F H : Hp} {p q1 q2 : Addr} {Ts : List (Addr × Str)} (h1 : p ≠ q1) (h2 : p ≠ q2) (h3 : q1 ≠ q2) (hT : ∀ t ∈ Ts, t.1 ∉ [p, q1, q2]) : HandC (cTab F H p q1 q2 Ts) where
  ex := ⟨q1, q2, h1, h2, h3, fun a ha => List.mem_append_left _ ha, fun H h => h.1, fun H H' h hh k => ⟨hh, fun t hm => by
    have ht := h.2 t hm
    refine tabS_stay ht ?_ fun a φ e => ?_
    · obtain ⟨ps, g1, _⟩ := ht
      rw [k t.1 _ g1 (hT t hm), g1]
    · refine k a _ e fun z => ?_
      obtain ⟨gs, ss, su, tu, e1, e2, e3, _⟩ := h.1
      simp only [List.mem_cons, List.not_mem_nil, or_false] at z
      rcases z with rfl | rfl | rfl
      · rw [show H a = _ from e1] at e; cases e
      · rw [show H a = _ from e2] at e; cases e
      · rw [show H a = _ from e3] at e; cases e⟩⟩
section
variable {c : C0} {F H H1 : Hp} {σ : L2.St} {Γ : List Sl} {P : Addr} {q : Str}
/-- the environment behind the making of a lambda -/
theorem EnvR.lam (E : EnvR c F H σ Γ) (T : TabC c P q) (b : ButP P H H1) (t : LamX.TabS H1 P q) : EnvR c F H1 σ Γ := by
  have keep : ∀ a o, H a = some o → a ∉ c.W → H1 a = some o := fun a o h w => by
    rw [b a (fun z => w (by rw [z]; exact T.w)) (by rw [h]; exact Option.some_ne_none _)]
    exact h
  refine E.step (Gr.refl F H) (fun a o h => keep a o (E.ex a o h) fun w => ?_) keep (T.s H H1 E.hk b t)
  rw [E.nw a w] at h
  cases h
end
/-- told: (w1, what is told), or (w2,) of an error of the class -/
def TTd (cls : Value) (w1 w2 : Str) : (XK → Hp → VK → Prop) → Hp → VK → Prop := fun tl H Q =>
  tl (fun k d H' => k = cls ∧ d = none ∧ ∀ p, H' p = none → Q (.ref p) (L2.upd H' p (.tup [.str w2]))) H fun v H' => ∀ p, H' p = none → Q (.ref p) (L2.upd H' p (.tup [.str w1, v]))
section
variable {X : Cx} {c : C0} {Γ : List Sl} {K : Sl → Prop}
theorem wp_told {w1 w2 x a : Str} {C g cd P : Addr} {k : Nat} {st : Stmt} {fd : FuncData} {Ng : List Str} {params : Arguments} {body : Expr} {scope : Scope} {p lpos pos : Pos} (T : TabC c P (X.env.qual ++ "<lambda>"))
    (Fg : Fun X.K x x st g fd) (Sg : FnScope Ng [a] (defScope st)) (hN0 : Ng[0]? = some a) (hm : X.mg x = some (.ref g)) (hb : L2.Binds X.K fd [a] [])
    (hG : ∀ cdv : Value, LamX.GivesTo X Ng x (defScope st) g cdv (defBody st) a (X.env.qual ++ "<lambda>") (TTd (.ref C) w1 w2)) (TB : LamX.TabB X.base X.mg cd P) (hcode : X.env.code = .ref cd) (hr : Room (k + 2) X.A)
    (hva : Vis (defScope st) a) (L : LamX.LamS X.env.scope scope)
    (h : (∀ (E : XK) (A : Around) (outer : List Env) (s : Shared) (F0 HH H0 : Hp) (f c' : Addr), Room k (A.deeper (LamX.lamEnv X scope s.heap.objs.size f c')) → WPe (LamX.lamCx X A outer s H0 E scope f c') (c.at F0 HH) body (Γ.map lookS) fun r => ∃ d, frz r = .im d ∧ K (.im (.tup [.str w1, d]))) ∨
      (K (.im (.tup [.str w2])) ∧ ∀ (E : XK) (A : Around) (outer : List Env) (s : Shared) (F0 HH H0 : Hp) (f c' : Addr), Room k (A.deeper (LamX.lamEnv X scope s.heap.objs.size f c')) → Rz (LamX.lamCx X A outer s H0 E scope f c') (c.at F0 HH) (.ref C) →
        WPe (LamX.lamCx X A outer s H0 E scope f c') (c.at F0 HH) body (Γ.map lookS) fun _ => False))
    (hg : Gl X x := by rfl) (hdef : defaultsOf params X.env = ([], []) := by rfl)
    (hbind : ∀ (q : Str) (cl : List (Str × Addr)) (pm cv ctv : Value), bindArgs (PySem.W.kla_fn "<lambda>" q params body scope cl pm cv ctv) ⟨[], []⟩ = pure [] := by intro _ _ _ _ _; rfl)
    (hdb : (x == ("__debug__" : Str)) = false := by decide) (hd : (a == ("__debug__" : Str)) = false := by decide) (hcd : (a == ("__classdict__" : Str)) = false := by decide) :
    WPe X c (.Call (.Name x p) [.Lambda params body scope lpos] [] pos) Γ K := fun F H stk S σ hl E Q q => by
  refine we_of (pe_lam (t := fun E σ H Q => ∀ (A : Around) (outer : List Env) (s0 : Shared) (H0 : Hp) (f c' : Addr), Room k (A.deeper (LamX.lamEnv X scope s0.heap.objs.size f c')) → WE (LamX.lamCx X A outer s0 H0 E scope f c') body σ H Q)
    Fg Sg hN0 hg hm hb hG TB hcode hr L hdef hbind (fun A outer s H E f c' hr2 => ⟨fun pins s1 σ H1 Q I h => h A outer s H f c' hr2 pins s1 I⟩) hva hdb hd hcd) ?_
  refine ⟨T.t H E.hk, fun H1 same tab => ?_⟩
  have E1 := E.lam T same tab
  have E2 : EnvR (c.at F H1) F H1 (stk ++ σ) ((S ++ Γ).map lookS) := E1.look (Gr.refl F H1) (Keep.refl _ _)
  rw [List.map_append] at E2
  have hl2 : stk.length = (S.map lookS).length := by simp [hl]
  rcases h with h | ⟨hk, h⟩
  · intro A outer s0 H0 f c' hr2
    refine h _ A outer s0 F H1 H0 f c' hr2 F H1 stk (S.map lookS) σ hl2 E2 _ fun v r F' H' kr E' p hp => ?_
    obtain ⟨d, hd, kd⟩ := kr
    obtain ⟨F2, E3⟩ := E'.frzTop
    rw [hd] at E3
    have hv := E3.imAt (i := 0) rfl rfl
    have E4 := (E3.pop.pushTup (l := [.str w1, d]) hp (.cons rfl (.one hv))).only
    exact q _ _ _ _ kd (E1.ret E4 rfl rfl (fun a z => z) E4.hk (fun z => by cases z) rfl)
  · intro A outer s0 H0 f c' hr2
    refine h _ A outer s0 F H1 H0 f c' hr2 ⟨_, takes_of rfl rfl rfl rfl, fun F' H' E' => ⟨rfl, rfl, fun p hp => ?_⟩⟩ F H1 stk (S.map lookS) σ hl2 E2 _ fun v r F' H' kr E' => kr.elim
    have E4 := (E'.pushTup (l := [.str w2]) hp (.one rfl)).only
    exact q _ _ _ _ hk (E1.ret E4 rfl rfl (fun a z => z) E4.hk (fun z => by cases z) rfl)
end
end DL

set_option Elab.async false
set_option linter.all false
set_option pp.maxSteps 300
set_option maxRecDepth 100000
set_option maxHeartbeats 2000000
/-! DL21: defs that bear tables: promises, calls, the law's own call -/
namespace DL
open PySem PySem.Spec PyProof.Rows L2
/-- a def whose code object is known -/
structure FunC (K : PySem.W.Frag) (x : Str) (st : Stmt) (f : Addr) (fd : FuncData) (cd : Addr) : Prop where
  ex : ∃ (oc : Value) (od : Option Addr) (kV doc pm : Value) (an : Option Addr) (ct : Value) (osl : Array (Option Value)),
    fd = PySem.W.fnOf x x (defArgs st) (defBody st) (defScope st) .none kV doc pm an (.ref cd) ct ∧ K.lookup f = some ⟨oc, od, .func fd, osl⟩ ∧ PySem.W.codeIn K (.ref cd) x = true
  kp : PySem.W.keepIn K (.ref f) = true
theorem FunC.fn {K : PySem.W.Frag} {x : Str} {st : Stmt} {f : Addr} {fd : FuncData} {cd : Addr} (F : FunC K x st f fd cd) : Fun K x x st f fd := by
  obtain ⟨oc, od, kV, doc, pm, an, ct, osl, e, lk, hc⟩ := F.ex
  exact ⟨⟨oc, od, kV, doc, pm, an, .ref cd, ct, osl, e, lk, hc⟩, F.kp⟩
section
variable {P : Program} {w : World} {K : PySem.W.Frag} {mg : Str → Option Value} {base : Heap} {k : Nat} {f cd : Addr} {fd : FuncData} {ps : List Str} {sp : Sp}
theorem fn_rawGC {x : Str} {st : Stmt} {N : List Str} (F : FunC K x st f fd cd) (S : FnScope N ps (defScope st)) (hlen : ∀ vs H Q E, sp vs H Q E → vs.length = ps.length)
    (hb : ∀ (A : Around) (outer : List Env) (s : Shared) (H : Hp) (vs : List V) (Q : VK) (E : XK), A.guards = some [] → Room k (A.deeper (PyProof.Rows.envOfC x (defScope st) s.heap.objs.size f (.ref cd))) → sp vs H Q E →
      WSs (cxOf L2.CX0 P w K mg base N x (defScope st) f (.ref cd) A outer s H E).nox (defBody st) { nx := fun _ H' => Q .non H', rt := Q } (vs.map some ++ List.replicate (N.length - ps.length) none) H) : FnG P w K mg base (k + 1) f fd ps sp := by
  obtain ⟨oc, od, kV, doc, pm, an, ct, osl, rfl, lk, hcd⟩ := F.ex
  refine ⟨hlen, fun A outer s H args us vs Q E hgd hr e0 hbd r h => ?_⟩
  have hl := hlen vs H Q E h
  have inK : K.In s.heap := e0.mod.kin.keeps fun b o e => (e0.bs b o e).1
  have noLim : s.heap.NoLimit := e0.mod.nolimit.keeps fun b o e => (e0.bs b o e).1
  have kinds : ∀ y ∈ ps.zip us, (defScope st).names.lookup y.1 = some .local ∨ ((defScope st).names.lookup y.1 = some .cell ∧ ((cellsFrom (s.heap.objs.size + 1) (defScope st).names []).lookup y.1).isSome = true) := by
    rintro ⟨n, v⟩ hy
    rcases S.par n (List.of_mem_zip hy).1 with z | z
    · exact .inl z
    · exact .inr ⟨z, PySem.W.cellsFrom_some _ _ _ (.inl z)⟩
  apply codeAny_call_function hr.depth (inK _ _ lk) rfl S.co S.gen rfl (PySem.W.codeRec_of inK hcd)
  apply hbd
  apply wpAny_newFunctionEnv_cells S.kind kinds
  intro env he s1 xi
  subst he
  refine ⟨noLim.keeps xi.toInCall.keep, codeAny_func ?_⟩
  have I := inv_start (CX := L2.CX0) (P := P) (w := w) (K := K) (mg := mg) (base := base) (E := E) S hr.hd e0 hl r xi
  have hst : L2.start N vs = vs.map some ++ List.replicate (N.length - ps.length) none := by
    unfold L2.start
    rw [hl]
  have W := hb A outer s H vs Q E hgd (hr.deeper _) h
  have T := (pss_wss (X := (cxOf L2.CX0 P w K mg base N x (defScope st) f (.ref cd) A outer s H E).nox) (sts := defBody st)).nox
  have run := T.run [] s1 (L2.start N vs) H { nx := fun _ H' => Q .non H', rt := Q } I (by rw [hst]; exact W)
  refine wpAny_mono run (fun fl s' hs => ?_) (fun e s' hs => hs)
  cases fl with
  | ret u =>
    obtain ⟨v, σ', H', J, rv, hq⟩ := hs
    exact ⟨v, H', J.os, J.bare, J.base, J.hok, rv, hq⟩
  | next =>
    obtain ⟨σ', H', J, hq⟩ := hs
    exact ⟨V.non, H', J.os, J.bare, J.base, J.hok, rfl, hq⟩
  | brk => exact hs.choose_spec.choose_spec.2.elim
  | cont => exact hs.choose_spec.choose_spec.2.elim
end
/-- SpD, with a C0 of a kind -/
def SpC (B : C0 → Prop) (n : Nat) (pre : List Sl → Prop) (post : List Sl → Sl → Prop) : Sp := fun vs H Q _ => vs.length = n ∧ ∃ (c : C0) (F : Hp) (rs : List Sl), B c ∧ rs.length = n ∧ pre rs ∧ NV rs ∧ c.F0 = F ∧ c.H0 = H ∧ EnvR c F H (vs.map some) rs ∧
  ∀ v r F' H', post rs r → EnvR c F' H' [some v] [r] → Q v H'
section
variable {P : Program} {w : World} {K : PySem.W.Frag} {mg : Str → Option Value} {base : Heap} {k : Nat} {f cd : Addr} {fd : FuncData} {ps : List Str} {B : C0 → Prop} {pre : List Sl → Prop} {post : List Sl → Sl → Prop}
theorem fn_GC {x : Str} {st : Stmt} {N : List Str} (F : FunC K x st f fd cd) (S : FnScope N ps (defScope st))
    (hb : ∀ (A : Around) (outer : List Env) (s : Shared) (H : Hp) (E : XK) (c : C0) (rs : List Sl), A.guards = some [] → Room k (A.deeper (PyProof.Rows.envOfC x (defScope st) s.heap.objs.size f (.ref cd))) → B c → rs.length = ps.length → pre rs →
      WPs (cxOf L2.CX0 P w K mg base N x (defScope st) f (.ref cd) A outer s H E).nox c (defBody st) (rs ++ List.replicate (N.length - ps.length) .any) { nx := fun _ => post rs (.im .non), rt := post rs }) : FnG P w K mg base (k + 1) f fd ps (SpC B ps.length pre post) :=
  fn_rawGC F S (fun vs H Q E h => h.1) fun A outer s H vs Q E hgd hr h => by
    obtain ⟨hl, c, F1, rs, hcd, hrl, hpre, nv, e1, e2, E1, q⟩ := h
    exact hb A outer s H E c rs hgd hr hcd hrl hpre F1 H _ ⟨E1.rest, nv.rest⟩ _ ⟨fun Γ F H σ hn E' => q .non (.im .non) F H hn (E'.env.push (d := .non) rfl).only, fun r v F H hn E' => q v r F H hn E', fun Γ F H σ hn E' => hn.elim, fun Γ F H σ hn E' => hn.elim⟩
end
section
variable {X : Cx} {c : C0} {Γ : List Sl} {K : Sl → Prop} {pos p : Pos} {k : Nat} {f : Addr} {fd : FuncData} {ps : List Str} {pre : List Sl → Prop} {post : List Sl → Sl → Prop} {x : Str} {e : Expr} {es : List Expr} {B : C0 → Prop}
/-- f(e, ..), f of a kind, no hand among the arguments -/
theorem wp_callC (hB : ∀ F H, B (c.at F H)) (G : FnG X.prog X.w X.K X.mg X.base k f fd ps (SpC B ps.length pre post)) (hgd : X.A.guards = some []) (hr : Room k X.A) (hm : X.mg x = some (.ref f)) (hk : PySem.W.keepIn X.K (.ref f) = true) (hb : Binds X.K fd ps [])
    (h : WPa X c (e :: es) Γ fun rs => ∃ ds : List DL.D, rs = ds.map Sl.im ∧ ds.length = ps.length ∧ pre rs ∧ ∀ r, post rs r → isv r = false ∧ K r) (hg : Gl X x := by rfl) (hn : starEach (e :: es) X.env = (false, eval e X.env) :: starEach es X.env := by rfl) (hdb : (x == ("__debug__" : Str)) = false := by decide)
    (hpl : (backTo pos (starEach es X.env)).any (·.1) = false := by rfl) : WPe X c (.Call (.Name x p) (e :: es) [] pos) Γ K := fun F H stk S σ hl E Q q => by
  refine we_of (pe_callG G hgd hr hg hm hk hb pa_wa hdb hn hpl) ?_
  refine h F H stk S σ hl E _ fun vs rs F1 H1 k1 hl1 E1 => ?_
  obtain ⟨ds, e1, hlen, hpre, k1⟩ := k1
  subst e1
  have hvl : vs.length = ds.length := by simpa using hl1
  obtain ⟨E2, hd⟩ := EnvR.dats hvl E1
  refine ⟨by rw [hvl, hlen], c.at F1 H1, F1, ds.map Sl.im, hB F1 H1, by simpa using hlen, hpre, nv_ims ds, rfl, rfl, env_args E2.ex hd E2.hk E2.nw rfl rfl, fun v r F' H' hpost E' => ?_⟩
  obtain ⟨h1, h2⟩ := k1 r hpost
  exact q v r F' H' h2 (E2.ret E' rfl rfl (fun a z => z) E'.hk (fun _ => rfl) h1)
/-- f(hand, e, ..), f of a kind -/
theorem wp_callCH (hB : ∀ F H, B (c.at F H)) (G : FnG X.prog X.w X.K X.mg X.base k f fd ps (SpC B ps.length pre post)) (hgd : X.A.guards = some []) (hr : Room k X.A) (hm : X.mg x = some (.ref f)) (hk : PySem.W.keepIn X.K (.ref f) = true) (hb : Binds X.K fd ps [])
    (h : WPa X c (e :: es) Γ fun rs => ∃ ds : List DL.D, rs = Sl.hand :: ds.map Sl.im ∧ ds.length + 1 = ps.length ∧ pre rs ∧ ∀ r, post rs r → isv r = false ∧ K r) (hg : Gl X x := by rfl) (hn : starEach (e :: es) X.env = (false, eval e X.env) :: starEach es X.env := by rfl) (hdb : (x == ("__debug__" : Str)) = false := by decide)
    (hpl : (backTo pos (starEach es X.env)).any (·.1) = false := by rfl) : WPe X c (.Call (.Name x p) (e :: es) [] pos) Γ K := fun F H stk S σ hl E Q q => by
  refine we_of (pe_callG G hgd hr hg hm hk hb pa_wa hdb hn hpl) ?_
  refine h F H stk S σ hl E _ fun vs rs F1 H1 k1 hl1 E1 => ?_
  obtain ⟨ds, e1, hlen, hpre, k1⟩ := k1
  subst e1
  cases vs with
  | nil => simp at hl1
  | cons v0 vs =>
    have hvl : vs.length = ds.length := by simpa using hl1
    have E1' : EnvR c F1 H1 (vs.reverse.map some ++ (some v0 :: (stk ++ σ))) ((ds.map Sl.im).reverse ++ (.hand :: (S ++ Γ))) := by simpa [List.append_assoc] using E1
    obtain ⟨E2, hd⟩ := EnvR.dats hvl E1'
    have e0 : v0 = .ref c.hp := by
      have := E2.hand (i := 0) rfl
      simpa using this
    subst e0
    have EA : EnvR (c.at F1 H1) F1 H1 (vs.map some) (ds.map Sl.im) := env_args E2.ex hd E2.hk E2.nw rfl rfl
    have EB : EnvR (c.at F1 H1) F1 H1 (some (.ref c.hp) :: vs.map some) (.hand :: ds.map Sl.im) := EA.pushS ⟨rfl, rfl⟩
    refine ⟨by simp [hvl, hlen], c.at F1 H1, F1, .hand :: ds.map Sl.im, hB F1 H1, by simpa using hlen, hpre, (nv_ims ds).cons rfl, rfl, rfl, EB, fun v r F' H' hpost E' => ?_⟩
    obtain ⟨h1, h3⟩ := k1 r hpost
    exact q v r F' H' h3 (E2.pop.ret E' rfl rfl (fun a z => z) E'.hk (fun _ => rfl) h1)
theorem spT_call {F H F1 H1 : Hp} {L : L2.St} {G : List Sl} {vs : List V} {ds : List DL.D} {Q : VK} {E0 : XK} (hcd : HandC c) (hl1 : vs.length = (Sl.hand :: ds.map Sl.im).length) (E1 : EnvR c F1 H1 (vs.reverse.map some ++ L) ((Sl.hand :: ds.map Sl.im).reverse ++ G)) (hlen : ds.length + 1 = ps.length) (hpre : pre (Sl.hand :: ds.map Sl.im))
    (k1 : ∀ r, post (Sl.hand :: ds.map Sl.im) r → isv r = false ∧ K r) (q : ∀ v r F' H', K r → EnvR c F' H' (some v :: L) (r :: G) → Q v H') : SpH ps.length pre post vs H1 Q E0 := by
  cases vs with
  | nil => simp at hl1
  | cons v0 vs =>
    have hvl : vs.length = ds.length := by simpa using hl1
    have E1' : EnvR c F1 H1 (vs.reverse.map some ++ (some v0 :: L)) ((ds.map Sl.im).reverse ++ (.hand :: G)) := by simpa [List.append_assoc] using E1
    obtain ⟨E2, hd⟩ := EnvR.dats hvl E1'
    have e0 : v0 = .ref c.hp := by
      have := E2.hand (i := 0) rfl
      simpa using this
    subst e0
    obtain ⟨q1, q2, n1, n2, n3, hW, hat, back⟩ := hcd.ex
    have EA : EnvR (cHand F1 H1 c.hp q1 q2) F1 H1 (vs.map some) (ds.map Sl.im) := env_args E2.ex hd (hat H1 E2.hk) (fun a z => E2.nw a (hW a z)) rfl rfl
    have EB : EnvR (cHand F1 H1 c.hp q1 q2) F1 H1 (some (.ref c.hp) :: vs.map some) (.hand :: ds.map Sl.im) := EA.pushS ⟨rfl, rfl⟩
    refine ⟨by simp [hvl, hlen], cHand F1 H1 c.hp q1 q2, F1, .hand :: ds.map Sl.im, cHand_handy n1 n2 n3, by simpa using hlen, hpre, (nv_ims ds).cons rfl, rfl, rfl, EB, fun v r F' H' hpost E' => ?_⟩
    obtain ⟨h1, h3⟩ := k1 r hpost
    exact q v r F' H' h3 (E2.pop.ret E' rfl rfl (fun a z => hW a z) (back H1 H' E2.hk E'.hk fun a o z n => E'.fr a o z n) (fun _ => rfl) h1)
/-- f(hand, e, ..), the hand beside tables -/
theorem wp_callYT (hcd : HandC c) (G : FnOk X.prog X.w X.K X.mg X.base L2.CX0 k f fd ps (SpH ps.length pre post)) (hr : Room k X.A) (hm : X.mg x = some (.ref f)) (hk : PySem.W.keepIn X.K (.ref f) = true) (hb : Binds X.K fd ps [])
    (h : WPa X c (e :: es) Γ fun rs => ∃ ds : List DL.D, rs = Sl.hand :: ds.map Sl.im ∧ ds.length + 1 = ps.length ∧ pre rs ∧ ∀ r, post rs r → isv r = false ∧ K r) (hg : Gl X x := by rfl) (hn : starEach (e :: es) X.env = (false, eval e X.env) :: starEach es X.env := by rfl) (hdb : (x == ("__debug__" : Str)) = false := by decide)
    (hpl : (backTo pos (starEach es X.env)).any (·.1) = false := by rfl) : WPe X c (.Call (.Name x p) (e :: es) [] pos) Γ K := fun F H stk S σ hl E Q q => by
  refine we_of (pe_call (E := L2.E0) G hr hg hm hk hb .nil L2.pass0 pa_wa hdb hn hpl) ?_
  refine h F H stk S σ hl E _ fun vs rs F1 H1 k1 hl1 E1 => ?_
  obtain ⟨ds, e1, hlen, hpre, k1⟩ := k1
  subst e1
  rw [List.append_nil]
  exact spT_call (F := F) (H := H) hcd hl1 E1 hlen hpre k1 q
end
end DL

set_option Elab.async false
set_option linter.all false
set_option pp.maxSteps 300
set_option maxRecDepth 100000
set_option maxHeartbeats 2000000
/-! DL22: the law's own call, with tables -/
namespace DL
open PySem PySem.Spec PyProof.Rows L2
/-- an empty table of code objects -/
abbrev noTab : Obj := { cls := .none, data := .fields #[] }
/-- LawG, with tables that are empty at the start -/
def LawT (P : Program) (w : World) (K : PySem.W.Frag) (mg : Str → Option Value) (k : Nat) (fa : Addr) (fd : FuncData) (x : Str) (n : Nat) (cs : List (Addr × Addr)) : Prop :=
  ∀ base : Heap, K.In base → base.Ns mainGlobals mg → (∀ p ∈ cs, LamX.TabB base mg p.1 p.2) →
    FnG P w K mg base k fa fd [x] (fun vs H Q _ => ∃ (a : Addr) (ns : List Int), vs = [.ref a] ∧ ns.length ≤ n ∧ (∀ p ∈ cs, H p.2 = some (.tbl #[])) ∧ SqL K H a (ns.map V.int) ∧ ∀ H', Q (.bl true) H')
def heapT (K : PySem.W.Frag) (a : Addr) (o : Obj) (u : HO) (Ts : List Addr) : Hp := fun b => if b = a ∧ K.lookup a = none then some (.frz o u) else if b ∈ Ts then some (.tbl #[]) else none
theorem heapT_cases {K : PySem.W.Frag} {a b : Addr} {o : Obj} {u : HO} {Ts : List Addr} : heapT K a o u Ts b = none ∨ (b = a ∧ K.lookup a = none ∧ heapT K a o u Ts b = some (.frz o u)) ∨ (b ∈ Ts ∧ heapT K a o u Ts b = some (.tbl #[])) := by
  unfold heapT
  by_cases h : b = a ∧ K.lookup a = none
  · rw [if_pos h]
    exact .inr (.inl ⟨h.1, h.2, rfl⟩)
  · rw [if_neg h]
    by_cases h2 : b ∈ Ts
    · rw [if_pos h2]
      exact .inr (.inr ⟨h2, rfl⟩)
    · rw [if_neg h2]
      exact .inl rfl
theorem law_callTG {P : Program} {w : World} {K : PySem.W.Frag} {mg mb : Str → Option Value} {k n : Nat} {fa a : Addr} {fd : FuncData} {x : Str} {s₁ : Shared} {vs : List Value} {ns : List Int} {cs : List (Addr × Addr)}
    (KX : K.In s₁.heap) (hns : s₁.heap.Ns mainGlobals mg) (hb : s₁.heap.Ns builtinsNs mb) (hbb : ∀ x : Str, x ≠ "__name__" → mb x = bootBuiltins x) (hlim : s₁.heap.NoLimit) (hg : s₁.gens = #[])
    (hT : ∀ p ∈ cs, s₁.heap.get? p.2 = some noTab) (nT : ∀ p ∈ cs, K.lookup p.2 = none) (hC : ∀ p ∈ cs, PySem.W.codeHdIn K p.1 p.2 = true)
    (hbm : ∃ (bm : Addr) (ob : Obj), mg "__builtins__" = some (.ref bm) ∧ bm ≠ builtinsNs ∧ s₁.heap.get? bm = some ob ∧ ob.cls = .type "module" ∧ ob.dict = some builtinsNs ∧ ob.data = .plain)
    (ha : s₁.heap.get? a = some { cls := .type "list", data := .seq vs.toArray }) (hi : IntsAre vs ns) (hn : ns.length ≤ n) (hl : n ≤ sizeLine) (hr : Room k callerA)
    (F : LawT P w K mg k fa fd x n cs) (hbind : ∀ (s : Shared) (u : Value), BindsTo s fd ⟨[u], []⟩ [(x, u)]) :
    codeAny (model P w) callerA (.call (.ref fa) ⟨[.ref a], []⟩) (fun r s' => r = .ok (.ret (.bool true)) ∧ OldK s₁.heap s'.heap ∧ s'.os = s₁.os ∧ AllBare s'.gens) s₁ := by
  have rv := vals_ints hi
  obtain ⟨Ts, eTs⟩ : ∃ Ts : List Addr, Ts = cs.map (·.2) := ⟨_, rfl⟩
  have inTs : ∀ p ∈ cs, p.2 ∈ Ts := fun p hp => by
    rw [eTs]
    exact List.mem_map.mpr ⟨p, hp, rfl⟩
  have ofTs : ∀ b ∈ Ts, ∃ p ∈ cs, p.2 = b := fun b hb => by
    rw [eTs] at hb
    exact List.mem_map.mp hb
  have getT : ∀ b ∈ Ts, s₁.heap.get? b = some noTab := fun b hb => by
    obtain ⟨p, hp, rfl⟩ := ofTs b hb
    exact hT p hp
  have aT : a ∉ Ts := fun z => by
    have q := getT a z
    rw [ha] at q
    exact absurd (congrArg Obj.data (Option.some.inj q)) (by intro z; cases z)
  let H : Hp := heapT K a { cls := .type "list", data := .seq vs.toArray } (.lst (ns.map V.int)) Ts
  have hat : ∀ b u, H b = some u → (b = a ∧ K.lookup a = none ∧ u = .frz { cls := .type "list", data := .seq vs.toArray } (.lst (ns.map V.int))) ∨ (b ∈ Ts ∧ u = .tbl #[]) := fun b u hu => by
    rcases heapT_cases (K := K) (a := a) (b := b) (o := { cls := .type "list", data := .seq vs.toArray }) (u := .lst (ns.map V.int)) (Ts := Ts) with z | ⟨z1, z2, z⟩ | ⟨z1, z⟩
    · rw [show H b = none from z] at hu
      cases hu
    · rw [show H b = _ from z] at hu
      cases hu
      exact .inl ⟨z1, z2, rfl⟩
    · rw [show H b = _ from z] at hu
      cases hu
      exact .inr ⟨z1, rfl⟩
  have HT : ∀ b ∈ Ts, H b = some (.tbl #[]) := fun b hb => by
    have n1 : ¬ (b = a ∧ K.lookup a = none) := fun z => aT (by rw [← z.1]; exact hb)
    show (if b = a ∧ K.lookup a = none then _ else if b ∈ Ts then _ else _) = _
    rw [if_neg n1, if_pos hb]
  have hS : SqL K H a (ns.map V.int) := by
    cases hk : K.lookup a with
    | some o =>
      have e := KX a o hk
      rw [ha] at e
      cases e
      exact .inr ⟨_, vs.toArray, _, hk, rfl, rfl, rfl, by rw [List.size_toArray, ← rv.length, List.length_map]; omega, by simpa using rv⟩
    | none => exact .inl (.inr ⟨{ cls := .type "list", data := .seq vs.toArray }, if_pos ⟨rfl, hk⟩⟩)
  have hok : HOk P w H s₁.heap := fun b u hu => by
    rcases hat b u hu with ⟨rfl, _, rfl⟩ | ⟨hb, rfl⟩
    · exact ⟨ha, by rw [List.length_map]; omega, vs, _, rv, ha⟩
    · exact getT b hb
  have free : ∀ {b : Addr} {o : Obj}, s₁.heap.get? b = some o → (∀ vs n, o.data ≠ .seq vs n) → o.data ≠ .fields #[] → H b = none := fun {b o} e d1 d2 => by
    cases q : H b with
    | none => rfl
    | some u =>
      rcases hat b u q with ⟨rfl, _, _⟩ | ⟨hb, _⟩
      · rw [ha] at e
        cases e
        exact absurd rfl (d1 _ _)
      · rw [getT b hb] at e
        cases e
        exact absurd rfl d2
  have freeD : ∀ {b : Addr} {o : Obj} {es : Array DictEntry} {ep : Nat}, s₁.heap.get? b = some o → o.data = .dict es ep → H b = none := fun {b o es ep} e d =>
    free e (fun _ _ z => by rw [d] at z; cases z) fun z => by rw [d] at z; cases z
  have nsK : ∀ {b : Addr} {m : Str → Option Value}, s₁.heap.Ns b m → (hidT s₁.heap H).Ns b m := fun {b m} z => by
    obtain ⟨o, es, ep, e, d, r⟩ := z
    exact ⟨o, es, ep, hidT_get e (freeD e d), d, r⟩
  have hKb : K.In (hidT s₁.heap H) := fun b o e => hidT_get (KX b o e) (by
    cases q : H b with
    | none => rfl
    | some u =>
      rcases hat b u q with ⟨rfl, h2, _⟩ | ⟨hb, _⟩
      · rw [h2] at e
        cases e
      · obtain ⟨p, hp, rfl⟩ := ofTs b hb
        rw [nT p hp] at e
        cases e)
  have lim' : (hidT s₁.heap H).NoLimit := by
    obtain ⟨mc, h1, h2⟩ := hlim
    exact ⟨mc, nsK h1, h2⟩
  have notNs : ∀ {b : Addr} {m : Str → Option Value} {o : Obj}, s₁.heap.Ns b m → s₁.heap.get? b = some o → ∃ es ep, o.data = .dict es ep := fun {b m o} z e => by
    obtain ⟨o2, es, ep, e2, d, _⟩ := z
    rw [e2] at e
    cases e
    exact ⟨es, ep, d⟩
  have TB : ∀ p ∈ cs, LamX.TabB (hidT s₁.heap H) mg p.1 p.2 := fun p hp => by
    have hTp := hT p hp
    obtain ⟨bm, ob, b1, b2, b3, b4, b5, b6⟩ := hbm
    refine ⟨PySem.W.codeHd_of_K hKb (hC p hp), ⟨bm, ob, b1, b2, fun q => ?_, fun q => ?_, ?_, b4, b5, b6⟩, fun z => ?_⟩
    · rw [q] at b3
      obtain ⟨es, ep, d⟩ := notNs hns b3
      rw [b6] at d
      cases d
    · rw [q, hTp] at b3
      cases b3
      cases b6
    · exact hidT_get b3 (free b3 (fun _ _ z => by rw [b6] at z; cases z) fun z => by rw [b6] at z; cases z)
    · rw [← z] at hTp
      obtain ⟨es, ep, d⟩ := notNs hns hTp
      cases d
  have e0 : Env0 P w K mg (hidT s₁.heap H) callerA [] s₁ H := by
    refine ⟨rfl, ⟨hKb, nsK hns, ⟨mb, nsK hb, hbb⟩, lim'⟩, fun b o e => of_hidT e, Nat.le_of_eq (hidT_size _ _), trivial, fun b hb => ?_, hok, .of_eq hg⟩
    cases hb
  have R := (F _ hKb (nsK hns) TB).go callerA [] s₁ H ⟨[.ref a], []⟩ [.ref a] [.ref a] (fun v _ => v = .bl true) L2.E0 rfl hr e0 (hbind s₁ (.ref a)) (.cons rfl .nil) ⟨a, ns, rfl, hn, fun p hp => HT _ (inTs p hp), hS, fun _ => rfl⟩
  refine codeAny_mono R fun r s' h => ?_
  cases r with
  | error e => exact h.elim
  | ok fl =>
    cases fl with
    | next => exact False.elim h
    | brk => exact False.elim h
    | cont => exact False.elim h
    | ret u =>
      obtain ⟨v, H', os, bare, un, hok', r', q⟩ := h
      have q' : v = .bl true := q
      subst q'
      have eu : u = Value.bool true := r'
      subst eu
      have kept : ∀ b o, b ∉ Ts → s₁.heap.get? b = some o → s'.heap.get? b = some o := fun b o nb e => by
        cases q : H b with
        | none => exact un.keep b o e q (fun z => by cases z) (fun z => by cases z)
        | some y =>
          rcases hat b y q with ⟨rfl, _, rfl⟩ | ⟨hb, _⟩
          · obtain ⟨e1, _⟩ := hok _ _ q
            obtain ⟨e2, _⟩ := hok' _ _ (un.frzs _ _ _ q)
            rw [e] at e1
            cases e1
            exact e2
          · exact absurd hb nb
      have grown : ∀ b ∈ Ts, ∃ more : Array Value, s'.heap.get? b = some { cls := .none, data := .fields more } := fun b hb => by
        obtain ⟨more, z⟩ := un.tbls b #[] (HT b hb)
        exact ⟨_, hok' b _ z⟩
      refine ⟨rfl, ⟨fun b o e => ?_, fun b o e => ?_⟩, os, bare⟩
      · by_cases hb : b ∈ Ts
        · obtain ⟨p, hp, rfl⟩ := ofTs b hb
          obtain ⟨more, hm⟩ := grown _ hb
          rw [hT p hp] at e
          cases e
          exact .inr (.inl ⟨((PySem.W.codeHd_of_K KX (hC p hp)).tab (hT p hp)).isCodeTable, rfl, #[], more, rfl, by rw [Array.empty_append]; exact hm⟩)
        · exact .inl (kept b o hb e)
      · by_cases hb : b ∈ Ts
        · obtain ⟨more, hm⟩ := grown b hb
          exact ⟨_, hm⟩
        · exact ⟨o, kept b o hb e⟩
/-- the goal that k_head leaves; the defs named make lambdas -/
theorem walk_ofTG {l : PySem.W.OpenLaw} {n k : Nat} {q : Program} {loose : List Str} {XP : (Str → Option Value) → Heap → Prop} {YP : World → Heap → Prop} {d : DefRec} {K : Params → PySem.W.Frag} {x : Str} {names : List Str}
    (hn : l.most = some n) (hn2 : n ≤ sizeLine) (hdf : d.params.defaults = []) (hr : Room k callerA) (hrec : ∀ y ∈ names, ((recsOf q).find? fun e => e.name == y).isSome = true)
    (hY : ∀ (w : World) (h : Heap), YP w h → (K w.params).In h)
    (F : ∀ (w : World) (mg : Str → Option Value) (fa : Addr) (h : Heap), (K w.params).In h → h.Ns mainGlobals mg → mg d.name = some (.ref fa) → (∀ y ∈ names, ∀ c P, PySem.W.tabIn (K w.params) y = some (c, P) → h.get? P = some noTab) →
      ∃ (fd : FuncData) (cs : List (Addr × Addr)), (∀ p ∈ cs, h.get? p.2 = some noTab) ∧ (∀ p ∈ cs, (K w.params).lookup p.2 = none) ∧ (∀ p ∈ cs, PySem.W.codeHdIn (K w.params) p.1 p.2 = true) ∧ (∀ (s : Shared) (u : Value), BindsTo s fd ⟨[u], []⟩ [(x, u)]) ∧ LawT l.prog w (K w.params) mg k fa fd x n cs) :
    PySem.W.WalkO q loose XP YP l.row.toRowW d [] (fun f vs => PySem.call f vs) := by
  refine Att.attach_call hn hdf fun w s₀ s₁ mg mb fa o pm cd doc a vs ns G Y ho hd hcd hmg hobj hints hlen hg => ?_
  have KX := hY w _ Y
  obtain ⟨fd, cs, h1, h2, h3, hb, hF⟩ := F w mg fa _ KX G.T.g hmg fun y hy c P e => by
    obtain ⟨dL, hd'⟩ := Option.isSome_iff_exists.mp (hrec y hy)
    exact (PySem.W.tab_of G.T KX hd' e).2
  exact law_callTG KX G.T.g G.T.b G.T.builtins G.T.nolimit hg h1 h2 h3 G.T.bmain hobj hints hlen hn2 hr hF hb
end DL

set_option Elab.async false
set_option linter.all false
set_option pp.maxSteps 300
set_option maxRecDepth 100000
set_option maxHeartbeats 2000000
/-! DL23: x, (y, z) as a target; x is None -/
namespace DL
open PySem PySem.Spec PyProof.Rows L2
section
variable {X : Cx} {c : C0} {Γ : List Sl} {K : List Sl → Prop} {pos : Pos}
theorem gt_nest (i j l : Nat) {x y z : Str} {d1 d2 d3 : DL.D} {px py pz pt : Pos} {kt k2} (hc : X.calm = true) (hN : X.N.Nodup) (k : K (((Γ.set i (.im d1)).set j (.im d2)).set l (.im d3))) (hl : i < Γ.length := by exact Nat.le_of_ble_eq_true rfl) (hl2 : j < Γ.length := by exact Nat.le_of_ble_eq_true rfl) (hl3 : l < Γ.length := by exact Nat.le_of_ble_eq_true rfl)
    (hi : X.N[i]? = some x := by rfl) (hj : X.N[j]? = some y := by rfl) (hll : X.N[l]? = some z := by rfl)
    (hx : Loc X.env.scope x := by first | exact Or.inl rfl | exact Or.inr rfl) (hy : Loc X.env.scope y := by first | exact Or.inl rfl | exact Or.inr rfl) (hz : Loc X.env.scope z := by first | exact Or.inl rfl | exact Or.inr rfl)
    (hf : X.fn x = true ∨ X.env.scope.names.lookup x = some .local := by first | exact .inl rfl | exact .inr rfl) (hf2 : X.fn y = true ∨ X.env.scope.names.lookup y = some .local := by first | exact .inl rfl | exact .inr rfl) (hf3 : X.fn z = true ∨ X.env.scope.names.lookup z = some .local := by first | exact .inl rfl | exact .inr rfl)
    (hn : (assignEach [.Name x px, .Tuple [.Name y py, .Name z pz] k2 pt] X.env).length = 2 := by rfl) (hst : (assignEach [.Name x px, .Tuple [.Name y py, .Name z pz] k2 pt] X.env).findIdx? (·.1) = none := by rfl)
    (hn2 : (assignEach [.Name y py, .Name z pz] X.env).length = 2 := by rfl) (hst2 : (assignEach [.Name y py, .Name z pz] X.env).findIdx? (·.1) = none := by rfl)
    (hs1 : (assignEach [.Name x px, .Tuple [.Name y py, .Name z pz] k2 pt] X.env).map (·.2) = assign (.Name x px) X.env :: (assignEach [.Tuple [.Name y py, .Name z pz] k2 pt] X.env).map (·.2) := by rfl)
    (hs2 : (assignEach [.Tuple [.Name y py, .Name z pz] k2 pt] X.env).map (·.2) = assign (.Tuple [.Name y py, .Name z pz] k2 pt) X.env :: (assignEach [] X.env).map (·.2) := by rfl)
    (hs3 : (assignEach [.Name y py, .Name z pz] X.env).map (·.2) = assign (.Name y py) X.env :: (assignEach [.Name z pz] X.env).map (·.2) := by rfl) (hs4 : (assignEach [.Name z pz] X.env).map (·.2) = assign (.Name z pz) X.env :: (assignEach [] X.env).map (·.2) := by rfl) :
    GtD X c (.Tuple [.Name x px, .Tuple [.Name y py, .Name z pz] k2 pt] kt pos) (.im (.tup [d1, .tup [d2, d3]])) Γ K := fun F H stk S σ v hls nv E Q q => by
  refine gw_of (pg_tup hc (pgs_cons (pg_name hN hi hx hf) (pgs_cons (pg_tup hc (pgs_cons (pg_name hN hj hy hf2) (pgs_cons (pg_name hN hll hz hf3) pgs_nil hs4) hs3) hn2 hst2) pgs_nil hs2) hs1) hn hst) ?_
  obtain ⟨p, vs, e, hp, v1, w1, e1, hd1, v2, w2, e2, hd2, e3⟩ := E.imAt (i := 0) rfl rfl
  have e3 : w2 = [] := e3
  subst e3 e2 e1
  obtain ⟨p2, us, e4, hp2, u1, y1, f1, hu1, u2, y2, f2, hu2, f3⟩ := hd2
  have f3 : y2 = [] := f3
  subst f3 f2 f1
  refine ⟨p, [v1, v2], e, .inl (.inl (E.ex _ _ hp)), rfl, v1, [v2], rfl, v2, [], rfl, p2, [u1, u2], e4, .inl (.inl (E.ex _ _ hp2)), rfl, u1, [u2], rfl, u2, [], rfl, rfl, rfl, ?_⟩
  have E1 := ((E.pop.push hd1).storeS hls hl)
  have E2 := (E1.push hu1).storeS (Γ := Γ.set i (.im d1)) hls (by simpa using hl2)
  have E3 := (E2.push hu2).storeS (Γ := (Γ.set i (.im d1)).set j (.im d2)) hls (by simpa using hl3)
  exact q F H _ _ k (((nv.set (nv_of rfl)).set (nv_of rfl)).set (nv_of rfl)) E3
end
section
variable {X : Cx} {c : C0} {K : Sl → Prop}
def isN : DL.D → Bool
  | .non => true
  | _ => false
theorem od_isN {d : DL.D} (k : K (.im (.bl (isN d)))) : OpD X c (compareOp .Is) (.im d) (.im .non) K :=
  opd_val (dr := .bl (isN d)) op_isN (fun F H v w _ hx hy => ⟨.bl (isN d), rfl, fun Q q => ⟨hy, by
    cases d with
    | non => rw [show v = .non from hx]; exact q
    | bl b => rw [show v = .bl b from hx]; exact q
    | int b => rw [show v = .int b from hx]; exact q
    | str b => rw [show v = .str b from hx]; exact q
    | tup l => obtain ⟨p, vs, e, _⟩ := hx; rw [e]; exact q
    | lst l => obtain ⟨p, vs, e, _⟩ := hx; rw [e]; exact q
    | dct ks l => obtain ⟨p, vs, e, _⟩ := hx; rw [e]; exact q⟩⟩) k
end
end DL

set_option Elab.async false
set_option linter.all false
set_option pp.maxSteps 300
set_option maxRecDepth 100000
/-! DL24: one target, one value -/
namespace DL
open PySem PySem.Spec PyProof.Rows L2
section
variable {X : Cx} {c : C0} {Γ : List Sl} {D : DEnds} {e tg : Expr} {pos : Pos}
theorem wst_asg (h : WPe X c e Γ fun r => GtD X c tg r Γ D.nx) (hs : swapsWithSole [tg] e pos.line X.env = pure false := by rfl) (hw : swappedStores [tg] e X.env = pure none := by rfl)
    (h1 : (assignEach [tg] X.env).map (·.2) = [assign tg X.env] := by rfl) : WPst X c (.Assign [tg] e pos) Γ D := fun F H σ E Dd ok => by
  refine ws_of (ps_asg pe_we pg_gw hs hw h1) ?_
  refine h F H [] [] σ rfl E.env _ fun v r F' H' k E' => ?_
  exact k F' H' [] [] σ v rfl E.nv E' _ fun F2 H2 σ2 Γ2 k2 n2 E2 => ok.nx Γ2 F2 H2 σ2 k2 ⟨E2, n2⟩
end
end DL

set_option Elab.async false
set_option linter.all false
set_option pp.maxSteps 300
set_option maxRecDepth 100000
set_option maxHeartbeats 4000000
/-! DL25: tuple * int, of any number -/
namespace DL
open PySem PySem.Spec PyProof.Rows L2
theorem tuple_same (l : Addr) (items : Array Value) (n : Nat) (dd : Option Addr) (sl : Array (Option Value)) (x : Int) (u : Tok) (c0 : (decide (x < -(2 ^ 63)) || decide (x ≥ 2 ^ 63)) = false) (c1 : (items.isEmpty || x == 1) = true) :
    Meets (Builtin.«tuple.__mul__» ⟨[.ref l, .int x u], []⟩) (fun _ R s => s.heap.get? l = some { cls := .type "tuple", dict := dd, data := .seq items n, slots := sl } ∧
      R (.ok (.ret (Value.ref l))) s) :=
  .of_wp fun prog w A R s h => by
    obtain ⟨hp, g, d, tk, os⟩ := s
    obtain ⟨hl, h⟩ := h
    have f1 := AutoSeq1.idx_int
    wp_walk using wpAny_loadPart' hl
    repeat (first
      | (refine wpAny_ite_false (decide_eq_false (by rw [c0]; exact Bool.false_ne_true)) ?_; wp_walk using wpAny_loadPart' hl)
      | (refine wpAny_ite_true (decide_eq_true (by rw [c1])) ?_; wp_walk using wpAny_loadPart' hl))
    exact ⟨_, rfl, h⟩
theorem tuple_zero (l : Addr) (items : Array Value) (n : Nat) (dd : Option Addr) (sl : Array (Option Value)) (x : Int) (u : Tok) (c0 : (decide (x < -(2 ^ 63)) || decide (x ≥ 2 ^ 63)) = false) (c1 : (items.isEmpty || x == 1) = false) (c2 : (decide (x ≤ 0) || items.isEmpty) = true) :
    Meets (Builtin.«tuple.__mul__» ⟨[.ref l, .int x u], []⟩) (fun _ R s => s.heap.get? l = some { cls := .type "tuple", dict := dd, data := .seq items n, slots := sl } ∧
      R (.ok (.ret (Value.ref s.heap.objs.size))) { s with heap := s.heap.push { cls := Value.type "tuple", data := Data.seq #[] }, toks := s.toks }) :=
  .of_wp fun prog w A R s h => by
    obtain ⟨hp, g, d, tk, os⟩ := s
    obtain ⟨hl, h⟩ := h
    have f1 := AutoSeq1.idx_int
    wp_walk using wpAny_loadPart' hl
    repeat (first
      | (refine wpAny_ite_false (decide_eq_false (by rw [c0]; exact Bool.false_ne_true)) ?_; wp_walk using wpAny_loadPart' hl)
      | (refine wpAny_ite_false (decide_eq_false (by rw [c1]; exact Bool.false_ne_true)) ?_; wp_walk using wpAny_loadPart' hl)
      | (refine wpAny_ite_true (decide_eq_true (by rw [c2])) ?_; wp_walk using wpAny_loadPart' hl))
    exact ⟨_, rfl, h⟩
def rRepA (K : PySem.W.Frag) : R2 := fun x y H Q => ∃ l k xs, x = .ref l ∧ y = .int k ∧ SqT K H l xs ∧ k ≤ 1000 ∧ -1000 ≤ k ∧ xs.length ≤ 1000 ∧ ((xs = [] ∨ k = 1) → Q (.ref l) H) ∧ (xs ≠ [] → k ≠ 1 → ∀ p, H p = none → Q (.ref p) (upd H p (.tup (List.replicate k.toNat xs).flatten)))
section
variable {X : Cx}
theorem op_repA : OpR X (binaryOp .Mult) (rRepA X.K) := by
  intro pins s σ H x y v u Q I rx ry h
  obtain ⟨l, k, xs, rfl, rfl, hT, h1, h2, hz, qs, qn⟩ := h
  cases rx
  obtain ⟨t, rfl⟩ := ry
  obtain ⟨its, r, ⟨⟨cls, dd, data, sl⟩, ho, hc, n, hd⟩, hs⟩ := I.tuple hT
  simp only at hc hd
  subst hc hd
  have hle : its.length = xs.length := r.length.symm
  have c0 : (decide (k < -(2 ^ 63)) || decide (k ≥ 2 ^ 63)) = false := by
    rw [decide_eq_false (by omega), decide_eq_false (by omega)] <;> rfl
  by_cases hsame : xs = [] ∨ k = 1
  · have c1 : (its.toArray.isEmpty || k == 1) = true := by
      rcases hsame with e | e
      · rw [e] at hle
        rw [List.eq_nil_of_length_eq_zero hle]
        rfl
      · rw [e]
        simp
    refine wpAny_binaryOp_repeat_ref (T := "tuple") (U := "int") (by decide) ⟨_, ho, rfl⟩ (fun s' => typeIs_int s' k t) noFill_tuple_mul F.fills_int_mul F.slot_int_rmul repeat_tuple F.slot_int_index.lookup
      (call_meets F.slot_int_rmul (typeIs_int s k t) F.entry_int_rmul (F.args_int_rmul_2 _ _) (int_rmul_tuple k t l its.toArray n dd sl)
        ⟨ho, rfl, ⟨_, ho, rfl⟩, call_meets F.slot_tuple_mul ⟨_, ho, rfl⟩ F.entry_tuple_mul (F.args_tuple_mul_2 _ _) (tuple_same l its.toArray n dd sl k t c0 c1) ⟨ho, ?_⟩⟩)
    exact ⟨.ref l, H, I, rfl, qs hsame⟩
  · have hne : xs ≠ [] := fun z => hsame (.inl z)
    have hk1 : k ≠ 1 := fun z => hsame (.inr z)
    have hn : its ≠ [] := fun e => hne (by
      rw [e] at hle
      exact List.eq_nil_of_length_eq_zero hle.symm)
    have hi : its.toArray.isEmpty = false := by
      cases its with
      | nil => exact absurd rfl hn
      | cons a b => rfl
    by_cases hk : 2 ≤ k
    · exact op_repT pins s σ H (V.ref l) (V.int k) _ _ Q I rfl ⟨t, rfl⟩ ⟨l, k, xs, rfl, rfl, hT, hne, hk, h1, hz, qn hne hk1⟩
    · have c1 : (its.toArray.isEmpty || k == 1) = false := by
        rw [hi, Bool.false_or]
        exact beq_eq_false_iff_ne.mpr hk1
      have c2 : (decide (k ≤ 0) || its.toArray.isEmpty) = true := by
        rw [hi, Bool.or_false]
        exact decide_eq_true (by omega)
      have e0 : (List.replicate k.toNat xs).flatten = [] := by
        rw [show k.toNat = 0 by omega]
        rfl
      have qn := qn hne hk1
      rw [e0] at qn
      refine wpAny_binaryOp_repeat_ref (T := "tuple") (U := "int") (by decide) ⟨_, ho, rfl⟩ (fun s' => typeIs_int s' k t) noFill_tuple_mul F.fills_int_mul F.slot_int_rmul repeat_tuple F.slot_int_index.lookup
        (call_meets F.slot_int_rmul (typeIs_int s k t) F.entry_int_rmul (F.args_int_rmul_2 _ _) (int_rmul_tuple k t l its.toArray n dd sl)
          ⟨ho, rfl, ⟨_, ho, rfl⟩, call_meets F.slot_tuple_mul ⟨_, ho, rfl⟩ F.entry_tuple_mul (F.args_tuple_mul_2 _ _) (tuple_zero l its.toArray n dd sl k t c0 c1 c2) ⟨ho, ?_⟩⟩)
      refine ⟨.ref s.heap.objs.size, _, I.laid (t' := s.toks) (o := .tup []) (fun b ob q => Heap.get?_push_of_some _ q) (Nat.le_refl _) ?_, rfl, qn _ (I.hok.fresh (Nat.le_refl _))⟩
      exact ⟨Nat.zero_le _, _, .nil, IsTup.new _ _⟩
theorem od_repT {c : C0} {l : List D} {i : Int} {K : Sl → Prop} (h1 : -1000 ≤ i) (h2 : i ≤ 1000) (hz : l.length ≤ 1000) (k : K (.im (.tup (List.replicate i.toNat l).flatten))) : OpD X c (binaryOp .Mult) (.im (.tup l)) (.im (.int i)) K := fun F H L G x y E Q q pins s σ u w I rx ry => by
  obtain ⟨p, vs, e1, h3, h4⟩ := E.imAt (i := 1) rfl rfl
  have e2 : y = .int i := E.imAt (i := 0) rfl rfl
  subst e1 e2
  have E0 := E.pop.pop
  refine op_repA pins s σ H _ _ _ _ Q I rx ry ⟨p, i, vs, rfl, rfl, .inl (.inl (E.ex _ _ h3)), h2, h1, by rw [← h4.length]; exact hz, fun z => ?_, fun _ _ p' hp' => ?_⟩
  · have e : (List.replicate i.toNat l).flatten = l := by
      rcases z with z | z
      · have hl : l.length = 0 := by rw [h4.length, z]; rfl
        rw [List.length_eq_zero_iff.mp hl]
        simp
      · rw [z]
        simp
    rw [e] at k
    exact q _ (.im (.tup l)) F H k (E0.push ⟨p, vs, rfl, h3, h4⟩)
  · exact q _ _ _ _ k (E0.pushTup hp' (h4.rep _))
end
end DL

set_option Elab.async false
set_option linter.all false
set_option pp.maxSteps 300
set_option maxRecDepth 100000
set_option maxHeartbeats 4000000
/-! DL26: zip of a list and a tuple -/
namespace DL
open PySem PySem.Spec PyProof.Rows L2
theorem sqL_updX {K : PySem.W.Frag} {H : Hp} {a T : Addr} {o : HO} {xs : List V} (h : H T = none) (q : SqL K H a xs) : SqL K (upd H T o) a xs := by
  rcases q with q | q
  · left
    rcases q with q | ⟨u, q⟩
    · exact .inl (by rw [upd_ne (ne_of_none q h)]; exact q)
    · exact .inr ⟨u, by rw [upd_ne (ne_of_none q h)]; exact q⟩
  · exact .inr q
def SqLT (K : PySem.W.Frag) (a b : Addr) (xs ys : List V) (H : Hp) : Prop := SqL K H a xs ∧ SqT K H b ys
def iZipLT (K : PySem.W.Frag) (ta : TA) : TI := fun σ H R => ta σ H fun vs H1 => ∃ a b xs ys, vs = [.ref a, .ref b] ∧ SqLT K a b xs ys H1 ∧ R (ItW (min xs.length ys.length) (fun i => [xs.getD i .non, ys.getD i .non]) (SqLT K a b xs ys)) H1
theorem pi_zipLT {X : Cx} {e1 e2 : Expr} {ta : TA} {p pos tpos : Pos} {elts : List Expr} {kk : Nat} (hm : X.mg "zip" = none) (ha : PA X [e1, e2] ta) (hg : Gl X "zip" := by rfl) (hs : starEach [e1, e2] X.env = (false, eval e1 X.env) :: starEach [e2] X.env := by rfl) (hpl : (backTo pos (starEach [e2] X.env)).any (·.1) = false := by rfl) :
    PI X (.Tuple elts kk tpos) (.Call (.Name "zip" p) [e1, e2] [] pos) (iZipLT X.K ta) := by
  constructor
  intro pins s σ H R I h
  refine Call_ ?_
  apply ld_blt I hg hm PyProof.Rows.boot_zip
  refine PyProof.Rows.callWith_type1 (thn (ha.run pos pins s σ H _ I h) fun us s1 hq => ?_) hs hpl
  obtain ⟨vs, H1, I1, r1, a, b, xs, ys, rfl, ⟨ha, hb⟩, q⟩ := hq
  cases r1 with
  | cons ra r1 =>
  cases r1 with
  | cons rb r1 =>
  cases r1
  cases ra
  cases rb
  obtain ⟨i1, rv1, p1, _⟩ := I1.list ha
  obtain ⟨i2, rv2, p2, _⟩ := I1.tuple hb
  have p1 : s1.heap.IsList a i1.toArray := p1.isList
  have hal : a < s1.heap.objs.size := let ⟨o, ho, _⟩ := p1; Heap.lt_size ho
  have hbl : b < s1.heap.objs.size := p2.lt
  generalize hNn : s1.heap.objs.size = N at hal hbl
  refine zip_begins2 (begins_list a i1.toArray) (begins_tuple b i2.toArray) p1 p2 fun h' hz hTI hTO g1 g2 hsz hk => ?_
  rw [hNn] at hz hTI hTO g1 g2 hsz ⊢
  refine wpAny_pyIter_zip hz ?_
  have I2 : Inv X pins σ H1 { s1 with heap := h' } := I1.kept (t' := s1.toks) hk
  refine ⟨N + 4, [N + 4, N + 2, N + 3, N, N + 1], fun i h => IsZip h (N + 4) (N + 2) (N + 3) .none ∧ IsTupOf2 h (N + 2) (.ref N) (.ref (N + 1)) ∧ (∃ a1 a2, IsTupOf2 h (N + 3) a1 a2) ∧ h.IsListIter N a i ∧ h.IsTupleIter (N + 1) b i, _, H1, rfl, I2, ?_, ⟨hz, hTI, ⟨_, _, hTO⟩, ⟨_, g1, rfl, rfl⟩, ⟨_, g2, rfl, rfl⟩⟩, fun b hb => ?_, q⟩
  · refine turn_W (ι := Array Value × Array Value) (good := fun z => z.1.size = xs.length ∧ z.2.size = ys.length) (has := fun z h => h.IsList a z.1 ∧ h.IsTuple b z.2)
      (fpW := (N + 4) :: (N + 2) :: (N + 3) :: ([N, a] ++ [N + 1, b])) (ch := [N + 4, N + 3, N, N + 1]) (vals := fun z i vals => ∃ x1 x2, z.1[i]? = some x1 ∧ z.2[i]? = some x2 ∧ vals = #[x1, x2])
      (mid := fun z i T h => IsZip h (N + 4) (N + 2) (N + 3) (rawInt T) ∧ IsTupOf2 h (N + 2) (.ref N) (.ref (N + 1)) ∧ (∃ a1 a2, IsTupOf2 h (N + 3) a1 a2) ∧ (h.IsListIter N a (i + 1) ∧ h.IsList a z.1) ∧ (h.IsTupleIter (N + 1) b (i + 1) ∧ h.IsTuple b z.2) ∧ T ≠ N + 4 ∧ T ≠ N + 3 ∧ T ≠ N ∧ T ≠ N + 1)
      (by simp) (fun b hb => ?_) (fun i h st c hc => ?_) (fun i h g st k => ?_) (fun A z hA hz => ?_) (fun Y pins s σ H hP hw hK J hS => ?_) (fun i => by show 2 ≤ sizeLine; decide) (fun H T o hT hS => ⟨sqL_updX hT hS.1, sqT_upd hT hS.2⟩) (fun A i s Q E st h => wpAny_pyIter_zip st.1 h)
    · simp only [List.mem_cons, List.not_mem_nil, or_false] at hb ⊢
      rcases hb with q | q | q | q <;> simp [q]
    · obtain ⟨hz, hTI, ⟨_, _, hTO⟩, ⟨o1, e1, _, d1⟩, ⟨o2, e2, _, d2⟩⟩ := st
      simp only [List.mem_cons, List.not_mem_nil, or_false] at hc
      rcases hc with q | q | q | q | q
      · rw [q]; exact ⟨_, hz, fun v z => by cases z⟩
      · rw [q]; exact ⟨_, hTI, fun v z => by cases z⟩
      · rw [q]; exact ⟨_, hTO, fun v z => by cases z⟩
      · rw [q]; exact ⟨o1, e1, fun v z => by rw [d1] at z; cases z⟩
      · rw [q]; exact ⟨o2, e2, fun v z => by rw [d2] at z; cases z⟩
    · obtain ⟨hz, hTI, ⟨x1, x2, hTO⟩, h1, h2⟩ := st
      exact ⟨k _ (by simp) _ hz, k _ (by simp) _ hTI, ⟨x1, x2, k _ (by simp) _ hTO⟩, h1.at fun o q => k _ (by simp) o q, h2.at fun o q => k _ (by simp) o q⟩
    · obtain ⟨z1, z2⟩ := z
      obtain ⟨s1', s2'⟩ := hz
      refine WalksT.copy (WalksT.zipD2 (zip_sep2 (N := N) (fp1 := [a]) (fp2 := [b]) (fun c hc => ?_) (fun c hc => ?_)) (Draws.list (A := A.in1) hA N a (Nat.ne_of_lt hal) z1) (Draws.tuple (A := A.in1) hA (N + 1) b (Nat.ne_of_lt (Nat.lt_succ_of_lt hbl)) z2)) ?_ rfl ?_
      · rw [List.mem_singleton.mp hc]; exact hal
      · rw [List.mem_singleton.mp hc]; exact hbl
      · show min z1.size z2.size = _
        rw [show z1.size = xs.length from s1', show z2.size = ys.length from s2']
      · funext i h
        apply propext
        constructor
        · rintro ⟨q1, q2, q3, ⟨q4, q5⟩, q6, q7⟩
          exact ⟨⟨q1, q2, q3, q4, q6⟩, q5, q7⟩
        · rintro ⟨⟨q1, q2, q3, q4, q6⟩, q5, q7⟩
          exact ⟨q1, q2, q3, ⟨q4, q5⟩, q6, q7⟩
    · rw [← hK] at hS
      obtain ⟨ha, hb⟩ := hS
      obtain ⟨j1, r1, t1, _⟩ := J.list ha
      obtain ⟨j2, r2, t2, _⟩ := J.tuple hb
      refine ⟨(j1.toArray, j2.toArray), ⟨by simp [r1.length], by simp [r2.length]⟩, ⟨t1.isList, t2⟩, fun i vs hi hv => ?_⟩
      obtain ⟨x1, x2, q1, q2, rfl⟩ := hv
      have l1 : i < xs.length := by omega
      have l2 : i < ys.length := by omega
      have one : ∀ {js : List Value} {ws : List V} {x : Value}, Vals ws js → i < ws.length → js[i]? = some x → RelV (ws.getD i .non) x := fun {js ws x} r l e => by
        obtain ⟨u, hu, ru⟩ := r.get (i := i) (x := ws.getD i .non) (by simp [List.getD_eq_getElem?_getD, l])
        rw [hu] at e
        cases e
        exact ru
      exact .cons (one r1 l1 (by simpa using q1)) (.cons (one r2 l2 (by simpa using q2)) .nil)
  · have hle : N ≤ b := by
      simp only [List.mem_cons, List.not_mem_nil, or_false] at hb
      rcases hb with z | z | z | z | z <;> (rw [z]; omega)
    rw [← hNn] at hle
    exact I1.fpOk hle (I1.hok.fresh hle)
section
variable {X : Cx} {c : C0} {Γ : List Sl} {KI : Nat → (Nat → DL.D) → Prop} {e1 e2 : Expr} {p pos tpos : Pos} {elts : List Expr} {kk : Nat}
theorem wpi_zipLT (hm : X.mg "zip" = none) (h : WPa X c [e1, e2] Γ fun rs => ∃ xs ys, rs = [.im (.lst xs), .im (.tup ys)] ∧ KI (min xs.length ys.length) fun i => .tup [xs.getD i .non, ys.getD i .non])
    (hg : Gl X "zip" := by rfl) (hs : starEach [e1, e2] X.env = (false, eval e1 X.env) :: starEach [e2] X.env := by rfl) (hpl : (backTo pos (starEach [e2] X.env)).any (·.1) = false := by rfl) : WPi X c (.Tuple elts kk tpos) (.Call (.Name "zip" p) [e1, e2] [] pos) Γ KI := fun F H stk S σ hl E R q => by
  refine iw_of (pi_zipLT hm pa_wa hg hs hpl) ?_
  refine h F H stk S σ hl E _ fun vs rs F1 H1 k1 hl1 E1 => ?_
  obtain ⟨ds, ds2, er, k⟩ := k1
  subst er
  obtain ⟨E2, hd⟩ := EnvR.dats (ds := [.lst ds, .tup ds2]) (by simpa using hl1) E1
  obtain ⟨v, w, rfl, hv, v2, w2, rfl, hv2, hw⟩ := hd
  have hw' : w2 = [] := hw
  subst hw'
  obtain ⟨a, xs, rfl, ha, hds⟩ := hv
  obtain ⟨b, ys, rfl, hb, hds2⟩ := hv2
  refine ⟨a, b, xs, ys, rfl, ⟨.inl (.inl (E2.ex _ _ ha)), .inl (.inl (E2.ex _ _ hb))⟩, ?_⟩
  rw [← hds.length, ← hds2.length]
  refine q _ _ _ (fun F => (F a = some (.lst xs) ∧ Dats F ds xs) ∧ F b = some (.tup ys) ∧ Dats F ds2 ys) F1 H1 k (itok_W (fun F F' e h => ⟨⟨e _ _ h.1.1, h.1.2.mono e⟩, e _ _ h.2.1, h.2.2.mono e⟩) (fun F H e h => ⟨.inl (.inl (e _ _ h.1.1)), .inl (.inl (e _ _ h.2.1))⟩) fun F i h hi => ?_) ⟨⟨ha, hds⟩, hb, hds2⟩ E2
  have l1 : i < ds.length := by omega
  have l2 : i < ds2.length := by omega
  exact .cons (dats_getD h.1.2 l1) (.one (dats_getD h.2.2 l2))
end
end DL

set_option Elab.async false
set_option linter.all false
set_option pp.maxSteps 300
set_option maxRecDepth 100000
set_option maxHeartbeats 2000000
/-! V1: what a def asks, reckoned from a core text: core language, its check, what it asks -/
namespace DL
open PySem PySem.Spec PyProof.Rows L2
inductive Ty where | tup | str | int | bool | lst | dict
  deriving DecidableEq
def Ty.nm : Ty → Str | .tup => "tuple" | .str => "str" | .int => "int" | .bool => "bool" | .lst => "list" | .dict => "dict"
def Ty.id : Ty → String | .tup => "tuple" | .str => "str" | .int => "int" | .bool => "bool" | .lst => "list" | .dict => "dict"
theorem Ty.boot (t : Ty) : bootBuiltins t.nm = some (.type t.id) := by cases t <;> decide +kernel
inductive Bi where | len | min | max | sum | all | any | abs | sorted | repr | ord
  deriving DecidableEq
def Bi.nm : Bi → Str | .len => "len" | .min => "min" | .max => "max" | .sum => "sum" | .all => "all" | .any => "any" | .abs => "abs" | .sorted => "sorted" | .repr => "repr" | .ord => "ord"
def Bi.id : Bi → String | .len => "len" | .min => "min" | .max => "max" | .sum => "sum" | .all => "all" | .any => "any" | .abs => "abs" | .sorted => "sorted" | .repr => "repr" | .ord => "ord"
theorem Bi.boot (t : Bi) : bootBuiltins t.nm = some (.builtin t.id) := by cases t <;> decide +kernel
/-- targets -/
inductive RT where
  | nm (i : Nat) | t2 (i j : Nat) | t3 (i j l : Nat)
mutual
/-- expressions -/
inductive RE where
  | opq | int (i : Int) | str (s : Str) | bl (b : Bool) | non | dict0
  | var (i : Nat) | gs (x : Str) | gi (x : Str)
  | bin (op : Operator) (a b : RE) | neg (a : RE) | cmp (op : CmpOp) (a b : RE) | cm2 (o1 o2 : CmpOp) (a b d : RE)
  | nt (a : RE) | bo (k : Bool) (es : List RE)
  | ifx (t : RB) (a b : RE)
  | tup (es : List RE) | lst (es : List RE)
  | ix (a b : RE) | dget (a b : RE)
  | slT (a : RE) (lo hi : RO) | slL (a : RE) (lo hi : RO) | revT (a : RE) | revL (a : RE)
  | isi (a : RE) (T : Ty)
  | bi (f : Bi) (es : List RE) | ty (f : Ty) (es : List RE)
  | fn (x : Str) (es : List RE)
  | lc (own : List (Str × Nat)) (tg : RT) (it : RI) (cd : Option RB) (elt : RE)
/-- tests -/
inductive RB where
  | opq | nt (a : RB) | bo (k : Bool) (es : List RB) | cmp (op : CmpOp) (a b : RE) | val (a : RE)
/-- bounds of a slice -/
inductive RO where
  | no | so (a : RE)
/-- what is gone through -/
inductive RI where
  | opq | seqL (a : RE) | seqT (a : RE) | seqS (a : RE) | rng1 (a : RE) | rng2 (a b : RE) | enT (a : RE) | enL (a : RE) | zipT (a b : RE) | zipL (a b : RE) | zipLT (a b : RE)
end
/-- statements -/
inductive RS where
  | opq | set (i : Nat) (e : RE) | setLc (i : Nat) (own : List (Str × Nat)) (tg : RT) (it : RI) (cd : Option RB) (elt : RE)
  | par2 (i j : Nat) (a b : RE) | tup2 (i j : Nat) (a b : RE) | par3 (i j l : Nat) (a b d : RE) | tup3 (i j l : Nat) (a b d : RE)
  | aug (i : Nat) (op : Operator) (e : RE) | ret (e : RE) | retOwn (i : Nat) | retN
  | ife (t : RB) (a b : List RS) | app (i : Nat) (e : RE) | ext (i : Nat) (e : RE) | expr (e : RE) | cont | brk
  | for_ (tg : RT) (it : RI) (body : List RS) | whl (t : RB) (body : List RS)
  | asg (tg : RT) (e : RE) | frz (i : Nat) | cut (r : RS)
/-! ### parts of expressions, of statements -/
def dE : Expr := .Constant .none 0 ⟨0, 0, 0, 0⟩
def dS : Stmt := .Pass ⟨0, 0, 0, 0⟩
def e1 : Expr → Expr
  | .BinOp a _ _ _ => a | .UnaryOp _ a _ => a | .Compare a _ _ _ => a | .IfExp t _ _ _ => t | .Subscript a _ _ => a | .ListComp a _ _ _ => a
  | .Slice (some a) _ _ _ => a
  | _ => dE
def e2 : Expr → Expr
  | .BinOp _ _ b _ => b | .Compare _ _ cs _ => cs.headD dE | .IfExp _ a _ _ => a | .Subscript _ b _ => b
  | .Slice _ (some b) _ _ => b
  | _ => dE
def e3 : Expr → Expr
  | .IfExp _ _ b _ => b | .Compare _ _ cs _ => cs.tail.headD dE
  | _ => dE
def eA : Expr → List Expr
  | .Tuple es _ _ => es | .List es _ => es | .Call _ es _ _ => es | .BoolOp _ es _ => es
  | _ => []
def eT : Expr → Expr
  | .ListComp _ (⟨tg, _, _, _⟩ :: _) _ _ => tg
  | _ => dE
def eI : Expr → Expr
  | .ListComp _ (⟨_, it, _, _⟩ :: _) _ _ => it
  | _ => dE
def eC : Expr → Expr
  | .ListComp _ (⟨_, _, c :: _, _⟩ :: _) _ _ => c
  | _ => dE
def eS : Expr → Scope
  | .ListComp _ _ s _ => s
  | _ => ⟨.function, [], false, false, []⟩
def sE : Stmt → Expr
  | .Assign _ e _ => e | .AugAssign _ _ e _ => e | .Return (some e) _ => e | .If t _ _ _ => t | .While t _ _ _ => t | .For _ it _ _ _ => it | .Expr e _ => e
  | _ => dE
def sT : Stmt → Expr
  | .For tg _ _ _ _ => tg | .Assign (t :: _) _ _ => t
  | _ => dE
def sA : Stmt → List Stmt
  | .If _ a _ _ => a | .While _ a _ _ => a | .For _ _ a _ _ => a
  | _ => []
def sB : Stmt → List Stmt
  | .If _ _ b _ => b
  | _ => []
/-! ### slots -/
def gD : List Sl → Nat → Sl
  | [], _ => .any
  | s :: _, 0 => s
  | _ :: l, n + 1 => gD l n
def sD : List Sl → Nat → Sl → List Sl
  | [], _, _ => []
  | _ :: l, 0, t => t :: l
  | s :: l, n + 1, t => s :: sD l n t
theorem sD_set : ∀ (l : List Sl) (i : Nat) (t : Sl), sD l i t = l.set i t
  | [], _, _ => rfl
  | _ :: l, 0, t => rfl
  | s :: l, n + 1, t => by
    show s :: sD l n t = s :: l.set n t
    rw [sD_set l n t]
theorem gD_get : ∀ {l : List Sl} {i : Nat} {s : Sl}, gD l i = s → s ≠ .any → l[i]? = some s
  | [], _, s, h, n => absurd h.symm n
  | t :: _, 0, s, h, n => by
    have h : t = s := h
    rw [h]
    rfl
  | t :: l, i + 1, s, h, n => by
    have h : gD l i = s := h
    simpa using gD_get h n
/-- a slot of those there anew -/
def sO : List Sl → Nat → Sl → Option (List Sl)
  | [], _, _ => none
  | _ :: l, 0, t => some (t :: l)
  | s :: l, n + 1, t => match sO l n t with
    | some m => some (s :: m)
    | none => none
theorem sO_eq : ∀ {l m : List Sl} {i : Nat} {t : Sl}, sO l i t = some m → i < l.length ∧ m = l.set i t
  | [], m, i, t, h => by cases h
  | s :: l, m, 0, t, h => by
    cases h
    exact ⟨Nat.zero_lt_succ _, rfl⟩
  | s :: l, m, i + 1, t, h => by
    unfold sO at h
    split at h
    · rename_i m' q
      cases h
      obtain ⟨h1, h2⟩ := sO_eq q
      exact ⟨Nat.succ_lt_succ h1, by rw [h2]; rfl⟩
    · cases h
def sO2 (Γ : List Sl) (i : Nat) (a : Sl) (j : Nat) (b : Sl) : Option (List Sl) := match sO Γ i a with
  | some Γ1 => sO Γ1 j b
  | none => none
def sO3 (Γ : List Sl) (i : Nat) (a : Sl) (j : Nat) (b : Sl) (l : Nat) (d : Sl) : Option (List Sl) := match sO2 Γ i a j b with
  | some Γ1 => sO Γ1 l d
  | none => none
theorem sO2_eq {Γ m : List Sl} {i j : Nat} {a b : Sl} (h : sO2 Γ i a j b = some m) : i < Γ.length ∧ j < Γ.length ∧ m = (Γ.set i a).set j b := by
  unfold sO2 at h
  split at h
  · rename_i q
    obtain ⟨h1, rfl⟩ := sO_eq q
    obtain ⟨h2, rfl⟩ := sO_eq h
    exact ⟨h1, by simpa using h2, rfl⟩
  · cases h
theorem sO3_eq {Γ m : List Sl} {i j l : Nat} {a b d : Sl} (h : sO3 Γ i a j b l d = some m) : i < Γ.length ∧ j < Γ.length ∧ l < Γ.length ∧ m = ((Γ.set i a).set j b).set l d := by
  unfold sO3 at h
  split at h
  · rename_i q
    obtain ⟨h1, h2, rfl⟩ := sO2_eq q
    obtain ⟨h3, rfl⟩ := sO_eq h
    exact ⟨h1, h2, by simpa using h3, rfl⟩
  · cases h
def setT : RT → D → List Sl → Option (List Sl)
  | .nm i, d, Γ => sO Γ i (.im d)
  | .t2 i j, .tup [a, b], Γ => sO2 Γ i (.im a) j (.im b)
  | .t3 i j l, .tup [a, b, d], Γ => sO3 Γ i (.im a) j (.im b) l (.im d)
  | _, _, _ => none
def inR : List Sl → Nat → Bool
  | [], _ => false
  | _ :: _, 0 => true
  | _ :: l, n + 1 => inR l n
theorem inR_lt : ∀ {l : List Sl} {i : Nat}, inR l i = true → i < l.length
  | [], _, h => by cases h
  | _ :: _, 0, _ => Nat.zero_lt_succ _
  | _ :: l, i + 1, h => Nat.succ_lt_succ (inR_lt (l := l) h)
def ownR (Γ : List Sl) : List (Str × Nat) → Bool
  | [] => true
  | p :: r => inR Γ p.2 && ownR Γ r
theorem ownR_all {Γ : List Sl} : ∀ {own : List (Str × Nat)}, ownR Γ own = true → own.all (fun p => decide (p.2 < Γ.length)) = true
  | [], _ => rfl
  | p :: r, h => by
    have h : (inR Γ p.2 && ownR Γ r) = true := h
    rw [Bool.and_eq_true] at h
    rw [List.all_cons, ownR_all h.2, Bool.and_true]
    exact decide_eq_true (inR_lt h.1)
def ims : List Sl → Option (List D)
  | [] => some []
  | .im d :: r => match ims r with
    | some ds => some (d :: ds)
    | none => none
  | _ :: _ => none
theorem ims_eq : ∀ {rs : List Sl} {ds : List D}, ims rs = some ds → rs = ds.map Sl.im
  | [], ds, h => by
    cases h
    rfl
  | s :: r, ds, h => by
    cases s with
    | im d =>
      unfold ims at h
      split at h
      · rename_i es q
        cases h
        rw [ims_eq q]
        rfl
      · cases h
    | _ => cases h
def isT (T : Ty) : Sl → Option Bool
  | .im .non => some false
  | .im (.bl _) => some (T == .bool || T == .int)
  | .im (.int _) => some (T == .int)
  | .im (.str _) => some (T == .str)
  | .im (.tup _) => some (T == .tup)
  | .im (.lst _) => some (T == .lst)
  | .vw (.lst _) => some (T == .lst)
  | .im (.dct _ _) => some (T == .dict)
  | .vw (.dct _ _) => some (T == .dict)
  | _ => none
/-- the kind of a thing at all -/
def isD (T : Ty) (d : D) : Bool := match isT T (.im d) with
  | some b => b
  | none => false
theorem isT_ok {T : Ty} {r : Sl} {b : Bool} (h : isT T r = some b) : ∃ t, tyD r = t ∧ t ≠ "" ∧ kitB t T.id = some b := by
  have k : ∀ (s : String) (b' : Bool), s ≠ "" → b' = b → tyD r = s → kitB s T.id = some b' → ∃ t, tyD r = t ∧ t ≠ "" ∧ kitB t T.id = some b := fun s b' h1 h2 h3 h4 => ⟨s, h3, h1, by rw [← h2]; exact h4⟩
  cases r with
  | im d =>
    cases d with
    | non => exact k "NoneType" _ (by decide) (Option.some.inj h) rfl (by cases T <;> decide +kernel)
    | bl x => exact k "bool" _ (by decide) (Option.some.inj h) rfl (by cases T <;> decide +kernel)
    | int x => exact k "int" _ (by decide) (Option.some.inj h) rfl (by cases T <;> decide +kernel)
    | str x => exact k "str" _ (by decide) (Option.some.inj h) rfl (by cases T <;> decide +kernel)
    | tup x => exact k "tuple" _ (by decide) (Option.some.inj h) rfl (by cases T <;> decide +kernel)
    | lst x => exact k "list" _ (by decide) (Option.some.inj h) rfl (by cases T <;> decide +kernel)
    | dct x y => exact k "dict" _ (by decide) (Option.some.inj h) rfl (by cases T <;> decide +kernel)
  | vw d =>
    cases d with
    | lst x => exact k "list" _ (by decide) (Option.some.inj h) rfl (by cases T <;> decide +kernel)
    | dct x y => exact k "dict" _ (by decide) (Option.some.inj h) rfl (by cases T <;> decide +kernel)
    | _ => cases h
  | _ => cases h
/-- P, where b is true -/
def gate (b : Bool) (P : Prop) : Prop := match b with
  | true => P
  | false => False
theorem gate_ok {b : Bool} {P : Prop} (h : gate b P) : b = true ∧ P := by
  cases b with
  | true => exact ⟨rfl, h⟩
  | false => exact h.elim
/-! ### what operations ask -/
def Prm (X : Cx) (c : C0) (x : Str) (T : List Sl → (Sl → Prop) → Prop) : Prop :=
  ∀ (e : Expr) (es : List Expr) (p pos : Pos) (Γ : List Sl) (K : Sl → Prop), Gl X x → starEach (e :: es) X.env = (false, eval e X.env) :: starEach es X.env → (x == ("__debug__" : Str)) = false →
    (backTo pos (starEach es X.env)).any (·.1) = false → WPa X c (e :: es) Γ (fun rs => T rs K) → WPe X c (.Call (.Name x p) (e :: es) [] pos) Γ K
def vBin (X : Cx) (c : C0) : Operator → Sl → Sl → (Sl → Prop) → Prop
  | .Add, .im (.int i), .im (.int j), K => K (.im (.int (i + j)))
  | .Sub, .im (.int i), .im (.int j), K => K (.im (.int (i - j)))
  | .Mult, .im (.int i), .im (.int j), K => CMul i j ∧ K (.im (.int (i * j)))
  | .Mult, .im (.tup l), .im (.int i), K => (-1000 ≤ i ∧ i ≤ 1000 ∧ l.length ≤ 1000) ∧ K (.im (.tup (List.replicate i.toNat l).flatten))
  | .Mod, .im (.int i), .im (.int j), K => 0 < j ∧ K (.im (.int (i % j)))
  | .FloorDiv, .im (.int i), .im (.int j), K => CDiv i j ∧ K (.im (.int (i / j)))
  | .Add, .im (.str a), .im (.str b), K => a.length + b.length ≤ sizeLine ∧ K (.im (.str (a ++ b)))
  | .Add, .im (.tup a), .im (.tup b), K => a.length + b.length ≤ sizeLine ∧ K (.im (.tup (a ++ b)))
  | .Add, .im (.lst a), .im (.lst b), K => a.length + b.length ≤ sizeLine ∧ K (.own (.lst (a ++ b)))
  | .Add, .vw (.lst a), .im (.lst b), K => a.length + b.length ≤ sizeLine ∧ K (.own (.lst (a ++ b)))
  | op, a, b, K => OpD X c (binaryOp op) a b K
def vCmp (X : Cx) (c : C0) : CmpOp → Sl → Sl → (Sl → Prop) → Prop
  | .Lt, .im (.int i), .im (.int j), K => K (.im (.bl (decide (i < j))))
  | .LtE, .im (.int i), .im (.int j), K => K (.im (.bl (decide (i ≤ j))))
  | .Gt, .im (.int i), .im (.int j), K => K (.im (.bl (decide (j < i))))
  | .GtE, .im (.int i), .im (.int j), K => K (.im (.bl (decide (j ≤ i))))
  | .Eq, .im (.int i), .im (.int j), K => K (.im (.bl (decide (i = j))))
  | .NotEq, .im (.int i), .im (.int j), K => K (.im (.bl (!decide (i = j))))
  | .Eq, .im (.str a), .im (.str b), K => K (.im (.bl (decide (a = b))))
  | .NotEq, .im (.str a), .im (.str b), K => K (.im (.bl (!decide (a = b))))
  | .Is, .im d, .im .non, K => K (.im (.bl (isN d)))
  | .IsNot, .im (.bl x), .im (.bl y), K => K (.im (.bl (!decide (x = y))))
  | op, a, b, K => OpD X c (compareOp op) a b K
def vBi (X : Cx) (c : C0) : Bi → List Sl → (Sl → Prop) → Prop
  | .len, [.im (.lst l)], K => K (.im (.int l.length))
  | .len, [.vw (.lst l)], K => K (.im (.int l.length))
  | .len, [.im (.tup l)], K => K (.im (.int l.length))
  | .len, [.im (.str s)], K => s.length ≤ sizeLine ∧ K (.im (.int s.length))
  | .abs, [.im (.int i)], K => K (.im (.int (if i < 0 then -i else i)))
  | .all, [.im (.lst l)], K => ∃ bs : List Bool, l = bs.map D.bl ∧ K (.im (.bl (bs.all id)))
  | .sum, [.im (.lst l)], K => ∃ ns : List Int, l = ns.map D.int ∧ K (.im (.int ns.sum))
  | .min, [.im (.int i), .im (.int j)], K => K (.im (.int (min i j)))
  | .ord, [.im (.str s)], K => s.length = 1 ∧ K (.im (.int (s.cps.getD 0 0 : Nat)))
  | f, rs, K => CallD X c (.builtin f.id) rs K
def vTy (X : Cx) (c : C0) : Ty → List Sl → (Sl → Prop) → Prop
  | .tup, [.im (.lst l)], K => K (.im (.tup l))
  | .tup, [.vw (.lst l)], K => K (.im (.tup l))
  | .tup, [.im (.tup l)], K => K (.im (.tup l))
  | .lst, [.im (.lst l)], K => K (.own (.lst l))
  | .lst, [.vw (.lst l)], K => K (.own (.lst l))
  | .lst, [.im (.tup l)], K => K (.own (.lst l))
  | .int, [.im (.int i)], K => K (.im (.int i))
  | .int, [.im (.bl b)], K => K (.im (.int (if b then 1 else 0)))
  | .str, [.im (.int i)], K => i.natAbs.log2 < 1920 ∧ K (.im (.str (toString i)))
  | f, rs, K => CallD X c (.type f.id) rs K
def vIx (X : Cx) (c : C0) : Sl → Sl → (Sl → Prop) → Prop
  | .im (.tup l), .im (.int i), K => ∃ d, atI l i = some d ∧ K (.im d)
  | .im (.lst l), .im (.int i), K => ∃ d, atI l i = some d ∧ K (.im d)
  | .vw (.lst l), .im (.int i), K => ∃ d, atI l i = some d ∧ K (.im d)
  | a, b, K => IxD X c a b K
/-- the turns of a comprehension: n items -/
def LcV (n : Nat) (turn : Nat → List D → (List D → Prop) → Prop) (K : List D → Prop) : Prop :=
  n ≤ sizeLine ∧ ∃ J : Nat → List D → Prop, J 0 [] ∧ (∀ i acc, i < n → J i acc → turn i acc (J (i + 1))) ∧ ∀ acc, J n acc → K acc
/-! ### what expressions ask -/
mutual
def vE (X : Cx) (c : C0) : RE → Expr → List Sl → (Sl → Prop) → Prop
  | .opq, e, Γ, K => WPe X c e Γ K
  | .int i, _, _, K => K (.im (.int i))
  | .str s, _, _, K => K (.im (.str s))
  | .bl b, _, _, K => K (.im (.bl b))
  | .non, _, _, K => K (.im .non)
  | .dict0, _, _, K => K (.own (.dct [] []))
  | .var i, _, Γ, K => match see (gD Γ i) with
    | some r => K r
    | none => False
  | .gs x, _, _, K => ∃ s t, X.mg x = some (.str s t) ∧ K (.im (.str s))
  | .gi x, _, _, K => ∃ s t, X.mg x = some (.int s t) ∧ K (.im (.int s))
  | .bin op a b, e, Γ, K => vE X c a (e1 e) Γ fun x => vE X c b (e2 e) Γ fun y => vBin X c op (frz x) (frz y) K
  | .neg a, e, Γ, K => vE X c a (e1 e) Γ fun x => match frz x with
    | .im (.int i) => K (.im (.int (-i)))
    | r => UnD X c (unaryOp .USub) r K
  | .cmp op a b, e, Γ, K => vE X c a (e1 e) Γ fun x => vE X c b (e2 e) Γ fun y => vCmp X c op (frz x) (frz y) K
  | .cm2 o1 o2 a b d, e, Γ, K => vE X c a (e1 e) Γ fun ra => vE X c b (e2 e) Γ fun rb => ∃ da db, frz ra = .im da ∧ frz rb = .im db ∧ vCmp X c o1 (.im da) (.im db) fun r => match r with
    | .im (.bl k) => (k = true → vE X c d (e3 e) Γ fun rd => vCmp X c o2 (.im db) (frz rd) K) ∧ (k = false → K (.im (.bl false)))
    | _ => False
  | .nt a, e, Γ, K => vE X c a (e1 e) Γ fun r => match r with
    | .im (.bl k) => K (.im (.bl (!k)))
    | _ => False
  | .bo k es, e, Γ, K => vBo X c k es (eA e) Γ K
  | .ifx t a b, e, Γ, K => vT X c t (e1 e) Γ fun x => (x = true → vE X c a (e2 e) Γ K) ∧ (x = false → vE X c b (e3 e) Γ K)
  | .tup es, e, Γ, K => vA X c es (eA e) Γ fun rs => match ims rs with
    | some ds => K (.im (.tup ds))
    | none => False
  | .lst es, e, Γ, K => vA X c es (eA e) Γ fun rs => match ims rs with
    | some ds => K (.own (.lst ds))
    | none => False
  | .ix a b, e, Γ, K => vE X c a (e1 e) Γ fun x => vE X c b (e2 e) Γ fun y => vIx X c (frz x) (frz y) K
  | .dget a b, e, Γ, K => vE X c a (e1 e) Γ fun x => vE X c b (e2 e) Γ fun y => ∃ ks ds k d, dct? (frz x) = some (ks, ds) ∧ y = .im (kD k) ∧ getD? ks ds k = some d ∧ K (.im d)
  | .slT a lo hi, e, Γ, K => vE X c a (e1 e) Γ fun r => match r with
    | .im (.tup l) => vO X c lo (e1 (e2 e)) Γ fun o1 => vO X c hi (e2 (e2 e)) Γ fun o2 => K (.im (.tup (cutD l o1 o2)))
    | _ => False
  | .slL a lo hi, e, Γ, K => vE X c a (e1 e) Γ fun r => match lst? (frz r) with
    | some l => vO X c lo (e1 (e2 e)) Γ fun o1 => vO X c hi (e2 (e2 e)) Γ fun o2 => K (.own (.lst (cutD l o1 o2)))
    | none => False
  | .revT a, e, Γ, K => vE X c a (e1 e) Γ fun r => match r with
    | .im (.tup l) => K (.im (.tup l.reverse))
    | _ => False
  | .revL a, e, Γ, K => vE X c a (e1 e) Γ fun r => match lst? (frz r) with
    | some l => K (.own (.lst l.reverse))
    | none => False
  | .isi a T, e, Γ, K => vE X c a ((eA e).headD dE) Γ fun r => ∃ b, isT T (frz r) = some b ∧ K (.im (.bl b))
  | .bi f es, e, Γ, K => vA X c es (eA e) Γ fun rs => vBi X c f rs K
  | .ty f es, e, Γ, K => vA X c es (eA e) Γ fun rs => vTy X c f rs K
  | .fn x es, e, Γ, K => ∃ T, Prm X c x T ∧ vA X c es (eA e) Γ fun rs => T rs K
  | .lc own tg it cd elt, e, Γ, K => gate (ownR Γ own) <| vI X c it (eI e) Γ fun n item => LcV n (fun i acc Ka => ∀ F1 H1, ∃ d, item i = d ∧ match setT tg d (wipeS (Γ.map lookS) (own.map (·.2))) with
      | some Γ2 => ∀ Y, IsBlk X (eS e) Y → vC Y (c.at F1 H1) cd (eC e) Γ2 fun b => (b = true → ∀ Y, IsBlk X (eS e) Y → vE Y (c.at F1 H1) elt (e1 e) Γ2 fun r => match frz r with
          | .im d' => Ka (acc ++ [d'])
          | _ => False) ∧ (b = false → Ka acc)
      | none => False) fun acc => K (.own (.lst acc))
def vA (X : Cx) (c : C0) : List RE → List Expr → List Sl → (List Sl → Prop) → Prop
  | [], _, _, K => K []
  | r :: rs, es, Γ, K => vE X c r (es.headD dE) Γ fun x => vA X c rs es.tail Γ fun xs => K (frz x :: xs)
/-- and, or of truth values as a value -/
def vBo (X : Cx) (c : C0) : Bool → List RE → List Expr → List Sl → (Sl → Prop) → Prop
  | _, [], _, _, _ => False
  | _, [r], es, Γ, K => vE X c r (es.headD dE) Γ K
  | k, r :: r2 :: rs, es, Γ, K => vE X c r (es.headD dE) Γ fun x => match x with
    | .im (.bl b) => (b = k → vBo X c k (r2 :: rs) es.tail Γ K) ∧ (b = (!k) → K (.im (.bl (!k))))
    | _ => False
def vC (X : Cx) (c : C0) : Option RB → Expr → List Sl → (Bool → Prop) → Prop
  | none, _, _, K => K true
  | some t, e, Γ, K => vT X c t e Γ K
/-- what tests ask -/
def vT (X : Cx) (c : C0) : RB → Expr → List Sl → (Bool → Prop) → Prop
  | .opq, e, Γ, K => WPt X c e Γ K
  | .nt a, e, Γ, K => vT X c a (e1 e) Γ fun x => K (!x)
  | .bo k es, e, Γ, K => ∃ J : Bool → Prop, vTs X c k es (eA e) Γ J ∧ ∀ x, J x → K x
  | .cmp op a b, e, Γ, K => vE X c a (e1 e) Γ fun x => vE X c b (e2 e) Γ fun y => vCmp X c op (frz x) (frz y) fun r => match r with
    | .im (.bl b) => K b
    | _ => False
  | .val a, e, Γ, K => vE X c a e Γ fun r => match r with
    | .im (.bl b) => K b
    | _ => False
def vTs (X : Cx) (c : C0) : Bool → List RB → List Expr → List Sl → (Bool → Prop) → Prop
  | _, [], _, _, _ => False
  | _, [r], es, Γ, K => vT X c r (es.headD dE) Γ K
  | k, r :: r2 :: rs, es, Γ, K => vT X c r (es.headD dE) Γ fun b => (b = k → vTs X c k (r2 :: rs) es.tail Γ K) ∧ (b = (!k) → K (!k))
def vO (X : Cx) (c : C0) : RO → Expr → List Sl → (Option Int → Prop) → Prop
  | .no, _, _, K => K none
  | .so a, e, Γ, K => vE X c a e Γ fun r => match r with
    | .im (.int i) => K (some i)
    | _ => False
def vI (X : Cx) (c : C0) : RI → Expr → List Sl → (Nat → (Nat → D) → Prop) → Prop
  | .opq, _, _, _ => False
  | .seqL a, e, Γ, K => vE X c a e Γ fun r => match frz r with
    | .im (.lst ds) => K ds.length fun i => ds.getD i .non
    | _ => False
  | .seqT a, e, Γ, K => vE X c a e Γ fun r => match r with
    | .im (.tup ds) => K ds.length fun i => ds.getD i .non
    | _ => False
  | .seqS a, e, Γ, K => vE X c a e Γ fun r => match frz r with
    | .im (.str s) => K s.length fun i => .str ⟨#[s.cps.getD i 0]⟩
    | _ => False
  | .rng1 a, e, Γ, K => vE X c a ((eA e).headD dE) Γ fun r => match frz r with
    | .im (.int j) => (-(2 ^ 62) ≤ j ∧ j < 2 ^ 62) ∧ K j.toNat fun i => .int (0 + i)
    | _ => False
  | .rng2 a b, e, Γ, K => vE X c a ((eA e).headD dE) Γ fun r => vE X c b ((eA e).tail.headD dE) Γ fun r2 => match frz r, frz r2 with
    | .im (.int i), .im (.int j) => (-(2 ^ 62) ≤ i ∧ i < 2 ^ 62 ∧ -(2 ^ 62) ≤ j ∧ j < 2 ^ 62) ∧ K (j - i).toNat fun k => .int (i + k)
    | _, _ => False
  | .enT a, e, Γ, K => vE X c a ((eA e).headD dE) Γ fun r => match frz r with
    | .im (.tup ds) => K ds.length fun i => .tup [.int i, ds.getD i .non]
    | _ => False
  | .enL a, e, Γ, K => vE X c a ((eA e).headD dE) Γ fun r => match frz r with
    | .im (.lst ds) => K ds.length fun i => .tup [.int i, ds.getD i .non]
    | _ => False
  | .zipT a b, e, Γ, K => vE X c a ((eA e).headD dE) Γ fun r => vE X c b ((eA e).tail.headD dE) Γ fun r2 => match frz r, frz r2 with
    | .im (.tup xs), .im (.tup ys) => K (min xs.length ys.length) fun i => .tup [xs.getD i .non, ys.getD i .non]
    | _, _ => False
  | .zipL a b, e, Γ, K => vE X c a ((eA e).headD dE) Γ fun r => vE X c b ((eA e).tail.headD dE) Γ fun r2 => match frz r, frz r2 with
    | .im (.lst xs), .im (.lst ys) => K (min xs.length ys.length) fun i => .tup [xs.getD i .non, ys.getD i .non]
    | _, _ => False
  | .zipLT a b, e, Γ, K => vE X c a ((eA e).headD dE) Γ fun r => vE X c b ((eA e).tail.headD dE) Γ fun r2 => match frz r, frz r2 with
    | .im (.lst xs), .im (.tup ys) => K (min xs.length ys.length) fun i => .tup [xs.getD i .non, ys.getD i .non]
    | _, _ => False
end
/-! ### what statements ask -/
mutual
def vSt (X : Cx) : C0 → RS → Stmt → List Sl → DEnds → Prop
  | c, .opq, st, Γ, D => WPst X c st Γ D
  | c, .set i e, st, Γ, D => vE X c e (sE st) Γ fun r => match r with
    | .vw _ => False
    | .vo _ _ _ => False
    | r => match sO Γ i r with
      | some Γ2 => D.nx Γ2
      | none => False
  | c, .setLc i own tg it cd elt, st, Γ, D => gate (inR Γ i && ownR Γ own) <| vI X c it (eI (sE st)) Γ fun n item => LcV n (fun k acc Ka => ∀ F1 H1, ∃ d, item k = d ∧ match setT tg d (wipeS (Γ.map lookS) (own.map (·.2))) with
      | some Γ2 => ∀ Y, IsBlk X (eS (sE st)) Y → vC Y (c.at F1 H1) cd (eC (sE st)) Γ2 fun b => (b = true → ∀ Y, IsBlk X (eS (sE st)) Y → vE Y (c.at F1 H1) elt (e1 (sE st)) Γ2 fun r => match frz r with
          | .im d' => Ka (acc ++ [d'])
          | _ => False) ∧ (b = false → Ka acc)
      | none => False) fun acc => match sO Γ i (.own (.lst acc)) with
      | some Γ2 => D.nx Γ2
      | none => False
  | c, .par2 i j a b, st, Γ, D => gate (inR Γ i && inR Γ j) <| vE X c a ((eA (sE st)).headD dE) Γ fun ra => vE X c b ((eA (sE st)).tail.headD dE) Γ fun rb => isv ra = false ∧ isv rb = false ∧ match sO2 Γ i ra j rb with
    | some Γ2 => D.nx Γ2
    | none => False
  | c, .tup2 i j a b, st, Γ, D => gate (inR Γ i && inR Γ j) <| vE X c a ((eA (sE st)).headD dE) Γ fun ra => vE X c b ((eA (sE st)).tail.headD dE) Γ fun rb => isv ra = false ∧ isv rb = false ∧ match sO2 Γ i ra j rb with
    | some Γ2 => D.nx Γ2
    | none => False
  | c, .par3 i j l a b d, st, Γ, D => gate (inR Γ i && (inR Γ j && inR Γ l)) <| vE X c a ((eA (sE st)).headD dE) Γ fun ra => vE X c b ((eA (sE st)).tail.headD dE) Γ fun rb => vE X c d ((eA (sE st)).tail.tail.headD dE) Γ fun rd => isv ra = false ∧ isv rb = false ∧ isv rd = false ∧ match sO3 Γ i ra j rb l rd with
    | some Γ2 => D.nx Γ2
    | none => False
  | c, .tup3 i j l a b d, st, Γ, D => gate (inR Γ i && (inR Γ j && inR Γ l)) <| vE X c a ((eA (sE st)).headD dE) Γ fun ra => vE X c b ((eA (sE st)).tail.headD dE) Γ fun rb => vE X c d ((eA (sE st)).tail.tail.headD dE) Γ fun rd => isv ra = false ∧ isv rb = false ∧ isv rd = false ∧ match sO3 Γ i ra j rb l rd with
    | some Γ2 => D.nx Γ2
    | none => False
  | c, .aug i op e, st, Γ, D => match gD Γ i with
    | .im (.int a) => vE X c e (sE st) Γ fun r => match op, frz r with
      | .Add, .im (.int b) => D.nx (sD Γ i (.im (.int (a + b))))
      | .Sub, .im (.int b) => D.nx (sD Γ i (.im (.int (a - b))))
      | _, _ => False
    | _ => False
  | c, .ret e, st, Γ, D => vE X c e (sE st) Γ D.rt
  | c, .retOwn i, st, Γ, D => match gD Γ i with
    | .own d => D.rt (.own d)
    | _ => False
  | c, .retN, _, Γ, D => D.rt (.im .non)
  | c, .ife t a b, st, Γ, D => vT X c t (sE st) Γ fun x => (x = true → vS X c a (sA st) Γ D) ∧ (x = false → vS X c b (sB st) Γ D)
  | c, .app i e, st, Γ, D => match gD Γ i with
    | .own (.lst l) => l.length < sizeLine ∧ vE X c e ((eA (sE st)).headD dE) Γ fun r => match frz r with
      | .im d => D.nx (sD Γ i (.own (.lst (l ++ [d]))))
      | _ => False
    | _ => False
  | c, .ext i e, st, Γ, D => match gD Γ i with
    | .own (.lst l) => vE X c e ((eA (sE st)).headD dE) Γ fun r => match seq? (frz r) with
      | some m => l.length + m.length ≤ sizeLine ∧ D.nx (sD Γ i (.own (.lst (l ++ m))))
      | none => False
    | _ => False
  | c, .expr e, st, Γ, D => vE X c e (sE st) Γ fun _ => D.nx Γ
  | c, .cont, _, Γ, D => D.ct Γ
  | c, .brk, _, Γ, D => D.bk Γ
  | c, .for_ tg it body, st, Γ, D => vI X c it (sE st) Γ fun n item => ∃ J : Nat → List Sl → Prop, J 0 Γ ∧ (∀ (F : Hp) (i : Nat) (Γ' : List Sl), i < n → J i Γ' → ∃ d, item i = d ∧ match setT tg d Γ' with
      | some Γ2 => vS X (c.up F) body (sA st) Γ2 { nx := J (i + 1), ct := J (i + 1), bk := D.nx, rt := D.rt }
      | none => False) ∧ ∀ Γ', J n Γ' → D.nx Γ'
  | c, .whl t body, st, Γ, D => ∃ (J : Nat → List Sl → Prop) (m0 : Nat), J m0 Γ ∧ ∀ m Γ', J m Γ' → vT X c t (sE st) Γ' fun x => (x = true → vS X c body (sA st) Γ' { nx := fun Γ2 => ∃ m', m' < m ∧ J m' Γ2, ct := fun Γ2 => ∃ m', m' < m ∧ J m' Γ2, bk := D.nx, rt := D.rt }) ∧ (x = false → D.nx Γ')
  | c, .asg tg e, st, Γ, D => vE X c e (sE st) Γ fun r => match r with
    | .im d => ∃ d', d = d' ∧ match setT tg d' Γ with
      | some Γ2 => D.nx Γ2
      | none => False
    | _ => False
  | _, .frz _, _, _, _ => False
  | _, .cut _, _, _, _ => False
def vS (X : Cx) : C0 → List RS → List Stmt → List Sl → DEnds → Prop
  | _, [], _, Γ, D => D.nx Γ
  | c, .frz i :: rs, sts, Γ, D => match gD Γ i with
    | .own d => vS X c rs sts (sD Γ i (.im d)) D
    | _ => False
  | c, .cut r :: rs, sts, Γ, D => ∃ J : List Sl → Prop, vSt X c r (sts.headD dS) Γ { D with nx := J } ∧ ∀ Γ', J Γ' → vS X c rs sts.tail Γ' D
  | c, r :: rs, sts, Γ, D => vSt X c r (sts.headD dS) Γ { D with nx := fun Γ' => vS X c rs sts.tail Γ' D }
end
end DL

set_option Elab.async false
set_option linter.all false
set_option pp.maxSteps 300
set_option maxRecDepth 100000
set_option maxHeartbeats 4000000
/-! V2: the core text's check, and that what it asks is enough -/
namespace DL
open PySem PySem.Spec PyProof.Rows L2
/-- what is known of a def's names -/
structure SC where
  N : List Str
  sc : Scope
  raw : Scope
  fr : List Str
structure OkC (X : Cx) (S : SC) : Prop where
  hN : X.N = S.N
  hs : X.env.scope = S.sc
  fn : ∀ x, S.raw.names.lookup x = some .cell → X.fn x = true
  nd : X.N.Nodup
  calm : X.calm = true
  pass : PassesOwn (model X.prog X.w) X.A X.env X.xe
  fr : ∀ x ∈ S.fr, X.mg x = none
  kind : S.sc.kind = .function
  un : X.A.units + 64 < cLine
def relS (raw sc : Scope) : Scope := { raw with names := raw.names.map fun (n, k) => if (k == .free && sc.kind == .function && sc.names.lookup n == some .cell) then (n, .cell) else (n, k) }
theorem relabel_eq (raw : Scope) (env : Env) : relabel raw env = relS raw env.scope := rfl
def SC.blk (S : SC) (raw : Scope) : SC := ⟨S.N, relS raw S.sc, raw, S.fr⟩
theorem OkC.blk {X Y : Cx} {S : SC} (ok : OkC X S) {raw : Scope} (hY : IsBlk X raw Y) (hk : raw.kind = .function) : OkC Y (S.blk raw) := by
  obtain ⟨s, H, C, cl, fp, rfl⟩ := hY
  refine ⟨ok.hN, ?_, fun x h => ?_, ok.nd, ok.calm, PassesOwn.never, ok.fr, hk, ok.un⟩
  · show relabel raw X.env = relS raw S.sc
    rw [relabel_eq, ok.hs]
  · show (raw.names.lookup x == some NameKind.cell) = true
    rw [show raw.names.lookup x = some NameKind.cell from h]
    rfl
def nameB (x : Str) : Bool := !(x == ("__debug__" : Str)) && !(x == ("__classdict__" : Str))
def visB (sc : Scope) (x : Str) : Bool := match sc.names.lookup x with
  | some .local => true
  | some .cell => true
  | some .free => true
  | _ => false
theorem visB_ok {sc : Scope} {x : Str} (h : visB sc x = true) : Vis sc x := by
  unfold visB at h
  split at h
  · exact .inl ‹_›
  · exact .inr (.inl ‹_›)
  · exact .inr (.inr ‹_›)
  · cases h
def varOk (S : SC) (i : Nat) (x : Str) : Bool := decide (S.N[i]? = some x) && (visB S.sc x && nameB x)
def gloOk (S : SC) (x : Str) : Bool := decide (S.sc.names.lookup x = some .globalImplicit) && !(x == ("__debug__" : Str))
def bltOk (S : SC) (x : Str) : Bool := gloOk S x && (decide (x ∈ S.fr) && !decide (x = ("__name__" : Str)))
def tgtOk (S : SC) (i : Nat) (x : Str) : Bool := decide (S.N[i]? = some x) && match S.sc.names.lookup x with
  | some .local => true
  | some .cell => decide (S.raw.names.lookup x = some .cell)
  | _ => false
def notStar : Expr → Bool
  | .Starred _ _ => false
  | _ => true
def noSlc : Expr → Bool
  | .Slice _ _ _ _ => false
  | _ => true
def plainT : Expr → Bool
  | .UnaryOp _ _ _ => false
  | .BoolOp _ _ _ => false
  | .IfExp _ _ _ _ => false
  | .Compare _ _ _ _ => false
  | _ => true
def noSet : Expr → Bool
  | .Set _ _ _ => false
  | _ => true
def noComp : Expr → Bool
  | .ListComp _ _ _ _ => false
  | .SetComp _ _ _ _ => false
  | .DictComp _ _ _ _ _ => false
  | _ => true
section
variable {X : Cx} {S : SC}
theorem OkC.var (ok : OkC X S) {i : Nat} {x : Str} (h : varOk S i x = true) : X.N[i]? = some x ∧ Vis X.env.scope x ∧ (x == ("__debug__" : Str)) = false ∧ (x == ("__classdict__" : Str)) = false := by
  unfold varOk nameB at h
  simp only [Bool.and_eq_true, decide_eq_true_eq, Bool.not_eq_true'] at h
  obtain ⟨h1, h2, h3, h4⟩ := h
  exact ⟨by rw [ok.hN]; exact h1, by rw [ok.hs]; exact visB_ok h2, h3, h4⟩
theorem OkC.glo (ok : OkC X S) {x : Str} (h : gloOk S x = true) : Gl X x ∧ (x == ("__debug__" : Str)) = false := by
  unfold gloOk at h
  simp only [Bool.and_eq_true, decide_eq_true_eq, Bool.not_eq_true'] at h
  refine ⟨?_, h.2⟩
  show X.env.scope.names.lookup x = _
  rw [ok.hs]
  exact h.1
theorem OkC.blt (ok : OkC X S) {x : Str} (h : bltOk S x = true) : Gl X x ∧ (x == ("__debug__" : Str)) = false ∧ X.mg x = none ∧ x ≠ "__name__" := by
  unfold bltOk at h
  simp only [Bool.and_eq_true, decide_eq_true_eq, Bool.not_eq_true', decide_eq_false_iff_not] at h
  obtain ⟨h1, h2, h3⟩ := h
  exact ⟨(ok.glo h1).1, (ok.glo h1).2, ok.fr x h2, h3⟩
theorem OkC.tgt (ok : OkC X S) {i : Nat} {x : Str} (h : tgtOk S i x = true) : X.N[i]? = some x ∧ Loc X.env.scope x ∧ (X.fn x = true ∨ X.env.scope.names.lookup x = some .local) := by
  unfold tgtOk at h
  simp only [Bool.and_eq_true, decide_eq_true_eq] at h
  obtain ⟨h1, h2⟩ := h
  refine ⟨by rw [ok.hN]; exact h1, ?_⟩
  rw [ok.hs]
  split at h2
  · exact ⟨.inl ‹_›, .inr ‹_›⟩
  · exact ⟨.inr ‹_›, .inl (ok.fn x (of_decide_eq_true h2))⟩
  · cases h2
theorem star_cons {e : Expr} {es : List Expr} {env : Env} (h : notStar e = true) : starEach (e :: es) env = (false, eval e env) :: starEach es env := by
  cases e <;> first | rfl | cases h
theorem pl_of {pos : Pos} {env : Env} : ∀ {es : List Expr}, es.all notStar = true → (backTo pos (starEach es env)).any (·.1) = false
  | [], _ => rfl
  | e :: es, h => by
    rw [List.all_cons, Bool.and_eq_true] at h
    rw [star_cons h.1]
    show (false || (backTo pos (starEach es env)).any (·.1)) = false
    rw [Bool.false_or]
    exact pl_of h.2
theorem plain_ix {e : Expr} (h : noSlc e = true) : PlainIx e := fun o i => by
  cases e <;> first | rfl | cases h
theorem plain_sl {e : Expr} (h : noSlc e = true) : NoSl e := by
  intro o i
  cases e <;> first | rfl | cases h
theorem plain_t {e : Expr} (h : plainT e = true) (env : Env) (whole : Sem Value) : isTrue e env whole = (do let v ← whole; standAt e.pos; holding [v] (truthy v)) := by
  cases e <;> first | rfl | cases h
theorem no_set {e : Expr} (h : noSet e = true) (env : Env) (x : Value) : foldedSetIterable e env x = pure x := by
  cases e <;> first | rfl | cases h
theorem no_swap {e : Expr} (h : noComp e = true) (t : Option Expr) (l : Nat) (env : Env) : swapsWith e t l env = pure false := by
  cases e <;> first | rfl | cases h
end
/-! ### the check -/
def ckTg (S : SC) : RT → Expr → Bool
  | .nm i, .Name x _ => tgtOk S i x
  | .t2 i j, .Tuple [.Name x _, .Name y _] _ _ => tgtOk S i x && tgtOk S j y
  | .t3 i j l, .Tuple [.Name x _, .Name y _, .Name z _] _ _ => tgtOk S i x && (tgtOk S j y && tgtOk S l z)
  | _, _ => false
def tgIn : RT → List Nat → Bool
  | .nm i, vs => decide (i ∈ vs)
  | .t2 i j, vs => decide (i ∈ vs) && decide (j ∈ vs)
  | .t3 i j l, vs => decide (i ∈ vs) && (decide (j ∈ vs) && decide (l ∈ vs))
def isTup : Expr → Bool
  | .Tuple _ _ _ => true
  | _ => false
/-! ### parts, if it is of that form -/
def isC (k : Const) : Expr → Bool
  | .Constant k' _ _ => decide (k = k')
  | _ => false
theorem isC_eq {k : Const} {e : Expr} (h : isC k e = true) : ∃ j pos, e = .Constant k j pos := by
  unfold isC at h
  split at h
  · rw [of_decide_eq_true h]
    exact ⟨_, _, rfl⟩
  · cases h
def pName : Expr → Option Str
  | .Name x _ => some x
  | _ => none
theorem pName_eq {e : Expr} {x : Str} (h : pName e = some x) : ∃ pos, e = .Name x pos := by
  unfold pName at h
  split at h
  · cases h
    exact ⟨_, rfl⟩
  · cases h
def pBin : Expr → Option (Operator × Expr × Expr)
  | .BinOp a op b _ => some (op, a, b)
  | _ => none
theorem pBin_eq {e a b : Expr} {op : Operator} (h : pBin e = some (op, a, b)) : ∃ pos, e = .BinOp a op b pos := by
  unfold pBin at h
  split at h
  · cases h
    exact ⟨_, rfl⟩
  · cases h
def pUn : Expr → Option (UnaryOp × Expr)
  | .UnaryOp op a _ => some (op, a)
  | _ => none
theorem pUn_eq {e a : Expr} {op : UnaryOp} (h : pUn e = some (op, a)) : ∃ pos, e = .UnaryOp op a pos := by
  unfold pUn at h
  split at h
  · cases h
    exact ⟨_, rfl⟩
  · cases h
def pCmp : Expr → Option (CmpOp × Expr × Expr)
  | .Compare a [op] [b] _ => some (op, a, b)
  | _ => none
theorem pCmp_eq {e a b : Expr} {op : CmpOp} (h : pCmp e = some (op, a, b)) : ∃ pos, e = .Compare a [op] [b] pos := by
  unfold pCmp at h
  split at h
  · cases h
    exact ⟨_, rfl⟩
  · cases h
def pCm2 : Expr → Option (CmpOp × CmpOp × Expr × Expr × Expr)
  | .Compare a [o1, o2] [b, d] _ => some (o1, o2, a, b, d)
  | _ => none
theorem pCm2_eq {e a b d : Expr} {o1 o2 : CmpOp} (h : pCm2 e = some (o1, o2, a, b, d)) : ∃ pos, e = .Compare a [o1, o2] [b, d] pos := by
  unfold pCm2 at h
  split at h
  · cases h
    exact ⟨_, rfl⟩
  · cases h
def pBool : Expr → Option (BoolOp × List Expr)
  | .BoolOp op es _ => some (op, es)
  | _ => none
theorem pBool_eq {e : Expr} {es : List Expr} {op : BoolOp} (h : pBool e = some (op, es)) : ∃ pos, e = .BoolOp op es pos := by
  unfold pBool at h
  split at h
  · cases h
    exact ⟨_, rfl⟩
  · cases h
def pIf : Expr → Option (Expr × Expr × Expr)
  | .IfExp t a b _ => some (t, a, b)
  | _ => none
theorem pIf_eq {e t a b : Expr} (h : pIf e = some (t, a, b)) : ∃ pos, e = .IfExp t a b pos := by
  unfold pIf at h
  split at h
  · cases h
    exact ⟨_, rfl⟩
  · cases h
def pTup : Expr → Option (List Expr)
  | .Tuple es _ _ => some es
  | _ => none
theorem pTup_eq {e : Expr} {es : List Expr} (h : pTup e = some es) : ∃ k pos, e = .Tuple es k pos := by
  unfold pTup at h
  split at h
  · cases h
    exact ⟨_, _, rfl⟩
  · cases h
def pLst : Expr → Option (List Expr)
  | .List es _ => some es
  | _ => none
theorem pLst_eq {e : Expr} {es : List Expr} (h : pLst e = some es) : ∃ pos, e = .List es pos := by
  unfold pLst at h
  split at h
  · cases h
    exact ⟨_, rfl⟩
  · cases h
def pSub : Expr → Option (Expr × Expr)
  | .Subscript a b _ => some (a, b)
  | _ => none
theorem pSub_eq {e a b : Expr} (h : pSub e = some (a, b)) : ∃ pos, e = .Subscript a b pos := by
  unfold pSub at h
  split at h
  · cases h
    exact ⟨_, rfl⟩
  · cases h
def pSlc : Expr → Option (Option Expr × Option Expr)
  | .Slice a b none _ => some (a, b)
  | _ => none
theorem pSlc_eq {e : Expr} {a b : Option Expr} (h : pSlc e = some (a, b)) : ∃ pos, e = .Slice a b none pos := by
  unfold pSlc at h
  split at h
  · cases h
    exact ⟨_, rfl⟩
  · cases h
def isRev : Expr → Bool
  | .Slice none none (some (.UnaryOp .USub (.Constant (.int 1) _ _) _)) _ => true
  | _ => false
theorem isRev_eq {e : Expr} (h : isRev e = true) : ∃ k q1 q2 q3, e = .Slice none none (some (.UnaryOp .USub (.Constant (.int 1) k q1) q2)) q3 := by
  unfold isRev at h
  split at h
  · exact ⟨_, _, _, _, rfl⟩
  · cases h
def pCall : Expr → Option (Str × Expr × List Expr)
  | .Call (.Name f _) (e :: es) [] _ => some (f, e, es)
  | _ => none
theorem pCall_eq {e a : Expr} {f : Str} {es : List Expr} (h : pCall e = some (f, a, es)) : ∃ p pos, e = .Call (.Name f p) (a :: es) [] pos := by
  unfold pCall at h
  split at h
  · cases h
    exact ⟨_, _, rfl⟩
  · cases h
def isD0 : Expr → Bool
  | .Dict [] [] _ => true
  | _ => false
theorem isD0_eq {e : Expr} (h : isD0 e = true) : ∃ pos, e = .Dict [] [] pos := by
  unfold isD0 at h
  split at h
  · exact ⟨_, rfl⟩
  · cases h
def pLc : Expr → Option (Expr × Expr × Expr × List Expr × Scope)
  | .ListComp e [⟨tg, it, cs, 0⟩] sc _ => some (e, tg, it, cs, sc)
  | _ => none
theorem pLc_eq {e a tg it : Expr} {cs : List Expr} {sc : Scope} (h : pLc e = some (a, tg, it, cs, sc)) : ∃ pos, e = .ListComp a [⟨tg, it, cs, 0⟩] sc pos := by
  unfold pLc at h
  split at h
  · cases h
    exact ⟨_, rfl⟩
  · cases h
/-- gone through with any target -/
def itN : RI → Bool
  | .seqL _ => true
  | .seqT _ => true
  | .seqS _ => true
  | .rng1 _ => true
  | .rng2 _ _ => true
  | _ => false
def bop (k : Bool) : BoolOp := if k then .And else .Or
mutual
def ckE (S : SC) : RE → Expr → Bool
  | .opq, _ => true
  | .int i, e => isC (.int i) e
  | .str i, e => isC (.str i) e
  | .bl i, e => isC (.bool i) e
  | .non, e => isC .none e
  | .dict0, e => isD0 e
  | .var i, e => match pName e with
    | some x => varOk S i x
    | none => false
  | .gs x, e => match pName e with
    | some y => decide (x = y) && gloOk S y
    | none => false
  | .gi x, e => match pName e with
    | some y => decide (x = y) && gloOk S y
    | none => false
  | .bin op a b, e => match pBin e with
    | some (op', l, r) => decide (op = op') && (ckE S a l && ckE S b r)
    | none => false
  | .neg a, e => match pUn e with
    | some (op, x) => decide (op = .USub) && ckE S a x
    | none => false
  | .cmp op a b, e => match pCmp e with
    | some (op', l, r) => decide (op = op') && (!(behindInMarks op r) && (ckE S a l && ckE S b r))
    | none => false
  | .cm2 o1 o2 a b d, e => match pCm2 e with
    | some (p1, p2, l, r, r2) => decide (o1 = p1) && (decide (o2 = p2) && (decide (o2 ≠ .In ∧ o2 ≠ .NotIn) && (ckE S a l && (ckE S b r && ckE S d r2))))
    | none => false
  | .nt a, e => match pUn e with
    | some (op, x) => decide (op = .Not) && ckE S a x
    | none => false
  | .bo k es, e => match pBool e with
    | some (op, xs) => decide (op = bop k) && ckB S es xs
    | none => false
  | .ifx t a b, e => match pIf e with
    | some (te, x, y) => ckT S t te && (ckE S a x && ckE S b y)
    | none => false
  | .tup es, e => match pTup e with
    | some xs => Nat.ble xs.length 1000 && ckA S es xs
    | none => false
  | .lst es, e => match pLst e with
    | some xs => Nat.ble xs.length 1000 && ckA S es xs
    | none => false
  | .ix a b, e => match pSub e with
    | some (x, y) => noSlc y && (ckE S a x && ckE S b y)
    | none => false
  | .dget a b, e => match pSub e with
    | some (x, y) => noSlc y && (ckE S a x && ckE S b y)
    | none => false
  | .slT a lo hi, e => match pSub e with
    | some (x, y) => (match pSlc y with
      | some (l, h) => ckE S a x && (ckO S lo l && ckO S hi h)
      | none => false)
    | none => false
  | .slL a lo hi, e => match pSub e with
    | some (x, y) => (match pSlc y with
      | some (l, h) => ckE S a x && (ckO S lo l && ckO S hi h)
      | none => false)
    | none => false
  | .revT a, e => match pSub e with
    | some (x, y) => isRev y && ckE S a x
    | none => false
  | .revL a, e => match pSub e with
    | some (x, y) => isRev y && ckE S a x
    | none => false
  | .isi a T, e => match pCall e with
    | some (f, x, [y]) => (match pName y with
      | some t => decide (f = ("isinstance" : Str)) && (decide (t = T.nm) && (bltOk S f && (bltOk S t && (notStar x && ckE S a x))))
      | none => false)
    | _ => false
  | .bi f es, e => match pCall e with
    | some (g, x, xs) => decide (g = f.nm) && (bltOk S g && ckA S es (x :: xs))
    | none => false
  | .ty f es, e => match pCall e with
    | some (g, x, xs) => decide (g = f.nm) && (bltOk S g && ckA S es (x :: xs))
    | none => false
  | .fn f es, e => match pCall e with
    | some (g, x, xs) => decide (g = f) && (gloOk S g && ckA S es (x :: xs))
    | none => false
  | .lc own tg it cd elt, e => match pLc e with
    | some (x, tge, ite, cde, scope) => blkC S.N S.sc scope own && (decide (scope.kind = .function) && (noSet ite && (ckI S it ite && (ckTg (S.blk scope) tg tge && (tgIn tg (own.map (·.2)) && (ckC (S.blk scope) cd cde && (ckE (S.blk scope) elt x && (isTup tge || itN it))))))))
    | none => false
def ckA (S : SC) : List RE → List Expr → Bool
  | [], es => es.isEmpty
  | r :: rs, es => match es with
    | e :: es => notStar e && (ckE S r e && ckA S rs es)
    | [] => false
def ckB (S : SC) : List RE → List Expr → Bool
  | [], es => es.isEmpty
  | r :: rs, es => match es with
    | e :: es => ckE S r e && ckB S rs es
    | [] => false
def ckC (S : SC) : Option RB → List Expr → Bool
  | none, es => es.isEmpty
  | some t, es => match es with
    | [e] => ckT S t e
    | _ => false
def ckT (S : SC) : RB → Expr → Bool
  | .opq, _ => true
  | .nt a, e => match pUn e with
    | some (op, x) => decide (op = .Not) && ckT S a x
    | none => false
  | .bo k es, e => match pBool e with
    | some (op, xs) => decide (op = bop k) && ckTs S es xs
    | none => false
  | .cmp op a b, e => match pCmp e with
    | some (op', l, r) => decide (op = op') && (!(behindInMarks op r) && (ckE S a l && ckE S b r))
    | none => false
  | .val a, e => plainT e && ckE S a e
def ckTs (S : SC) : List RB → List Expr → Bool
  | [], es => es.isEmpty
  | r :: rs, es => match es with
    | e :: es => ckT S r e && ckTs S rs es
    | [] => false
def ckO (S : SC) : RO → Option Expr → Bool
  | .no, o => o.isNone
  | .so a, o => match o with
    | some e => ckE S a e
    | none => false
def ckI (S : SC) : RI → Expr → Bool
  | .opq, _ => false
  | .seqL a, e => ckE S a e
  | .seqT a, e => ckE S a e
  | .seqS a, e => ckE S a e
  | .rng1 a, e => match pCall e with
    | some (g, x, []) => decide (g = ("range" : Str)) && (bltOk S g && (notStar x && ckE S a x))
    | _ => false
  | .rng2 a b, e => match pCall e with
    | some (g, x, [y]) => decide (g = ("range" : Str)) && (bltOk S g && (notStar x && (notStar y && (ckE S a x && ckE S b y))))
    | _ => false
  | .enT a, e => match pCall e with
    | some (g, x, []) => decide (g = ("enumerate" : Str)) && (bltOk S g && (notStar x && ckE S a x))
    | _ => false
  | .enL a, e => match pCall e with
    | some (g, x, []) => decide (g = ("enumerate" : Str)) && (bltOk S g && (notStar x && ckE S a x))
    | _ => false
  | .zipT a b, e => match pCall e with
    | some (g, x, [y]) => decide (g = ("zip" : Str)) && (bltOk S g && (notStar x && (notStar y && (ckE S a x && ckE S b y))))
    | _ => false
  | .zipL a b, e => match pCall e with
    | some (g, x, [y]) => decide (g = ("zip" : Str)) && (bltOk S g && (notStar x && (notStar y && (ckE S a x && ckE S b y))))
    | _ => false
  | .zipLT a b, e => match pCall e with
    | some (g, x, [y]) => decide (g = ("zip" : Str)) && (bltOk S g && (notStar x && (notStar y && (ckE S a x && ckE S b y))))
    | _ => false
end
end DL

set_option Elab.async false
set_option linter.all false
set_option pp.maxSteps 300
set_option maxRecDepth 100000
set_option maxHeartbeats 4000000
/-! V2b: comprehensions, what is kept from turn to turn told behind the items -/
namespace DL
open PySem PySem.Spec PyProof.Rows L2
section
variable {X : Cx} {c : C0} {Γ : List Sl} {K : Sl → Prop} {tg iter elt : Expr} {ifs : List Expr} {scope : Scope} {own : List (Str × Nat)} {pos : Pos}
theorem lc_DX (hv : own.all (fun p => decide (p.2 < Γ.length)) = true)
    (h : WPi X c tg iter Γ fun n item => ∃ J : Nat → List DL.D → Prop, J 0 [] ∧ (∀ (F1 H1 : Hp) (i : Nat) (acc : List DL.D), i < n → J i acc → ∀ Y, IsBlk X scope Y → GtC Y (c.at F1 H1) tg (.im (item i)) (wipeS (Γ.map lookS) (own.map (·.2))) (own.map (·.2)) fun Γ2 =>
      ∀ Y, IsBlk X scope Y → WPts Y (c.at F1 H1) ifs Γ2 fun b => (b = true → ∀ Y, IsBlk X scope Y → WPe Y (c.at F1 H1) elt Γ2 fun r => ∃ d, frz r = .im d ∧ acc.length < sizeLine ∧ J (i + 1) (acc ++ [d])) ∧ (b = false → J (i + 1) acc)) ∧ ∀ acc, J n acc → K (.own (.lst acc)))
    (F H : Hp) (stk : L2.St) (S : List Sl) (σ : L2.St) (hl : stk.length = S.length) (E : EnvR c F H (stk ++ σ) (S ++ Γ)) (Q : VK) (q : ∀ v r F' H', K r → EnvR c F' H' (some v :: (stk ++ σ)) (r :: (S ++ Γ)) → Q v H') :
    tLc (IWt X tg iter) (gB X scope tg) (tB X scope ifs) (eB X scope elt) (own.map (·.2)) σ H Q := by
  refine h F H stk S σ hl E _ fun It n item src F1 H1 k1 io sF E1 D hD => ?_
  obtain ⟨J, j0, turn, fin⟩ := k1
  have hDW : D ∉ c.W := fun w => E1.wne w hD
  have hD1 : F1 D = none := E1.ex.back hD
  have hvs : ∀ v ∈ own.map (·.2), v < Γ.length := fun v hm => by
    obtain ⟨p, hp, rfl⟩ := List.mem_map.mp hm
    exact of_decide_eq_true (List.all_eq_true.mp hv p hp)
  refine ⟨fun i m H => m = n - i ∧ i ≤ n ∧ ∃ F acc vs', J i acc ∧ Acc c F1 H1 F H D ∧ H D = some (.lst vs') ∧ Dats F acc vs', ⟨n, by simp, Nat.zero_le _, F1, [], [], j0, ⟨E1.ex.mut hD1, Gr.refl _ _, fun a u ha _ => by rw [upd_ne (ne_of_none ha hD)]; exact ha, c.stab H1 _ (fun a w => upd_ne (fun z => hDW (by rw [← z]; exact w))) (extx_new hD) E1.hk, hD1⟩, upd_same, .nil⟩, ?_⟩
  rintro i m H2 ⟨rfl, hi, F2, acc, vs', ji, A, hD2, hd⟩
  have sF2 : src F2 := io.mono F1 F2 A.gr.1 sF
  have E2 := A.env (vs := own.map (·.2)) E1 hl hvs hD (d := .lst acc) ⟨vs', hD2, hd⟩
  by_cases hlt : i < n
  · refine .inr ⟨io.go F2 H2 i A.ex sF2 hlt, fun H' => ∃ F acc vs', J (i + 1) acc ∧ Acc c F1 H1 F H' D ∧ H' D = some (.lst vs') ∧ Dats F acc vs', fun H' hN => ⟨n - (i + 1), by omega, rfl, hlt, hN⟩, fun x H' hy => ?_⟩
    obtain ⟨F3, e3, E3⟩ := io.yld _ F2 H2 _ _ i x H' E2 sF2 hlt hy
    intro Y hY
    refine turn F1 H1 i acc hlt ji Y hY F3 H' (some (.ref D) :: stk) (.own (.lst acc) :: S.map lookS) _ x (by simp [hl]) E3 _ fun F4 H4 σ4 Γ4 k4 w4 E4 => ⟨w4.trans wipe_wipe, ?_⟩
    have step : ∀ (F5 H5 : Hp), EnvR (c.at F1 H1) F5 H5 (some (.ref D) :: (stk ++ σ4)) (.own (.lst acc) :: (S.map lookS ++ Γ4)) → ∀ b : Bool, ((b = true → ∀ Y, IsBlk X scope Y → WPe Y (c.at F1 H1) elt Γ4 fun r => ∃ d, frz r = .im d ∧ acc.length < sizeLine ∧ J (i + 1) (acc ++ [d])) ∧ (b = false → J (i + 1) acc)) →
        if b = true then eB X scope elt σ4 H5 fun y H4 => ∃ acc, H4 D = some (.lst acc) ∧ acc.length < sizeLine ∧ (fun H' => ∃ F acc vs', J (i + 1) acc ∧ Acc c F1 H1 F H' D ∧ H' D = some (.lst vs') ∧ Dats F acc vs') (upd H4 D (.lst (acc ++ [y]))) else (fun H' => ∃ F acc vs', J (i + 1) acc ∧ Acc c F1 H1 F H' D ∧ H' D = some (.lst vs') ∧ Dats F acc vs') H5 := by
      intro F5 H5 E5 b kb
      have own5 : ∀ {F H : Hp} {L : L2.St} {G : List Sl}, EnvR (c.at F1 H1) F H (some (.ref D) :: L) (.own (.lst acc) :: G) → ∃ ws, H D = some (.lst ws) ∧ Dats F acc ws ∧ F D = none := fun {F H L G} E => by
        obtain ⟨p, hp, ⟨ws, w1, w2⟩, w3, _⟩ := E.own (i := 0) rfl
        have e : D = p := by simpa using hp
        subst e
        exact ⟨ws, w1, w2, w3⟩
      cases b with
      | false =>
        refine iteF ?_
        obtain ⟨ws, w1, w2, w3⟩ := own5 E5
        exact ⟨F5, acc, ws, kb.2 rfl, ⟨E5.ex, ⟨E5.ex0, E5.gr⟩, E5.fr, E5.hk, w3⟩, w1, w2⟩
      | true =>
        refine iteT ?_
        intro Y hY
        refine kb.1 rfl Y hY F5 H5 (some (.ref D) :: stk) (.own (.lst acc) :: S.map lookS) σ4 (by simp [hl]) E5 _ fun y r F6 H6 k6 E6 => ?_
        obtain ⟨d, hfr, hlen, j6⟩ := k6
        obtain ⟨F7, E7⟩ := E6.frzTop
        rw [hfr] at E7
        have hy := E7.imAt (i := 0) rfl rfl
        have E8 := E7.pop
        obtain ⟨ws, w1, w2, w3⟩ := own5 E8
        refine ⟨ws, w1, by rw [← w2.length]; exact hlen, F7, acc ++ [d], ws ++ [y], j6, ⟨E8.ex.mut w3, ⟨E8.ex0, E8.gr⟩, fun a o ha w => ?_, c.stab H6 _ (fun a w => upd_ne (fun z => hDW (by rw [← z]; exact w))) (extx_mut fun φ z => by rw [w1] at z; cases z) E8.hk, w3⟩, upd_same, w2.append (.one hy)⟩
        rw [upd_ne (ne_of_none ha hD)]
        exact E8.fr a o ha w
    have E4' : EnvR (c.at F1 H1) F4 H4 (some (.ref D) :: (stk ++ σ4)) (.own (.lst acc) :: (S.map lookS ++ Γ4)) := E4
    match ifs, k4 with
    | [], k4 => exact step F4 H4 E4' true (k4 Y hY)
    | [t], k4 =>
      intro Y hY
      exact k4 Y hY F4 H4 (some (.ref D) :: stk) (.own (.lst acc) :: S.map lookS) σ4 (by simp [hl]) E4 _ fun b F5 H5 kb E5 => step F5 H5 E5 b kb
    | _ :: _ :: _, k4 => exact (k4 Y hY).elim
  · have e : i = n := by omega
    subst e
    refine .inl ⟨io.stop F2 H2 A.ex sF2, q (.ref D) (.own (.lst acc)) F2 H2 (fin acc ji) ?_⟩
    exact E1.ret E2.only rfl rfl (fun a z => z) A.hk (fun z => by cases z) rfl
theorem wp_lcX (hc : X.calm = true) (hN : X.N.Nodup) (ok : BlkOk X.N X.env.scope scope own) (hv : own.all (fun p => decide (p.2 < Γ.length)) = true)
    (h : WPi X c tg iter Γ fun n item => ∃ J : Nat → List DL.D → Prop, J 0 [] ∧ (∀ (F1 H1 : Hp) (i : Nat) (acc : List DL.D), i < n → J i acc → ∀ Y, IsBlk X scope Y → GtC Y (c.at F1 H1) tg (.im (item i)) (wipeS (Γ.map lookS) (own.map (·.2))) (own.map (·.2)) fun Γ2 =>
      ∀ Y, IsBlk X scope Y → WPts Y (c.at F1 H1) ifs Γ2 fun b => (b = true → ∀ Y, IsBlk X scope Y → WPe Y (c.at F1 H1) elt Γ2 fun r => ∃ d, frz r = .im d ∧ acc.length < sizeLine ∧ J (i + 1) (acc ++ [d])) ∧ (b = false → J (i + 1) acc)) ∧ ∀ acc, J n acc → K (.own (.lst acc)))
    (hs : ∀ x, foldedSetIterable iter X.env x = pure x := by intro _; rfl) : WPe X c (.ListComp elt [⟨tg, iter, ifs, 0⟩] scope pos) Γ K := fun F H stk S σ hl E Q q =>
  we_of (pe_lc hc hN pi_iw ok pg_gB pt_tB pe_eB hs) (lc_DX hv h F H stk S σ hl E Q q)
/-- x = [.. for ..] on one line -/
theorem wst_setLcX (i : Nat) {y : Str} {py spos : Pos} {D : DEnds} (hc : X.calm = true) (hN : X.N.Nodup) (ok : BlkOk X.N X.env.scope scope own) (hv : own.all (fun p => decide (p.2 < Γ.length)) = true)
    (h : WPi X c tg iter Γ fun n item => ∃ J : Nat → List DL.D → Prop, J 0 [] ∧ (∀ (F1 H1 : Hp) (i : Nat) (acc : List DL.D), i < n → J i acc → ∀ Y, IsBlk X scope Y → GtC Y (c.at F1 H1) tg (.im (item i)) (wipeS (Γ.map lookS) (own.map (·.2))) (own.map (·.2)) fun Γ2 =>
      ∀ Y, IsBlk X scope Y → WPts Y (c.at F1 H1) ifs Γ2 fun b => (b = true → ∀ Y, IsBlk X scope Y → WPe Y (c.at F1 H1) elt Γ2 fun r => ∃ d, frz r = .im d ∧ acc.length < sizeLine ∧ J (i + 1) (acc ++ [d])) ∧ (b = false → J (i + 1) acc)) ∧ ∀ acc, J n acc → D.nx (Γ.set i (.own (.lst acc))))
    (hi : i < Γ.length := by exact Nat.le_of_ble_eq_true rfl) (hy : X.N[i]? = some y := by rfl) (hyl : X.env.scope.names.lookup y = some .local := by rfl) (hsw : swapsWith (.ListComp elt [⟨tg, iter, ifs, 0⟩] scope pos) (some (.Name y py)) spos.line X.env = pure true := by rfl)
    (hs : ∀ x, foldedSetIterable iter X.env x = pure x := by intro _; rfl) : WPst X c (.Assign [.Name y py] (.ListComp elt [⟨tg, iter, ifs, 0⟩] scope pos) spos) Γ D := fun F H σ E Ee ok' => by
  refine ws_of (ps_setLc hc hN hy hyl hsw pi_iw ok pg_gB pt_tB pe_eB hs) ?_
  refine lc_DX (K := fun r => ∃ acc, r = .own (.lst acc) ∧ D.nx (Γ.set i (.own (.lst acc)))) hv (fun F H stk S σ hl E R q => h F H stk S σ hl E R fun J' n item src F' H' k => q J' n item src F' H' ⟨k.choose, k.choose_spec.1, k.choose_spec.2.1, fun acc ja => ⟨acc, rfl, k.choose_spec.2.2 acc ja⟩⟩) F H [] [] σ rfl E.env _ fun v r F' H' k E' => ?_
  obtain ⟨acc, rfl, k⟩ := k
  exact ok'.nx _ F' H' _ k ⟨EnvR.store (Γ := Γ) (σ := σ) E' hi, E.nv.set rfl⟩
end
end DL

set_option Elab.async false
set_option linter.all false
set_option pp.maxSteps 300
set_option maxRecDepth 100000
set_option maxHeartbeats 4000000
/-! V3: what an expression asks is enough -/
namespace DL
open PySem PySem.Spec PyProof.Rows L2
section
variable {X : Cx} {c : C0} {Γ : List Sl} {K : Sl → Prop} {KB : Bool → Prop} {a b d e : Expr} {es : List Expr} {pos : Pos}
theorem WPa.mono {KA KA' : List Sl → Prop} (h : WPa X c es Γ KA) (k : ∀ r, KA r → KA' r) : WPa X c es Γ KA' := fun F H stk S σ hl E Q q => h F H stk S σ hl E Q fun vs rs F' H' kr => q vs rs F' H' (k rs kr)
theorem WPw.mono {K' : Bool → Prop} (h : WPw X c e Γ KB) (k : ∀ r, KB r → K' r) : WPw X c e Γ K' := fun F H stk S σ hl E Q q => h F H stk S σ hl E Q fun b F' H' kr => q b F' H' (k b kr)
theorem OpD.mono {f : Value → Value → Sem Value} {x y : Sl} {K' : Sl → Prop} (h : OpD X c f x y K) (k : ∀ r, K r → K' r) : OpD X c f x y K' := fun F H L G u v E Q q => h F H L G u v E Q fun w r F' H' kr => q w r F' H' (k r kr)
theorem sBin {op : Operator} {x y : Sl} (h : vBin X c op x y K) : OpD X c (binaryOp op) x y K := by
  unfold vBin at h
  split at h
  · exact od_add h
  · exact od_sub h
  · exact od_mul h.1 h.2
  · exact od_repT h.1.1 h.1.2.1 h.1.2.2 h.2
  · exact od_mod h.1 h.2
  · exact od_fdiv h.1 h.2
  · exact od_catStr h.1 h.2 op_add_str
  · exact od_catT h.1 h.2
  · exact od_cat rfl rfl h.1 h.2
  · exact od_cat rfl rfl h.1 h.2
  · exact h
theorem sCmp {op : CmpOp} {x y : Sl} (h : vCmp X c op x y K) : OpD X c (compareOp op) x y K := by
  unfold vCmp at h
  split at h
  · exact od_lt h
  · exact od_le h
  · exact od_gt h
  · exact od_ge h
  · exact od_eqI h
  · exact od_neI h
  · exact od_eqS h
  · exact od_neS h
  · exact od_isN h
  · exact od_notB h
  · exact h
theorem cd_lenStr {s : Str} (hz : s.length ≤ sizeLine) (k : K (.im (.int s.length))) : CallD X c (.builtin "len") [.im (.str s)] K := cd_val (ds := [.str s]) (dr := .int s.length) call_len_str (fun F H xs _ hx => ⟨.int s.length, rfl, fun Q q => by
    obtain ⟨v, w, e, hv, e2⟩ := hx
    have e2' : w = [] := e2
    subst e2' e
    exact ⟨s, by rw [show v = .str s from hv], hz, q⟩⟩) k
theorem cd_ord {s : Str} (hz : s.length = 1) (k : K (.im (.int (s.cps.getD 0 0 : Nat)))) : CallD X c (.builtin "ord") [.im (.str s)] K := cd_val (ds := [.str s]) (dr := .int (s.cps.getD 0 0 : Nat)) call_ord (fun F H xs _ hx => ⟨.int (s.cps.getD 0 0 : Nat), rfl, fun Q q => by
    obtain ⟨v, w, e, hv, e2⟩ := hx
    have e2' : w = [] := e2
    subst e2' e
    exact ⟨s, by rw [show v = .str s from hv], hz, q⟩⟩) k
theorem itok_str {s : Str} : ItOk (Its s) s.length (fun i => .str ⟨#[s.cps.getD i 0]⟩) (fun _ => True) where
  mono := fun _ _ _ h => h
  go := fun _ _ i _ _ hi => hi
  yld := fun c F H σ Γ i x H' E _ hi hy => by
    obtain ⟨rfl, c', hc', rfl⟩ := hy
    refine ⟨F, Ex.refl F, E.push ?_⟩
    show V.str _ = V.str _
    rw [Array.getD_eq_getD_getElem?, hc']
    rfl
  stop := fun _ _ _ _ => Nat.le_refl _
theorem wpi_str {tg e : Expr} {KI : Nat → (Nat → DL.D) → Prop} (h : WPe X c e Γ fun r => ∃ s, frz r = .im (.str s) ∧ KI s.length fun i => .str ⟨#[s.cps.getD i 0]⟩) : WPi X c tg e Γ KI := fun F H stk S σ hl E R q => by
  refine iw_of (pi_str pe_we) ?_
  refine h F H stk S σ hl E _ fun v r F1 H1 k1 E1 => ?_
  obtain ⟨s, er, k⟩ := k1
  obtain ⟨F1, E1⟩ := E1.frzTop
  rw [er] at E1
  have hv : v = .str s := E1.imAt (i := 0) rfl rfl
  exact ⟨s, hv, q _ _ _ _ F1 H1 k itok_str trivial E1.pop⟩
theorem sBi {f : Bi} {rs : List Sl} (hc : X.calm = true) (h : vBi X c f rs K) : CallD X c (.builtin f.id) rs K := by
  unfold vBi at h
  split at h
  · exact cd_len rfl h
  · exact cd_len rfl h
  · exact cd_len rfl h
  · exact cd_lenStr h.1 h.2
  · exact cd_abs h
  · obtain ⟨bs, rfl, h⟩ := h
    exact cd_all hc rfl h
  · obtain ⟨bs, rfl, h⟩ := h
    exact cd_sum hc rfl h
  · exact cd_min hc h
  · exact cd_ord h.1 h.2
  · exact h
theorem sTy {f : Ty} {rs : List Sl} (h : vTy X c f rs K) : CallD X c (.type f.id) rs K := by
  unfold vTy at h
  split at h
  · exact cd_tuple rfl h
  · exact cd_tuple rfl h
  · exact cd_tuple rfl h
  · exact cd_list rfl h
  · exact cd_list rfl h
  · exact cd_list rfl h
  · exact cd_int h
  · exact cd_intB h
  · exact cd_strInt h.1 h.2
  · exact h
theorem sIx {x y : Sl} (h : vIx X c x y K) : IxD X c x y K := by
  unfold vIx at h
  split at h
  · obtain ⟨d, h1, h2⟩ := h
    exact xd_seq rfl h1 h2
  · obtain ⟨d, h1, h2⟩ := h
    exact xd_seq rfl h1 h2
  · obtain ⟨d, h1, h2⟩ := h
    exact xd_seq rfl h1 h2
  · exact h
end
theorem ims_cond {rs : List Sl} {P : List D → Prop} (h : match ims rs with | some ds => P ds | none => False) : ∃ ds, rs = ds.map Sl.im ∧ P ds := by
  split at h
  · exact ⟨_, ims_eq ‹_›, h⟩
  · exact h.elim
theorem bl_cond {r : Sl} {P : Bool → Prop} (h : match r with | .im (.bl b) => P b | _ => False) : ∃ k, r = .im (.bl k) ∧ P k := by
  split at h
  · exact ⟨_, rfl, h⟩
  · exact h.elim
theorem see_cond {s : Sl} {P : Sl → Prop} (h : match see s with | some r => P r | none => False) : ∃ r, see s = some r ∧ P r := by
  split at h
  · exact ⟨_, ‹_›, h⟩
  · exact h.elim
theorem see_any {s r : Sl} (h : see s = some r) : s ≠ .any := fun z => by
  rw [z] at h
  cases h
theorem int_cond {r : Sl} {P : Int → Prop} (h : match r with | .im (.int i) => P i | _ => False) : ∃ i, r = .im (.int i) ∧ P i := by
  split at h
  · exact ⟨_, rfl, h⟩
  · exact h.elim
theorem tup_cond {r : Sl} {P : List D → Prop} (h : match r with | .im (.tup l) => P l | _ => False) : ∃ l, r = .im (.tup l) ∧ P l := by
  split at h
  · exact ⟨_, rfl, h⟩
  · exact h.elim
theorem ilst_cond {r : Sl} {P : List D → Prop} (h : match r with | .im (.lst l) => P l | _ => False) : ∃ l, r = .im (.lst l) ∧ P l := by
  split at h
  · exact ⟨_, rfl, h⟩
  · exact h.elim
theorem lst_cond {r : Sl} {P : List D → Prop} (h : match lst? r with | some l => P l | none => False) : ∃ l, lst? r = some l ∧ P l := by
  split at h
  · exact ⟨_, ‹_›, h⟩
  · exact h.elim
theorem im_cond {r : Sl} {P : D → Prop} (h : match r with | .im d => P d | _ => False) : ∃ d, r = .im d ∧ P d := by
  split at h
  · exact ⟨_, rfl, h⟩
  · exact h.elim
theorem set_cond {o : Option (List Sl)} {P : List Sl → Prop} (h : match o with | some Γ => P Γ | none => False) : ∃ Γ, o = some Γ ∧ P Γ := by
  split at h
  · exact ⟨_, rfl, h⟩
  · exact h.elim
theorem str_cond {r : Sl} {P : Str → Prop} (h : match r with | .im (.str l) => P l | _ => False) : ∃ l, r = .im (.str l) ∧ P l := by
  split at h
  · exact ⟨_, rfl, h⟩
  · exact h.elim
theorem int2_cond {r r2 : Sl} {P : Int → Int → Prop} (h : match r, r2 with | .im (.int i), .im (.int j) => P i j | _, _ => False) : ∃ i j, r = .im (.int i) ∧ r2 = .im (.int j) ∧ P i j := by
  split at h
  · exact ⟨_, _, rfl, rfl, h⟩
  · exact h.elim
theorem tup2_cond {r r2 : Sl} {P : List D → List D → Prop} (h : match r, r2 with | .im (.tup i), .im (.tup j) => P i j | _, _ => False) : ∃ i j, r = .im (.tup i) ∧ r2 = .im (.tup j) ∧ P i j := by
  split at h
  · exact ⟨_, _, rfl, rfl, h⟩
  · exact h.elim
theorem lt2_cond {r r2 : Sl} {P : List D → List D → Prop} (h : match r, r2 with | .im (.lst i), .im (.tup j) => P i j | _, _ => False) : ∃ i j, r = .im (.lst i) ∧ r2 = .im (.tup j) ∧ P i j := by
  split at h
  · exact ⟨_, _, rfl, rfl, h⟩
  · exact h.elim
theorem lst2_cond {r r2 : Sl} {P : List D → List D → Prop} (h : match r, r2 with | .im (.lst i), .im (.lst j) => P i j | _, _ => False) : ∃ i j, r = .im (.lst i) ∧ r2 = .im (.lst j) ∧ P i j := by
  split at h
  · exact ⟨_, _, rfl, rfl, h⟩
  · exact h.elim
theorem WPi.mono {X : Cx} {c : C0} {tg e : Expr} {Γ : List Sl} {KI KI' : Nat → (Nat → DL.D) → Prop} (h : WPi X c tg e Γ KI) (k : ∀ n item, KI n item → KI' n item) : WPi X c tg e Γ KI' := fun F H stk S σ hl E R q => h F H stk S σ hl E R fun J n item src F' H' ki => q J n item src F' H' (k n item ki)
/-- a target of a comprehension -/
theorem rTgC {X : Cx} {c : C0} {S : SC} {tg : RT} {e : Expr} {Γ Γ2 : List Sl} {d : DL.D} {vs : List Nat} {K : List Sl → Prop} (ok : OkC X S) (h : ckTg S tg e = true) (hi : tgIn tg vs = true) (hs : setT tg d Γ = some Γ2) (k : K Γ2) : GtC X c e (.im d) Γ vs K := by
  unfold ckTg at h
  split at h
  · obtain ⟨h1, h2, h3⟩ := ok.tgt h
    obtain ⟨g1, rfl⟩ := sO_eq hs
    exact gtc_name _ ok.nd k g1 (of_decide_eq_true hi) h1 h2 h3
  · rw [Bool.and_eq_true] at h
    obtain ⟨h1, h2, h3⟩ := ok.tgt h.1
    obtain ⟨g1, g2, g3⟩ := ok.tgt h.2
    have hi : (decide (_ ∈ vs) && decide (_ ∈ vs)) = true := hi
    rw [Bool.and_eq_true] at hi
    unfold setT at hs
    split at hs <;> rename_i q
    · cases q
    · cases q
      obtain ⟨l1, l2, rfl⟩ := sO2_eq hs
      exact gtc_tup2 _ _ ok.calm ok.nd k l1 l2 (of_decide_eq_true hi.1) (of_decide_eq_true hi.2) h1 g1 h2 g2 h3 g3
    · cases q
    · cases hs
  · simp only [Bool.and_eq_true] at h
    obtain ⟨h1, h2, h3⟩ := ok.tgt h.1
    obtain ⟨g1, g2, g3⟩ := ok.tgt h.2.1
    obtain ⟨f1, f2, f3⟩ := ok.tgt h.2.2
    have hi : (decide (_ ∈ vs) && (decide (_ ∈ vs) && decide (_ ∈ vs))) = true := hi
    simp only [Bool.and_eq_true] at hi
    unfold setT at hs
    split at hs <;> rename_i q
    · cases q
    · cases q
    · cases q
      obtain ⟨l1, l2, l3, rfl⟩ := sO3_eq hs
      exact gtc_tup3 _ _ _ ok.calm ok.nd k l1 l2 l3 (of_decide_eq_true hi.1) (of_decide_eq_true hi.2.1) (of_decide_eq_true hi.2.2) h1 g1 f1 h2 g2 f2 h3 g3 f3
    · cases hs
  · cases h
theorem all_star {S : SC} : ∀ {rs : List RE} {es : List Expr}, ckA S rs es = true → es.all notStar = true
  | [], es, h => by
    unfold ckA at h
    rw [List.isEmpty_iff] at h
    rw [h]
    rfl
  | r :: rs, es, h => by
    unfold ckA at h
    split at h
    · simp only [Bool.and_eq_true] at h
      rw [List.all_cons, h.1, all_star h.2.2]
      rfl
    · cases h
theorem isTup_eq {tg : Expr} {r : RI} (h : (isTup tg || itN r) = true) (hr : itN r = false) : ∃ es k p, tg = .Tuple es k p := by
  rw [hr, Bool.or_false] at h
  unfold isTup at h
  split at h
  · exact ⟨_, _, _, rfl⟩
  · cases h
/-- the turns of a comprehension, as a rule wants them -/
theorem lc_turns {X : Cx} {c : C0} {tge x : Expr} {cde : List Expr} {scope : Scope} {own : List (Str × Nat)} {tg : RT} {Γ : List Sl} {n : Nat} {item : Nat → DL.D} {K : List DL.D → Prop} {PC : Cx → C0 → List Sl → (Bool → Prop) → Prop} {PE_ : Cx → C0 → List Sl → (Sl → Prop) → Prop}
    (L : LcV n (fun i acc Ka => ∀ F1 H1, ∃ d, item i = d ∧ match setT tg d (wipeS (Γ.map lookS) (own.map (·.2))) with
      | some Γ2 => ∀ Y, IsBlk X scope Y → PC Y (c.at F1 H1) Γ2 fun b => (b = true → ∀ Y, IsBlk X scope Y → PE_ Y (c.at F1 H1) Γ2 fun r => match frz r with
          | .im d' => Ka (acc ++ [d'])
          | _ => False) ∧ (b = false → Ka acc)
      | none => False) K)
    (ht : ∀ F1 H1 d Γ2 (Y : Cx) (K : List Sl → Prop), IsBlk X scope Y → setT tg d (wipeS (Γ.map lookS) (own.map (·.2))) = some Γ2 → K Γ2 → GtC Y (c.at F1 H1) tge (.im d) (wipeS (Γ.map lookS) (own.map (·.2))) (own.map (·.2)) K)
    (hc : ∀ F1 H1 Γ2 (Y : Cx) (KB : Bool → Prop), IsBlk X scope Y → PC Y (c.at F1 H1) Γ2 KB → WPts Y (c.at F1 H1) cde Γ2 KB)
    (he : ∀ F1 H1 Γ2 (Y : Cx) (K : Sl → Prop), IsBlk X scope Y → PE_ Y (c.at F1 H1) Γ2 K → WPe Y (c.at F1 H1) x Γ2 K) :
    ∃ J : Nat → List DL.D → Prop, J 0 [] ∧ (∀ (F1 H1 : Hp) (i : Nat) (acc : List DL.D), i < n → J i acc → ∀ Y, IsBlk X scope Y → GtC Y (c.at F1 H1) tge (.im (item i)) (wipeS (Γ.map lookS) (own.map (·.2))) (own.map (·.2)) fun Γ2 =>
      ∀ Y, IsBlk X scope Y → WPts Y (c.at F1 H1) cde Γ2 fun b => (b = true → ∀ Y, IsBlk X scope Y → WPe Y (c.at F1 H1) x Γ2 fun r => ∃ d, frz r = .im d ∧ acc.length < sizeLine ∧ J (i + 1) (acc ++ [d])) ∧ (b = false → J (i + 1) acc)) ∧ ∀ acc, J n acc → K acc := by
  obtain ⟨hn, J, j0, js, je⟩ := L
  refine ⟨fun i acc => acc.length ≤ i ∧ J i acc, ⟨Nat.le_refl 0, j0⟩, fun F1 H1 i acc hi hj Y hY => ?_, fun acc hj => je acc hj.2⟩
  obtain ⟨hl, hj⟩ := hj
  obtain ⟨d, e, T⟩ := js i acc hi hj F1 H1
  rw [e]
  obtain ⟨Γ2, hs, T⟩ := set_cond T
  refine ht F1 H1 d Γ2 Y _ hY hs fun Y hY => ?_
  have W := hc F1 H1 Γ2 Y _ hY (T Y hY)
  have fin : ∀ b : Bool, ((b = true → ∀ Y, IsBlk X scope Y → PE_ Y (c.at F1 H1) Γ2 fun r => match frz r with
          | .im d' => J (i + 1) (acc ++ [d'])
          | _ => False) ∧ (b = false → J (i + 1) acc)) → ((b = true → ∀ Y, IsBlk X scope Y → WPe Y (c.at F1 H1) x Γ2 fun r => ∃ d, frz r = .im d ∧ acc.length < sizeLine ∧ ((acc ++ [d]).length ≤ i + 1 ∧ J (i + 1) (acc ++ [d]))) ∧ (b = false → acc.length ≤ i + 1 ∧ J (i + 1) acc)) := fun b kb =>
    ⟨fun z Y hY => (he F1 H1 Γ2 Y _ hY (kb.1 z Y hY)).mono fun r kr => by
      obtain ⟨d', g1, g2⟩ := im_cond kr
      exact ⟨d', g1, by omega, by rw [List.length_append, List.length_singleton]; omega, g2⟩, fun z => ⟨by omega, kb.2 z⟩⟩
  match cde, W with
  | [], W => exact fin true W
  | [t], W => exact WPt.mono W fin
  | _ :: _ :: _, W => exact W.elim
mutual
theorem rE : ∀ (r : RE) {X : Cx} {c : C0} {S : SC} {e : Expr} {Γ : List Sl} {K : Sl → Prop}, OkC X S → ckE S r e = true → vE X c r e Γ K → WPe X c e Γ K
  | .opq, X, c, S, e, Γ, K, ok, h, k => k
  | .int i, X, c, S, e, Γ, K, ok, h, k => by
    obtain ⟨j, pos, rfl⟩ := isC_eq h
    exact wp_int k
  | .str i, X, c, S, e, Γ, K, ok, h, k => by
    obtain ⟨j, pos, rfl⟩ := isC_eq h
    exact wp_str k
  | .bl i, X, c, S, e, Γ, K, ok, h, k => by
    obtain ⟨j, pos, rfl⟩ := isC_eq h
    exact wp_bl k
  | .non, X, c, S, e, Γ, K, ok, h, k => by
    obtain ⟨j, pos, rfl⟩ := isC_eq h
    exact wp_non k
  | .dict0, X, c, S, e, Γ, K, ok, h, k => by
    obtain ⟨pos, rfl⟩ := isD0_eq h
    exact wp_dict0 k
  | .var i, X, c, S, e, Γ, K, ok, h, k => by
    unfold ckE at h
    split at h
    · rename_i x q
      obtain ⟨pos, rfl⟩ := pName_eq q
      obtain ⟨h1, h2, h3, h4⟩ := ok.var h
      obtain ⟨r, k1, k2⟩ := see_cond k
      exact wp_name i (gD_get rfl (see_any k1)) k1 k2 h1 h2 h3 h4
    · cases h
  | .gs x, X, c, S, e, Γ, K, ok, h, k => by
    unfold ckE at h
    split at h
    · rename_i y q
      obtain ⟨pos, rfl⟩ := pName_eq q
      simp only [Bool.and_eq_true, decide_eq_true_eq] at h
      obtain ⟨rfl, h⟩ := h
      obtain ⟨g1, g2⟩ := ok.glo h
      obtain ⟨s, t, k1, k2⟩ := k
      exact wp_gstr g1 k1 k2 g2
    · cases h
  | .gi x, X, c, S, e, Γ, K, ok, h, k => by
    unfold ckE at h
    split at h
    · rename_i y q
      obtain ⟨pos, rfl⟩ := pName_eq q
      simp only [Bool.and_eq_true, decide_eq_true_eq] at h
      obtain ⟨rfl, h⟩ := h
      obtain ⟨g1, g2⟩ := ok.glo h
      obtain ⟨s, t, k1, k2⟩ := k
      exact wp_gint g1 k1 k2 g2
    · cases h
  | .bin op a b, X, c, S, e, Γ, K, ok, h, k => by
    unfold ckE at h
    split at h
    · rename_i op' l r q
      obtain ⟨pos, rfl⟩ := pBin_eq q
      simp only [Bool.and_eq_true, decide_eq_true_eq] at h
      obtain ⟨rfl, h1, h2⟩ := h
      exact wp_binop <| (rE a ok h1 k).mono fun x kx => (rE b ok h2 kx).mono fun y ky => sBin ky
    · cases h
  | .neg a, X, c, S, e, Γ, K, ok, h, k => by
    unfold ckE at h
    split at h
    · rename_i op' x q
      obtain ⟨pos, rfl⟩ := pUn_eq q
      simp only [Bool.and_eq_true, decide_eq_true_eq] at h
      obtain ⟨rfl, h1⟩ := h
      refine wp_unop <| (rE a ok h1 k).mono fun x kx => ?_
      split at kx
      · rename_i q
        rw [q]
        exact ud_neg kx
      · exact kx
    · cases h
  | .cmp op a b, X, c, S, e, Γ, K, ok, h, k => by
    unfold ckE at h
    split at h
    · rename_i op' l r q
      obtain ⟨pos, rfl⟩ := pCmp_eq q
      simp only [Bool.and_eq_true, decide_eq_true_eq, Bool.not_eq_true'] at h
      obtain ⟨rfl, hm, h1, h2⟩ := h
      exact wp_cmp ((rE a ok h1 k).mono fun x kx => (rE b ok h2 kx).mono fun y ky => sCmp ky) hm
    · cases h
  | .cm2 o1 o2 a b d, X, c, S, e, Γ, K, ok, h, k => by
    unfold ckE at h
    split at h
    · rename_i p1 p2 l r r2 q
      obtain ⟨pos, rfl⟩ := pCm2_eq q
      simp only [Bool.and_eq_true, decide_eq_true_eq] at h
      obtain ⟨rfl, rfl, hm, h1, h2, h3⟩ := h
      refine wp_cmp2 ((rE a ok h1 k).mono fun x kx => (rE b ok h2 kx).mono fun y ky => ?_) (nobehind _ hm.1 hm.2)
      obtain ⟨da, db, g1, g2, g3⟩ := ky
      refine ⟨da, db, g1, g2, (sCmp g3).mono fun r kr => ?_⟩
      obtain ⟨b, rfl, k1, k2⟩ := bl_cond kr
      exact ⟨b, rfl, fun z => (rE d ok h3 (k1 z)).mono fun w kw => sCmp kw, k2⟩
    · cases h
  | .nt a, X, c, S, e, Γ, K, ok, h, k => by
    unfold ckE at h
    split at h
    · rename_i op' x q
      obtain ⟨pos, rfl⟩ := pUn_eq q
      simp only [Bool.and_eq_true, decide_eq_true_eq] at h
      obtain ⟨rfl, h1⟩ := h
      exact wp_not <| (rE a ok h1 k).mono fun x kx => bl_cond kx
    · cases h
  | .bo kk es, X, c, S, e, Γ, K, ok, h, k => by
    unfold ckE at h
    split at h
    · rename_i op' xs q
      obtain ⟨pos, rfl⟩ := pBool_eq q
      simp only [Bool.and_eq_true, decide_eq_true_eq] at h
      obtain ⟨rfl, h1⟩ := h
      exact rBo es ok h1 k
    · cases h
  | .ifx t a b, X, c, S, e, Γ, K, ok, h, k => by
    unfold ckE at h
    split at h
    · rename_i te x y q
      obtain ⟨pos, rfl⟩ := pIf_eq q
      simp only [Bool.and_eq_true] at h
      obtain ⟨h1, h2, h3⟩ := h
      exact wp_ifExp <| (rT t ok h1 k).mono fun z kz => ⟨fun e => rE a ok h2 (kz.1 e), fun e => rE b ok h3 (kz.2 e)⟩
    · cases h
  | .tup es, X, c, S, e, Γ, K, ok, h, k => by
    unfold ckE at h
    split at h
    · rename_i xs q
      obtain ⟨kk, pos, rfl⟩ := pTup_eq q
      simp only [Bool.and_eq_true] at h
      refine wp_tup <| (rA es ok h.2 k).mono fun rs kr => ?_
      obtain ⟨ds, rfl, k2⟩ := ims_cond kr.1
      exact ⟨ds, rfl, Nat.le_trans (by have := Nat.le_of_ble_eq_true h.1; have e := kr.2; rw [List.length_map] at e; omega : ds.length ≤ 1000) (by decide), k2⟩
    · cases h
  | .lst es, X, c, S, e, Γ, K, ok, h, k => by
    unfold ckE at h
    split at h
    · rename_i xs q
      obtain ⟨pos, rfl⟩ := pLst_eq q
      simp only [Bool.and_eq_true] at h
      refine wp_lst <| (rA es ok h.2 k).mono fun rs kr => ?_
      obtain ⟨ds, rfl, k2⟩ := ims_cond kr.1
      exact ⟨ds, rfl, Nat.le_trans (by have := Nat.le_of_ble_eq_true h.1; have e := kr.2; rw [List.length_map] at e; omega : ds.length ≤ 1000) (by decide), k2⟩
    · cases h
  | .ix a b, X, c, S, e, Γ, K, ok, h, k => by
    unfold ckE at h
    split at h
    · rename_i x y q
      obtain ⟨pos, rfl⟩ := pSub_eq q
      simp only [Bool.and_eq_true] at h
      obtain ⟨h0, h1, h2⟩ := h
      exact wp_ix ((rE a ok h1 k).mono fun x kx => (rE b ok h2 kx).mono fun y ky => sIx ky) (plain_ix h0)
    · cases h
  | .dget a b, X, c, S, e, Γ, K, ok, h, k => by
    unfold ckE at h
    split at h
    · rename_i x y q
      obtain ⟨pos, rfl⟩ := pSub_eq q
      simp only [Bool.and_eq_true] at h
      obtain ⟨h0, h1, h2⟩ := h
      exact wp_dget (by have := ok.un; omega) ((rE a ok h1 k).mono fun x kx => rE b ok h2 kx) (plain_sl h0)
    · cases h
  | .slT a lo hi, X, c, S, e, Γ, K, ok, h, k => by
    unfold ckE at h
    split at h
    · rename_i x y q
      obtain ⟨pos, rfl⟩ := pSub_eq q
      split at h
      · rename_i l hh q2
        obtain ⟨pos2, rfl⟩ := pSlc_eq q2
        simp only [Bool.and_eq_true] at h
        obtain ⟨h0, h1, h2⟩ := h
        refine wp_sliceT <| (rE a ok h0 k).mono fun x kx => ?_
        obtain ⟨l, rfl, k2⟩ := tup_cond kx
        exact ⟨l, rfl, rO lo ok (d := e1 (.Slice _ _ none pos2)) h1 (fun z => by rw [z]; rfl) k2 fun o1 k3 => rO hi ok (d := e2 (.Slice _ _ none pos2)) h2 (fun z => by rw [z]; rfl) k3 fun o2 k4 => k4⟩
      · cases h
    · cases h
  | .slL a lo hi, X, c, S, e, Γ, K, ok, h, k => by
    unfold ckE at h
    split at h
    · rename_i x y q
      obtain ⟨pos, rfl⟩ := pSub_eq q
      split at h
      · rename_i l hh q2
        obtain ⟨pos2, rfl⟩ := pSlc_eq q2
        simp only [Bool.and_eq_true] at h
        obtain ⟨h0, h1, h2⟩ := h
        refine wp_sliceL <| (rE a ok h0 k).mono fun x kx => ?_
        obtain ⟨l, e, k2⟩ := lst_cond kx
        exact ⟨l, e, rO lo ok (d := e1 (.Slice _ _ none pos2)) h1 (fun z => by rw [z]; rfl) k2 fun o1 k3 => rO hi ok (d := e2 (.Slice _ _ none pos2)) h2 (fun z => by rw [z]; rfl) k3 fun o2 k4 => k4⟩
      · cases h
    · cases h
  | .revT a, X, c, S, e, Γ, K, ok, h, k => by
    unfold ckE at h
    split at h
    · rename_i x y q
      obtain ⟨pos, rfl⟩ := pSub_eq q
      simp only [Bool.and_eq_true] at h
      obtain ⟨h0, h1⟩ := h
      obtain ⟨k1, q1, q2, q3, rfl⟩ := isRev_eq h0
      exact wp_revT <| (rE a ok h1 k).mono fun x kx => tup_cond kx
    · cases h
  | .revL a, X, c, S, e, Γ, K, ok, h, k => by
    unfold ckE at h
    split at h
    · rename_i x y q
      obtain ⟨pos, rfl⟩ := pSub_eq q
      simp only [Bool.and_eq_true] at h
      obtain ⟨h0, h1⟩ := h
      obtain ⟨k1, q1, q2, q3, rfl⟩ := isRev_eq h0
      exact wp_rev <| (rE a ok h1 k).mono fun x kx => lst_cond kx
    · cases h
  | .isi a T, X, c, S, e, Γ, K, ok, h, k => by
    unfold ckE at h
    split at h
    · rename_i f x y q
      obtain ⟨p, pos, rfl⟩ := pCall_eq q
      split at h
      · rename_i t q2
        obtain ⟨pos2, rfl⟩ := pName_eq q2
        simp only [Bool.and_eq_true, decide_eq_true_eq] at h
        obtain ⟨rfl, rfl, h1, h2, h3, h4⟩ := h
        obtain ⟨b1, b2, b3, b4⟩ := ok.blt h1
        obtain ⟨d1, d2, d3, d4⟩ := ok.blt h2
        refine wp_isi b3 d3 T.boot ((rE a ok h4 k).mono fun x kx => ?_) b1 d1 d4 d2 (star_cons h3) (star_cons rfl) rfl
        obtain ⟨b, k1, k2⟩ := kx
        obtain ⟨t, g1, g2, g3⟩ := isT_ok k1
        exact ⟨t, b, g1, g2, g3, k2⟩
      · cases h
    · cases h
  | .bi f es, X, c, S, e, Γ, K, ok, h, k => by
    unfold ckE at h
    split at h
    · rename_i g x xs q
      obtain ⟨p, pos, rfl⟩ := pCall_eq q
      simp only [Bool.and_eq_true, decide_eq_true_eq] at h
      obtain ⟨rfl, h1, h2⟩ := h
      obtain ⟨b1, b2, b3, b4⟩ := ok.blt h1
      have st := all_star h2
      rw [List.all_cons, Bool.and_eq_true] at st
      exact wp_callB b3 f.boot ((rA es ok h2 k).mono fun rs kr => sBi ok.calm kr.1) b1 b4 b2 (star_cons st.1) (pl_of st.2)
    · cases h
  | .ty f es, X, c, S, e, Γ, K, ok, h, k => by
    unfold ckE at h
    split at h
    · rename_i g x xs q
      obtain ⟨p, pos, rfl⟩ := pCall_eq q
      simp only [Bool.and_eq_true, decide_eq_true_eq] at h
      obtain ⟨rfl, h1, h2⟩ := h
      obtain ⟨b1, b2, b3, b4⟩ := ok.blt h1
      have st := all_star h2
      rw [List.all_cons, Bool.and_eq_true] at st
      exact wp_callTy b3 f.boot ((rA es ok h2 k).mono fun rs kr => sTy kr.1) b1 b4 b2 (star_cons st.1) (pl_of st.2)
    · cases h
  | .fn f es, X, c, S, e, Γ, K, ok, h, k => by
    unfold ckE at h
    split at h
    · rename_i g x xs q
      obtain ⟨p, pos, rfl⟩ := pCall_eq q
      simp only [Bool.and_eq_true, decide_eq_true_eq] at h
      obtain ⟨rfl, h1, h2⟩ := h
      obtain ⟨b1, b2⟩ := ok.glo h1
      have st := all_star h2
      rw [List.all_cons, Bool.and_eq_true] at st
      obtain ⟨T, hT, k2⟩ := k
      exact hT _ _ _ _ _ _ b1 (star_cons st.1) b2 (pl_of st.2) ((rA es ok h2 k2).mono fun rs kr => kr.1)
    · cases h
  | .lc own tg it cd elt, X, c, S, e, Γ, K, ok, h, k => by
    unfold ckE at h
    split at h
    · rename_i x tge ite cde scope q
      obtain ⟨pos, rfl⟩ := pLc_eq q
      simp only [Bool.and_eq_true, decide_eq_true_eq] at h
      obtain ⟨h1, hk, h2, h3, h4, h5, h6, h7, h8⟩ := h
      have hb : BlkOk X.N X.env.scope scope own := by
        rw [ok.hN, ok.hs]
        exact blkOk_by h1
      have k := gate_ok k
      refine wp_lcX ok.calm ok.nd hb (ownR_all k.1) ((rI it (tg := tge) ok h3 h8 k.2).mono fun n item kI => ?_) (no_set h2 _)
      exact lc_turns (PC := fun Y c Γ2 KB => vC Y c cd (eC (.ListComp x [⟨tge, ite, cde, 0⟩] scope pos)) Γ2 KB) (PE_ := fun Y c Γ2 K => vE Y c elt x Γ2 K) kI (fun F1 H1 d Γ2 Y K hY hs k => rTgC (ok.blk hY hk) h4 h5 hs k) (fun F1 H1 Γ2 Y KB hY kc => rC cd (ok.blk hY hk) h6 (by cases cde <;> exact kc)) (fun F1 H1 Γ2 Y Kr hY ke => rE elt (ok.blk hY hk) h7 ke)
    · cases h
theorem rA : ∀ (rs : List RE) {X : Cx} {c : C0} {S : SC} {es : List Expr} {Γ : List Sl} {K : List Sl → Prop}, OkC X S → ckA S rs es = true → vA X c rs es Γ K → WPa X c es Γ fun rs' => K rs' ∧ rs'.length = es.length
  | [], X, c, S, es, Γ, K, ok, h, k => by
    unfold ckA at h
    rw [List.isEmpty_iff] at h
    rw [h]
    exact wpa_nil ⟨k, rfl⟩
  | r :: rs, X, c, S, es, Γ, K, ok, h, k => by
    unfold ckA at h
    split at h
    · rename_i e es
      simp only [Bool.and_eq_true] at h
      exact wpa_cons ((rE r ok h.2.1 k).mono fun x kx => (rA rs ok h.2.2 kx).mono fun xs kxs => ⟨kxs.1, by simp [kxs.2]⟩) (star_cons h.1)
    · cases h
theorem rBo : ∀ (rs : List RE) {X : Cx} {c : C0} {S : SC} {es : List Expr} {kk : Bool} {pos : Pos} {Γ : List Sl} {K : Sl → Prop}, OkC X S → ckB S rs es = true → vBo X c kk rs es Γ K → WPe X c (.BoolOp (bop kk) es pos) Γ K
  | [], X, c, S, es, kk, pos, Γ, K, ok, h, k => k.elim
  | [r], X, c, S, es, kk, pos, Γ, K, ok, h, k => by
    unfold ckB at h
    split at h
    · rename_i e es
      simp only [Bool.and_eq_true] at h
      unfold ckB at h
      have h2 := List.isEmpty_iff.mp h.2
      subst h2
      exact wp_one (rE r ok h.1 k)
    · cases h
  | r :: r2 :: rs, X, c, S, es, kk, pos, Γ, K, ok, h, k => by
    unfold ckB at h
    split at h
    · rename_i e es
      simp only [Bool.and_eq_true] at h
      cases es with
      | nil =>
        unfold ckB at h
        cases h.2
      | cons e2 es =>
        have w : WPe X c e Γ _ := rE r ok h.1 k
        cases kk with
        | true =>
          refine wp_and (w.mono fun x kx => ?_)
          obtain ⟨b, rfl, k1, k2⟩ := bl_cond kx
          exact ⟨b, rfl, fun z => rBo (r2 :: rs) ok h.2 (k1 z), k2⟩
        | false =>
          refine wp_or (w.mono fun x kx => ?_)
          obtain ⟨b, rfl, k1, k2⟩ := bl_cond kx
          exact ⟨b, rfl, k2, fun z => rBo (r2 :: rs) ok h.2 (k1 z)⟩
    · cases h
theorem rC : ∀ (r : Option RB) {X : Cx} {c : C0} {S : SC} {es : List Expr} {Γ : List Sl} {K : Bool → Prop}, OkC X S → ckC S r es = true → vC X c r (es.headD dE) Γ K → WPts X c es Γ K
  | none, X, c, S, es, Γ, K, ok, h, k => by
    unfold ckC at h
    rw [List.isEmpty_iff] at h
    rw [h]
    exact k
  | some t, X, c, S, es, Γ, K, ok, h, k => by
    unfold ckC at h
    split at h
    · exact rT t ok h k
    · cases h
theorem rT : ∀ (r : RB) {X : Cx} {c : C0} {S : SC} {e : Expr} {Γ : List Sl} {K : Bool → Prop}, OkC X S → ckT S r e = true → vT X c r e Γ K → WPt X c e Γ K
  | .opq, X, c, S, e, Γ, K, ok, h, k => k
  | .nt a, X, c, S, e, Γ, K, ok, h, k => by
    unfold ckT at h
    split at h
    · rename_i op' x q
      obtain ⟨pos, rfl⟩ := pUn_eq q
      simp only [Bool.and_eq_true, decide_eq_true_eq] at h
      obtain ⟨rfl, h1⟩ := h
      exact wpt_not (rT a ok h1 k)
    · cases h
  | .bo kk es, X, c, S, e, Γ, K, ok, h, k => by
    unfold ckT at h
    split at h
    · rename_i op' xs q
      obtain ⟨pos, rfl⟩ := pBool_eq q
      simp only [Bool.and_eq_true, decide_eq_true_eq] at h
      obtain ⟨rfl, h1⟩ := h
      obtain ⟨J, k1, k2⟩ := k
      exact wpt_w ((rTs es ok h1 k1).mono k2)
    · cases h
  | .cmp op a b, X, c, S, e, Γ, K, ok, h, k => by
    unfold ckT at h
    split at h
    · rename_i op' l r q
      obtain ⟨pos, rfl⟩ := pCmp_eq q
      simp only [Bool.and_eq_true, decide_eq_true_eq, Bool.not_eq_true'] at h
      obtain ⟨rfl, hm, h1, h2⟩ := h
      exact wpt_cmp ((rE a ok h1 k).mono fun x kx => (rE b ok h2 kx).mono fun y ky => (sCmp ky).mono fun r kr => bl_cond kr) hm
    · cases h
  | .val a, X, c, S, e, Γ, K, ok, h, k => by
    unfold ckT at h
    rw [Bool.and_eq_true] at h
    exact wpt_val ((rE a ok h.2 k).mono fun r kr => bl_cond kr) (plain_t h.1 _)
theorem rTs : ∀ (rs : List RB) {X : Cx} {c : C0} {S : SC} {es : List Expr} {kk : Bool} {pos : Pos} {Γ : List Sl} {K : Bool → Prop}, OkC X S → ckTs S rs es = true → vTs X c kk rs es Γ K → WPw X c (.BoolOp (bop kk) es pos) Γ K
  | [], X, c, S, es, kk, pos, Γ, K, ok, h, k => k.elim
  | [r], X, c, S, es, kk, pos, Γ, K, ok, h, k => by
    unfold ckTs at h
    split at h
    · rename_i e es
      simp only [Bool.and_eq_true] at h
      unfold ckTs at h
      have h2 := List.isEmpty_iff.mp h.2
      subst h2
      cases kk with
      | true => exact wpw_and1 (rT r ok h.1 k)
      | false => exact wpw_or1 (rT r ok h.1 k)
    · cases h
  | r :: r2 :: rs, X, c, S, es, kk, pos, Γ, K, ok, h, k => by
    unfold ckTs at h
    split at h
    · rename_i e es
      simp only [Bool.and_eq_true] at h
      cases es with
      | nil =>
        unfold ckTs at h
        cases h.2
      | cons e2 es =>
        have w : WPt X c e Γ _ := rT r ok h.1 k
        cases kk with
        | true => exact wpw_and (w.mono fun x kx => ⟨fun z => rTs (r2 :: rs) ok h.2 (kx.1 z), kx.2⟩)
        | false => exact wpw_or (w.mono fun x kx => ⟨kx.2, fun z => rTs (r2 :: rs) ok h.2 (kx.1 z)⟩)
    · cases h
theorem rO : ∀ (r : RO) {X : Cx} {c : C0} {S : SC} {o : Option Expr} {d : Expr} {Γ : List Sl} {K K' : Option Int → Prop}, OkC X S → ckO S r o = true → (∀ {e}, o = some e → d = e) → vO X c r d Γ K → (∀ x, K x → K' x) → WPo X c o Γ K'
  | .no, X, c, S, o, d, Γ, K, K', ok, h, hd, k, m => by
    unfold ckO at h
    rw [Option.isNone_iff_eq_none] at h
    rw [h]
    exact wpo_none (m _ k)
  | .so a, X, c, S, o, d, Γ, K, K', ok, h, hd, k, m => by
    unfold ckO at h
    split at h
    · rename_i e
      rw [hd rfl] at k
      refine wpo_some <| (rE a ok h k).mono fun r kr => ?_
      obtain ⟨i, rfl, k2⟩ := int_cond kr
      exact ⟨i, rfl, m _ k2⟩
    · cases h
theorem rI : ∀ (r : RI) {X : Cx} {c : C0} {S : SC} {tg e : Expr} {Γ : List Sl} {K : Nat → (Nat → DL.D) → Prop}, OkC X S → ckI S r e = true → (isTup tg || itN r) = true → vI X c r e Γ K → WPi X c tg e Γ K
  | .opq, X, c, S, tg, e, Γ, K, ok, h, ht, k => k.elim
  | .seqL a, X, c, S, tg, e, Γ, K, ok, h, ht, k => wpi_list <| (rE a ok h k).mono fun r kr => ilst_cond kr
  | .seqT a, X, c, S, tg, e, Γ, K, ok, h, ht, k => wpi_tup <| (rE a ok h k).mono fun r kr => tup_cond kr
  | .seqS a, X, c, S, tg, e, Γ, K, ok, h, ht, k => wpi_str <| (rE a ok h k).mono fun r kr => str_cond kr
  | .rng1 a, X, c, S, tg, e, Γ, K, ok, h, ht, k => by
    unfold ckI at h
    split at h
    · rename_i g x q
      obtain ⟨p, pos, rfl⟩ := pCall_eq q
      simp only [Bool.and_eq_true, decide_eq_true_eq] at h
      obtain ⟨rfl, h1, h2, h3⟩ := h
      obtain ⟨b1, b2, b3, b4⟩ := ok.blt h1
      refine wpi_range1 b3 (wpa_cons ((rE a ok h3 k).mono fun r kr => wpa_nil ?_) (star_cons h2)) b1 (star_cons h2)
      obtain ⟨j, g1, g2, g3⟩ := int_cond kr
      exact ⟨j, by rw [g1], g2.1, g2.2, g3⟩
    · cases h
  | .rng2 a b, X, c, S, tg, e, Γ, K, ok, h, ht, k => by
    unfold ckI at h
    split at h
    · rename_i g x y q
      obtain ⟨p, pos, rfl⟩ := pCall_eq q
      simp only [Bool.and_eq_true, decide_eq_true_eq] at h
      obtain ⟨rfl, h1, h2, h3, h4, h5⟩ := h
      obtain ⟨b1, b2, b3, b4⟩ := ok.blt h1
      refine wpi_range2 b3 (wpa_cons ((rE a ok h4 k).mono fun r kr => wpa_cons ((rE b ok h5 kr).mono fun r2 kr2 => wpa_nil ?_) (star_cons h3)) (star_cons h2)) b1 (by rw [star_cons h2, star_cons h3]; rfl) (star_cons h3)
      obtain ⟨i, j, g1, g2, g3, g4⟩ := int2_cond kr2
      exact ⟨i, j, by rw [g1, g2], g3, g4⟩
    · cases h
  | .enT a, X, c, S, tg, e, Γ, K, ok, h, ht, k => by
    unfold ckI at h
    split at h
    · rename_i g x q
      obtain ⟨p, pos, rfl⟩ := pCall_eq q
      simp only [Bool.and_eq_true, decide_eq_true_eq] at h
      obtain ⟨rfl, h1, h2, h3⟩ := h
      obtain ⟨b1, b2, b3, b4⟩ := ok.blt h1
      obtain ⟨es, kt, tp, rfl⟩ := isTup_eq ht rfl
      refine wpi_enumT b3 (wpa_cons ((rE a ok h3 k).mono fun r kr => wpa_nil ?_) (star_cons h2)) b1 (star_cons h2)
      obtain ⟨j, g1, g2⟩ := tup_cond kr
      exact ⟨j, by rw [g1], g2⟩
    · cases h
  | .enL a, X, c, S, tg, e, Γ, K, ok, h, ht, k => by
    unfold ckI at h
    split at h
    · rename_i g x q
      obtain ⟨p, pos, rfl⟩ := pCall_eq q
      simp only [Bool.and_eq_true, decide_eq_true_eq] at h
      obtain ⟨rfl, h1, h2, h3⟩ := h
      obtain ⟨b1, b2, b3, b4⟩ := ok.blt h1
      obtain ⟨es, kt, tp, rfl⟩ := isTup_eq ht rfl
      refine wpi_enumL b3 (wpa_cons ((rE a ok h3 k).mono fun r kr => wpa_nil ?_) (star_cons h2)) b1 (star_cons h2)
      obtain ⟨j, g1, g2⟩ := ilst_cond kr
      exact ⟨j, by rw [g1], g2⟩
    · cases h
  | .zipT a b, X, c, S, tg, e, Γ, K, ok, h, ht, k => by
    unfold ckI at h
    split at h
    · rename_i g x y q
      obtain ⟨p, pos, rfl⟩ := pCall_eq q
      simp only [Bool.and_eq_true, decide_eq_true_eq] at h
      obtain ⟨rfl, h1, h2, h3, h4, h5⟩ := h
      obtain ⟨b1, b2, b3, b4⟩ := ok.blt h1
      obtain ⟨es, kt, tp, rfl⟩ := isTup_eq ht rfl
      refine wpi_zipT b3 (wpa_cons ((rE a ok h4 k).mono fun r kr => wpa_cons ((rE b ok h5 kr).mono fun r2 kr2 => wpa_nil ?_) (star_cons h3)) (star_cons h2)) b1 (star_cons h2) (pl_of (by rw [List.all_cons, h3]; rfl))
      obtain ⟨i, j, g1, g2, g3⟩ := tup2_cond kr2
      exact ⟨i, j, by rw [g1, g2], g3⟩
    · cases h
  | .zipL a b, X, c, S, tg, e, Γ, K, ok, h, ht, k => by
    unfold ckI at h
    split at h
    · rename_i g x y q
      obtain ⟨p, pos, rfl⟩ := pCall_eq q
      simp only [Bool.and_eq_true, decide_eq_true_eq] at h
      obtain ⟨rfl, h1, h2, h3, h4, h5⟩ := h
      obtain ⟨b1, b2, b3, b4⟩ := ok.blt h1
      obtain ⟨es, kt, tp, rfl⟩ := isTup_eq ht rfl
      refine wpi_zipL b3 (wpa_cons ((rE a ok h4 k).mono fun r kr => wpa_cons ((rE b ok h5 kr).mono fun r2 kr2 => wpa_nil ?_) (star_cons h3)) (star_cons h2)) b1 (star_cons h2) (pl_of (by rw [List.all_cons, h3]; rfl))
      obtain ⟨i, j, g1, g2, g3⟩ := lst2_cond kr2
      exact ⟨i, j, by rw [g1, g2], g3⟩
    · cases h
  | .zipLT a b, X, c, S, tg, e, Γ, K, ok, h, ht, k => by
    unfold ckI at h
    split at h
    · rename_i g x y q
      obtain ⟨p, pos, rfl⟩ := pCall_eq q
      simp only [Bool.and_eq_true, decide_eq_true_eq] at h
      obtain ⟨rfl, h1, h2, h3, h4, h5⟩ := h
      obtain ⟨b1, b2, b3, b4⟩ := ok.blt h1
      obtain ⟨es, kt, tp, rfl⟩ := isTup_eq ht rfl
      refine wpi_zipLT b3 (wpa_cons ((rE a ok h4 k).mono fun r kr => wpa_cons ((rE b ok h5 kr).mono fun r2 kr2 => wpa_nil ?_) (star_cons h3)) (star_cons h2)) b1 (star_cons h2) (pl_of (by rw [List.all_cons, h3]; rfl))
      obtain ⟨i, j, g1, g2, g3⟩ := lt2_cond kr2
      exact ⟨i, j, by rw [g1, g2], g3⟩
    · cases h
end
end DL

set_option Elab.async false
set_option linter.all false
set_option pp.maxSteps 300
set_option maxRecDepth 100000
set_option maxHeartbeats 4000000
/-! V4: what statements ask is enough -/
namespace DL
open PySem PySem.Spec PyProof.Rows L2
/-! ### parts of statements -/
def pAsg : Stmt → Option (Str × Expr)
  | .Assign [.Name x _] e _ => some (x, e)
  | _ => none
theorem pAsg_eq {st : Stmt} {x : Str} {e : Expr} (h : pAsg st = some (x, e)) : ∃ p pos, st = .Assign [.Name x p] e pos := by
  unfold pAsg at h
  split at h
  · cases h
    exact ⟨_, _, rfl⟩
  · cases h
/-- x = [.. for ..]: on the line of the name -/
def pAsgL : Stmt → Option (Str × Expr × Expr × Expr × List Expr × Scope)
  | .Assign [.Name x p] (.ListComp e [⟨tg, it, cs, 0⟩] sc p2) _ => if p.line == p2.line then some (x, e, tg, it, cs, sc) else none
  | _ => none
theorem pAsgL_eq {st : Stmt} {x : Str} {e tg it : Expr} {cs : List Expr} {sc : Scope} (h : pAsgL st = some (x, e, tg, it, cs, sc)) : ∃ p p2 pos, st = .Assign [.Name x p] (.ListComp e [⟨tg, it, cs, 0⟩] sc p2) pos ∧ (p.line == p2.line) = true := by
  unfold pAsgL at h
  split at h
  · split at h
    · cases h
      exact ⟨_, _, _, rfl, ‹_›⟩
    · cases h
  · cases h
/-- a target, a value that is no tuple's text -/
def pAsT : Stmt → Option (Expr × Expr)
  | .Assign [t] e _ => (match e with
    | .Tuple _ _ _ => none
    | e => some (t, e))
  | _ => none
theorem pAsT_eq {st : Stmt} {t e : Expr} (h : pAsT st = some (t, e)) : ∃ pos, st = .Assign [t] e pos ∧ pTup e = none := by
  unfold pAsT at h
  split at h
  · split at h
    · cases h
    · rename_i q
      cases h
      refine ⟨_, rfl, ?_⟩
      unfold pTup
      split
      · exact absurd rfl (q _ _ _)
      · rfl
  · cases h
theorem no_swapped {t e : Expr} {env : Env} (h : pTup e = none) : swappedStores [t] e env = pure none := by
  cases e <;> first | (cases h; done) | (cases t <;> rfl)
def pPar2 : Stmt → Option (Str × Nat × Str × Nat × Expr × Expr)
  | .Assign [.Tuple [.Name x p, .Name y q] _ _] (.Tuple [a, b] _ _) _ => some (x, p.line, y, q.line, a, b)
  | _ => none
theorem pPar2_eq {st : Stmt} {x y : Str} {l m : Nat} {a b : Expr} (h : pPar2 st = some (x, l, y, m, a, b)) : ∃ px py k1 q1 k2 q2 pos, st = .Assign [.Tuple [.Name x px, .Name y py] k1 q1] (.Tuple [a, b] k2 q2) pos ∧ px.line = l ∧ py.line = m := by
  unfold pPar2 at h
  split at h
  · cases h
    exact ⟨_, _, _, _, _, _, _, rfl, rfl, rfl⟩
  · cases h
def pPar3 : Stmt → Option (Str × Nat × Str × Nat × Str × Nat × Expr × Expr × Expr)
  | .Assign [.Tuple [.Name x p, .Name y q, .Name z r] _ _] (.Tuple [a, b, d] _ _) _ => some (x, p.line, y, q.line, z, r.line, a, b, d)
  | _ => none
theorem pPar3_eq {st : Stmt} {x y z : Str} {l m n : Nat} {a b d : Expr} (h : pPar3 st = some (x, l, y, m, z, n, a, b, d)) : ∃ px py pz k1 q1 k2 q2 pos, st = .Assign [.Tuple [.Name x px, .Name y py, .Name z pz] k1 q1] (.Tuple [a, b, d] k2 q2) pos ∧ px.line = l ∧ py.line = m ∧ pz.line = n := by
  unfold pPar3 at h
  split at h
  · cases h
    exact ⟨_, _, _, _, _, _, _, _, rfl, rfl, rfl, rfl⟩
  · cases h
def pAug : Stmt → Option (Str × Operator × Expr)
  | .AugAssign (.Name x _) op e _ => some (x, op, e)
  | _ => none
theorem pAug_eq {st : Stmt} {x : Str} {op : Operator} {e : Expr} (h : pAug st = some (x, op, e)) : ∃ p pos, st = .AugAssign (.Name x p) op e pos := by
  unfold pAug at h
  split at h
  · cases h
    exact ⟨_, _, rfl⟩
  · cases h
def pRet : Stmt → Option Expr
  | .Return (some e) _ => some e
  | _ => none
theorem pRet_eq {st : Stmt} {e : Expr} (h : pRet st = some e) : ∃ pos, st = .Return (some e) pos := by
  unfold pRet at h
  split at h
  · cases h
    exact ⟨_, rfl⟩
  · cases h
def pIfS : Stmt → Option (Expr × List Stmt × List Stmt)
  | .If t a b _ => some (t, a, b)
  | _ => none
theorem pIfS_eq {st : Stmt} {t : Expr} {a b : List Stmt} (h : pIfS st = some (t, a, b)) : ∃ pos, st = .If t a b pos := by
  unfold pIfS at h
  split at h
  · cases h
    exact ⟨_, rfl⟩
  · cases h
/-- x.m(e) as a statement, the dot's line the call's -/
def pMet : Stmt → Option (Str × Str × Expr)
  | .Expr (.Call (.Attribute (.Name x _) m ap) [e] [] cp) _ => if ap.endLine == cp.line then some (x, m, e) else none
  | _ => none
theorem pMet_eq {st : Stmt} {x m : Str} {e : Expr} (h : pMet st = some (x, m, e)) : ∃ p ap cp pos, st = .Expr (.Call (.Attribute (.Name x p) m ap) [e] [] cp) pos ∧ (ap.endLine == cp.line) = true := by
  unfold pMet at h
  split at h
  · split at h
    · cases h
      exact ⟨_, _, _, _, rfl, ‹_›⟩
    · cases h
  · cases h
def pExp : Stmt → Option Expr
  | .Expr e _ => some e
  | _ => none
theorem pExp_eq {st : Stmt} {e : Expr} (h : pExp st = some e) : ∃ pos, st = .Expr e pos := by
  unfold pExp at h
  split at h
  · cases h
    exact ⟨_, rfl⟩
  · cases h
def pFor : Stmt → Option (Expr × Expr × List Stmt)
  | .For tg it b [] _ => some (tg, it, b)
  | _ => none
theorem pFor_eq {st : Stmt} {tg it : Expr} {b : List Stmt} (h : pFor st = some (tg, it, b)) : ∃ pos, st = .For tg it b [] pos := by
  unfold pFor at h
  split at h
  · cases h
    exact ⟨_, rfl⟩
  · cases h
def pWhl : Stmt → Option (Expr × List Stmt)
  | .While t b [] _ => some (t, b)
  | _ => none
theorem pWhl_eq {st : Stmt} {t : Expr} {b : List Stmt} (h : pWhl st = some (t, b)) : ∃ pos, st = .While t b [] pos := by
  unfold pWhl at h
  split at h
  · cases h
    exact ⟨_, rfl⟩
  · cases h
def isCont : Stmt → Bool
  | .Continue _ => true
  | _ => false
def isBrk : Stmt → Bool
  | .Break _ => true
  | _ => false
/-! ### swaps -/
/-- a store of this that swaps nothing -/
def noSw (S : SC) (x : Str) : Expr → Bool
  | .ListComp _ _ _ _ => !decide (S.sc.names.lookup x = some .local)
  | .SetComp _ _ _ _ => false
  | .DictComp _ _ _ _ _ => false
  | _ => true
section
variable {X : Cx} {S : SC}
theorem OkC.bk (ok : OkC X S) : X.env.blockKind = .function := by
  unfold Env.blockKind
  rw [ok.hs, ok.kind]
  rfl
theorem OkC.noSw (ok : OkC X S) {x : Str} {e : Expr} {p : Pos} {l : Nat} (h : noSw S x e = true) : swapsWith e (some (.Name x p)) l X.env = pure false := by
  cases e <;> first | rfl | cases h; done | skip
  have h : (!decide (S.sc.names.lookup x = some .local)) = true := h
  rw [Bool.not_eq_true', decide_eq_false_iff_not] at h
  have e : (X.env.kindOf x == some NameKind.local) = false := by
    have : X.env.kindOf x ≠ some NameKind.local := by
      show X.env.scope.names.lookup x ≠ _
      rw [ok.hs]
      exact h
    simpa using this
  unfold swapsWith
  simp only [e, Bool.and_false, Bool.false_and]
theorem OkC.sw (ok : OkC X S) {x : Str} {a : Expr} {gs : List Comprehension} {sc : Scope} {p p2 : Pos} {l : Nat} (hl : S.sc.names.lookup x = some .local) (h1 : (p.line == p2.line) = true) (h2 : (sc.names.any fun (n, k) => n == x && (k == .local || k == .cell)) = false) :
    swapsWith (.ListComp a gs sc p2) (some (.Name x p)) l X.env = pure true := by
  have e : (X.env.kindOf x == some NameKind.local) = true := by
    have : X.env.kindOf x = some NameKind.local := by
      show X.env.scope.names.lookup x = _
      rw [ok.hs]
      exact hl
    simpa using this
  have eb : (X.env.blockKind == ScopeKind.function) = true := by
    rw [ok.bk]
    rfl
  have e3 : (p.line == (Expr.ListComp a gs sc p2).pos.line) = true := h1
  unfold swapsWith
  simp only [e, eb, e3, h2, Bool.and_true, Bool.not_false]
theorem OkC.par2 (ok : OkC X S) {x y : Str} {px py : Pos} {a b : Expr} {k1 k2 q1 q2} (hx : S.sc.names.lookup x = some .local) (hy : S.sc.names.lookup y = some .local) (hl : px.line = py.line) (hn : x ≠ y) (ha : notStar a = true) (hb : notStar b = true) (hf : [a, b].all (foldedForSure 8) = false) (hc : [a, b].all (constantsAlone 8) = false) :
    swappedStores [.Tuple [.Name x px, .Name y py] k1 q1] (.Tuple [a, b] k2 q2) X.env = pure (some [x, y]) := by
  have e1 : (X.env.kindOf x == some NameKind.local) = true := by
    have : X.env.kindOf x = some NameKind.local := by
      show X.env.scope.names.lookup x = _
      rw [ok.hs]
      exact hx
    simpa using this
  have e2 : (X.env.kindOf y == some NameKind.local) = true := by
    have : X.env.kindOf y = some NameKind.local := by
      show X.env.scope.names.lookup y = _
      rw [ok.hs]
      exact hy
    simpa using this
  have eb : (X.env.blockKind != ScopeKind.function) = false := by
    rw [ok.bk]
    rfl
  have es : ([a, b].any fun | .Starred .. => true | _ => false) = false := by
    have s1 : ∀ {e : Expr}, notStar e = true → (match e with | .Starred .. => true | _ => false) = false := fun {e} h => by
      cases e <;> first | rfl | cases h
    simp only [List.any_cons, List.any_nil, Bool.or_false]
    rw [s1 ha, s1 hb]
    rfl
  have hl2 : (py.line == px.line) = true := by simpa using hl.symm
  have hn2 : ¬ (y = x) := fun z => hn z.symm
  have ed : [x, y].eraseDups.length = 2 := by simp [List.eraseDups_cons, hn, hn2]
  unfold swappedStores
  simp only [List.length_cons, List.length_nil, eb, es, hf, hc, List.filterMap_cons, List.filterMap_nil, List.head?_cons, Option.map_some, Option.getD_some, Expr.pos, e1, e2, hl2, beq_self_eq_true, Bool.and_self, if_true]
  refine (if_neg (by decide)).trans ?_
  refine (if_neg ?_).trans ?_
  · intro z
    exact Bool.noConfusion (es.symm.trans z)
  refine (if_neg ?_).trans ?_
  · intro z
    simp [ed] at z
  rfl
theorem OkC.par3 (ok : OkC X S) {x y w : Str} {px py pw : Pos} {a b d : Expr} {k1 k2 q1 q2} (hx : S.sc.names.lookup x = some .local) (hy : S.sc.names.lookup y = some .local) (hw : S.sc.names.lookup w = some .local) (hl : px.line = py.line) (hm : px.line = pw.line) (hn : x ≠ y) (hn2 : x ≠ w) (hn3 : y ≠ w) (ha : notStar a = true) (hb : notStar b = true) (hd : notStar d = true) (hf : [a, b, d].all (foldedForSure 8) = false) (hc : [a, b, d].all (constantsAlone 8) = false) :
    swappedStores [.Tuple [.Name x px, .Name y py, .Name w pw] k1 q1] (.Tuple [a, b, d] k2 q2) X.env = pure (some [x, y, w]) := by
  have kk : ∀ {u : Str}, S.sc.names.lookup u = some .local → (X.env.kindOf u == some NameKind.local) = true := fun {u} h => by
    have : X.env.kindOf u = some NameKind.local := by
      show X.env.scope.names.lookup u = _
      rw [ok.hs]
      exact h
    simpa using this
  have e1 := kk hx
  have e2 := kk hy
  have e3 := kk hw
  have eb : (X.env.blockKind != ScopeKind.function) = false := by
    rw [ok.bk]
    rfl
  have es : ([a, b, d].any fun | .Starred .. => true | _ => false) = false := by
    have s1 : ∀ {e : Expr}, notStar e = true → (match e with | .Starred .. => true | _ => false) = false := fun {e} h => by
      cases e <;> first | rfl | cases h
    simp only [List.any_cons, List.any_nil, Bool.or_false]
    rw [s1 ha, s1 hb, s1 hd]
    rfl
  have hl2 : (py.line == px.line) = true := by simpa using hl.symm
  have hm2 : (pw.line == px.line) = true := by simpa using hm.symm
  have n1 : (y == x) = false := by simpa using fun z => hn (Eq.symm z)
  have n2 : (w == x) = false := by simpa using fun z => hn2 (Eq.symm z)
  have n3 : (w == y) = false := by simpa using fun z => hn3 (Eq.symm z)
  have ed : [x, y, w].eraseDups.length = 3 := by simp [List.eraseDups_cons, List.filter_cons, n1, n2, n3]
  unfold swappedStores
  simp only [List.length_cons, List.length_nil, eb, es, hf, hc, List.filterMap_cons, List.filterMap_nil, List.head?_cons, Option.map_some, Option.getD_some, Expr.pos, e1, e2, e3, hl2, hm2, beq_self_eq_true, Bool.and_self, if_true]
  refine (if_neg (by decide)).trans ?_
  refine (if_neg ?_).trans ?_
  · intro z
    exact Bool.noConfusion (es.symm.trans z)
  refine (if_neg ?_).trans ?_
  · intro z
    simp [ed] at z
  rfl
/-- all of it constants: no swap -/
theorem OkC.tupC (ok : OkC X S) {ts vs : List Expr} {k1 k2 q1 q2} (hs : vs.all (foldedForSure 8) = true) : swappedStores [.Tuple ts k1 q1] (.Tuple vs k2 q2) X.env = pure none := by
  unfold swappedStores
  simp only [hs]
  split
  · rfl
  · split
    · rfl
    · split <;> rfl
/-- a name that a block reads among them: no swap -/
theorem OkC.tupL (ok : OkC X S) {x y : Str} {px py : Pos} {a b : Expr} {k1 k2 q1 q2} (h : S.sc.names.lookup x ≠ some .local ∨ S.sc.names.lookup y ≠ some .local) : swappedStores [.Tuple [.Name x px, .Name y py] k1 q1] (.Tuple [a, b] k2 q2) X.env = pure none := by
  have kk : ∀ {u : Str}, S.sc.names.lookup u ≠ some .local → (X.env.kindOf u == some NameKind.local) = false := fun {u} h => by
    have : X.env.kindOf u ≠ some NameKind.local := by
      show X.env.scope.names.lookup u ≠ _
      rw [ok.hs]
      exact h
    simpa using this
  unfold swappedStores
  simp only [List.length_cons, List.length_nil, List.filterMap_cons, List.filterMap_nil]
  split
  · rfl
  · split
    · rfl
    · refine if_pos ?_
      rcases h with h | h
      · simp only [kk h, Bool.false_and, if_false, Bool.false_eq_true]
        split <;> rename_i q
        · simp
        · split at q <;> simp_all
      · simp only [kk h, Bool.false_and, if_false, Bool.false_eq_true]
        split <;> simp_all
end
end DL

set_option Elab.async false
set_option linter.all false
set_option pp.maxSteps 300
set_option maxRecDepth 100000
set_option maxHeartbeats 4000000
/-! V5: the check of statements; what a def asks is enough -/
namespace DL
open PySem PySem.Spec PyProof.Rows L2
mutual
def ckSt (S : SC) : RS → Stmt → Bool
  | .opq, _ => true
  | .set i e, st => match pAsg st with
    | some (x, v) => tgtOk S i x && (noSw S x v && ckE S e v)
    | none => false
  | .setLc i own tg it cd elt, st => match pAsgL st with
    | some (x, v, tge, ite, cde, sc) => decide (S.N[i]? = some x) && (decide (S.sc.names.lookup x = some .local) && (!(sc.names.any fun (n, k) => n == x && (k == .local || k == .cell)) && (blkC S.N S.sc sc own && (decide (sc.kind = .function) && (noSet ite && (ckI S it ite && (ckTg (S.blk sc) tg tge && (tgIn tg (own.map (·.2)) && (ckC (S.blk sc) cd cde && (ckE (S.blk sc) elt v && (isTup tge || itN it)))))))))))
    | none => false
  | .par2 i j a b, st => match pPar2 st with
    | some (x, l, y, m, u, v) => !(i == j) && (decide (S.N[i]? = some x) && (decide (S.N[j]? = some y) && (decide (S.sc.names.lookup x = some .local) && (decide (S.sc.names.lookup y = some .local) && (decide (l = m) && (!decide (x = y) && (notStar u && (notStar v && (!([u, v].all (foldedForSure 8)) && (!([u, v].all (constantsAlone 8)) && (ckE S a u && ckE S b v)))))))))))
    | none => false
  | .tup2 i j a b, st => match pPar2 st with
    | some (x, l, y, m, u, v) => !(i == j) && (tgtOk S i x && (tgtOk S j y && (notStar u && (notStar v && (([u, v].all (foldedForSure 8) || (!decide (S.sc.names.lookup x = some .local) || !decide (S.sc.names.lookup y = some .local))) && (ckE S a u && ckE S b v))))))
    | none => false
  | .par3 i j n a b d, st => match pPar3 st with
    | some (x, l, y, m, z, o, u, v, w) => (!(i == j) && (!(i == n) && !(j == n))) && (decide (S.N[i]? = some x) && (decide (S.N[j]? = some y) && (decide (S.N[n]? = some z) && (decide (S.sc.names.lookup x = some .local) && (decide (S.sc.names.lookup y = some .local) && (decide (S.sc.names.lookup z = some .local) && (decide (l = m) && (decide (l = o) && ((!decide (x = y) && (!decide (x = z) && !decide (y = z))) && (notStar u && (notStar v && (notStar w && (!([u, v, w].all (foldedForSure 8)) && (!([u, v, w].all (constantsAlone 8)) && (ckE S a u && (ckE S b v && ckE S d w))))))))))))))))
    | none => false
  | .tup3 i j n a b d, st => match pPar3 st with
    | some (x, l, y, m, z, o, u, v, w) => (!(i == j) && (!(i == n) && !(j == n))) && (tgtOk S i x && (tgtOk S j y && (tgtOk S n z && (notStar u && (notStar v && (notStar w && ([u, v, w].all (foldedForSure 8) && (ckE S a u && (ckE S b v && ckE S d w)))))))))
    | none => false
  | .aug i op e, st => match pAug st with
    | some (x, op', v) => decide (op = op') && (tgtOk S i x && ckE S e v)
    | none => false
  | .ret e, st => match pRet st with
    | some v => ckE S e v
    | none => false
  | .retOwn i, st => match pRet st with
    | some v => (match pName v with
      | some x => varOk S i x
      | none => false)
    | none => false
  | .retN, _ => false
  | .ife t a b, st => match pIfS st with
    | some (te, x, y) => ckT S t te && (ckS S a x && ckS S b y)
    | none => false
  | .app i e, st => match pMet st with
    | some (x, m, v) => decide (m = ("append" : Str)) && (varOk S i x && (notStar v && ckE S e v))
    | none => false
  | .ext i e, st => match pMet st with
    | some (x, m, v) => decide (m = ("extend" : Str)) && (varOk S i x && (notStar v && ckE S e v))
    | none => false
  | .expr e, st => match pExp st with
    | some v => noComp v && ckE S e v
    | none => false
  | .cont, st => match st with
    | .Continue _ => true
    | _ => false
  | .brk, st => match st with
    | .Break _ => true
    | _ => false
  | .for_ tg it body, st => match pFor st with
    | some (tge, ite, b) => noSet ite && (ckI S it ite && (ckTg S tg tge && (ckS S body b && (isTup tge || itN it))))
    | none => false
  | .whl t body, st => match pWhl st with
    | some (te, b) => ckT S t te && ckS S body b
    | none => false
  | .asg tg e, st => match pAsT st with
    | some (t, v) => isTup t && (noComp v && (ckTg S tg t && ckE S e v))
    | none => false
  | .frz _, _ => false
  | .cut _, _ => false
def ckS (S : SC) : List RS → List Stmt → Bool
  | [], sts => sts.isEmpty
  | r :: rs, sts => match r with
    | .frz _ => ckS S rs sts
    | .cut r' => (match sts with
      | st :: sts' => ckSt S r' st && ckS S rs sts'
      | [] => false)
    | r' => (match sts with
      | st :: sts' => ckSt S r' st && ckS S rs sts'
      | [] => false)
end
/-- a target of a loop -/
theorem rTgD {X : Cx} {c : C0} {S : SC} {tg : RT} {e : Expr} {Γ Γ2 : List Sl} {d : DL.D} {K : List Sl → Prop} (ok : OkC X S) (h : ckTg S tg e = true) (hs : setT tg d Γ = some Γ2) (k : K Γ2) : GtD X c e (.im d) Γ K := by
  unfold ckTg at h
  split at h
  · obtain ⟨h1, h2, h3⟩ := ok.tgt h
    obtain ⟨g1, rfl⟩ := sO_eq hs
    exact gt_name _ rfl ok.nd k g1 h1 h2 h3
  · rw [Bool.and_eq_true] at h
    obtain ⟨h1, h2, h3⟩ := ok.tgt h.1
    obtain ⟨g1, g2, g3⟩ := ok.tgt h.2
    unfold setT at hs
    split at hs <;> rename_i q
    · cases q
    · cases q
      obtain ⟨l1, l2, rfl⟩ := sO2_eq hs
      exact gt_tup2 _ _ ok.calm ok.nd k l1 l2 h1 g1 h2 g2 h3 g3
    · cases q
    · cases hs
  · simp only [Bool.and_eq_true] at h
    obtain ⟨h1, h2, h3⟩ := ok.tgt h.1
    obtain ⟨g1, g2, g3⟩ := ok.tgt h.2.1
    obtain ⟨f1, f2, f3⟩ := ok.tgt h.2.2
    unfold setT at hs
    split at hs <;> rename_i q
    · cases q
    · cases q
    · cases q
      obtain ⟨l1, l2, l3, rfl⟩ := sO3_eq hs
      exact gt_tup3 _ _ _ ok.calm ok.nd k l1 l2 l3 h1 g1 f1 h2 g2 f2 h3 g3 f3
    · cases hs
  · cases h
theorem set_slot {r : Sl} {P : Sl → Prop} (h : match r with
      | .vw _ => False
      | .vo _ _ _ => False
      | r => P r) : isv r = false ∧ P r := by
  cases r <;> first | exact h.elim | exact ⟨rfl, h⟩
theorem int_at {s : Sl} {P : Int → Prop} (h : match s with | .im (.int a) => P a | _ => False) : ∃ a, s = .im (.int a) ∧ P a := by
  split at h
  · exact ⟨_, rfl, h⟩
  · exact h.elim
theorem own_at {s : Sl} {P : DL.D → Prop} (h : match s with | .own d => P d | _ => False) : ∃ d, s = .own d ∧ P d := by
  split at h
  · exact ⟨_, rfl, h⟩
  · exact h.elim
theorem ownL_at {s : Sl} {P : List DL.D → Prop} (h : match s with | .own (.lst l) => P l | _ => False) : ∃ l, s = .own (.lst l) ∧ P l := by
  split at h
  · exact ⟨_, rfl, h⟩
  · exact h.elim
theorem seq_cond {o : Option (List DL.D)} {P : List DL.D → Prop} (h : match o with | some m => P m | none => False) : ∃ m, o = some m ∧ P m := by
  split at h
  · exact ⟨_, rfl, h⟩
  · exact h.elim
theorem bne_ne {i j : Nat} (h : (i == j) = false) : i ≠ j := by simpa using h
section
variable {X : Cx} {c : C0} {Γ : List Sl} {D : DEnds} {tg iter : Expr} {body rest : List Stmt} {st : Stmt} {pos : Pos}
theorem WPst.mono {D' : DEnds} (h : WPst X c st Γ D) (h1 : ∀ Γ, D.nx Γ → D'.nx Γ) (h2 : ∀ r, D.rt r → D'.rt r) (h3 : ∀ Γ, D.bk Γ → D'.bk Γ) (h4 : ∀ Γ, D.ct Γ → D'.ct Γ) : WPst X c st Γ D' := fun F H σ E Dd ok =>
  h F H σ E Dd ⟨fun Γ F H σ q => ok.nx Γ F H σ (h1 Γ q), fun r v F H q => ok.rt r v F H (h2 r q), fun Γ F H σ q => ok.bk Γ F H σ (h3 Γ q), fun Γ F H σ q => ok.ct Γ F H σ (h4 Γ q)⟩
theorem wps_seqD (J : List Sl → Prop) (h1 : WPst X c st Γ { D with nx := J }) (h2 : ∀ Γ, J Γ → WPs X c rest Γ D) : WPs X c (st :: rest) Γ D := wps_cons (h1.mono (fun Γ h => h2 Γ h) (fun _ z => z) (fun _ z => z) fun _ z => z)
theorem wst_forX (h : WPi X c tg iter Γ fun n item => ∃ J : Nat → List Sl → Prop, J 0 Γ ∧ (∀ (F : Hp) (i : Nat) (Γ' : List Sl), i < n → J i Γ' → GtD X (c.up F) tg (.im (item i)) Γ' fun Γ2 => WPs X (c.up F) body Γ2 { nx := J (i + 1), ct := J (i + 1), bk := D.nx, rt := D.rt }) ∧ ∀ Γ', J n Γ' → D.nx Γ')
    (hp : PassesOwn (model X.prog X.w) X.A X.env X.xe := by exact PassesOwn.never) (hc : X.calm = true := by rfl) (hs : ∀ x, foldedSetIterable iter X.env x = pure x := by intro _; rfl) : WPst X c (.For tg iter body [] pos) Γ D := fun F H σ E Dd ok => by
  refine ws_of (ps_for hp hc pi_iw pg_gw pss_wss hs) ?_
  refine h F H [] [] σ rfl E.env _ fun It n item src F1 H1 k1 io sF E1 => ?_
  obtain ⟨J, j0, turn, fin⟩ := k1
  have E1 : EnvR c F1 H1 σ Γ := E1
  refine ⟨fun i m σ' H' => m = n - i ∧ i ≤ n ∧ ∃ F' Γ', J i Γ' ∧ EnvS (c.up F1) F' H' σ' Γ', ⟨n, by simp, Nat.zero_le _, F1, Γ, j0, E1.up, E.nv⟩, ?_⟩
  rintro i m σ' H' ⟨rfl, hi, F', Γ', ji, E'⟩
  have sF' : src F' := io.mono F1 F' E'.env.ex0 sF
  by_cases hlt : i < n
  · refine .inr ⟨io.go F' H' i E'.env.ex sF' hlt, fun σ2 H2 => ∃ F2 Γ2, J (i + 1) Γ2 ∧ EnvS (c.up F1) F2 H2 σ2 Γ2, fun σ2 H2 hN => ⟨n - (i + 1), by omega, rfl, hlt, hN⟩, fun x H2 hy => ?_⟩
    obtain ⟨F2, e2, E2⟩ := io.yld _ F' H' σ' Γ' i x H2 E'.env sF' hlt hy
    refine turn F1 i Γ' hlt ji F2 H2 [] [] σ' x rfl E'.nv E2 _ fun F3 H3 σ3 Γ3 k3 nv3 E3 => ?_
    refine k3 F3 H3 σ3 ⟨E3, nv3⟩ _ ⟨fun Γ4 F4 H4 σ4 q4 E4 => ⟨F4, Γ4, q4, E4⟩, fun r v F4 H4 q4 E4 => ok.rt r v F4 H4 q4 (E1.down E4), fun Γ4 F4 H4 σ4 q4 E4 => ok.nx Γ4 F4 H4 σ4 q4 ⟨E1.down E4.env, E4.nv⟩, fun Γ4 F4 H4 σ4 q4 E4 => ⟨F4, Γ4, q4, E4⟩⟩
  · have e : i = n := by omega
    subst e
    exact .inl ⟨io.stop F' H' E'.env.ex sF', ok.nx Γ' F' H' σ' (fin Γ' ji) ⟨E1.down E'.env, E'.nv⟩⟩
end
mutual
theorem rSt : ∀ (r : RS) {X : Cx} {c : C0} {S : SC} {st : Stmt} {Γ : List Sl} {D : DEnds}, OkC X S → ckSt S r st = true → vSt X c r st Γ D → WPst X c st Γ D
  | .opq, X, c, S, st, Γ, D, ok, h, k => k
  | .set i e, X, c, S, st, Γ, D, ok, h, k => by
    unfold ckSt at h
    split at h
    · rename_i x v q
      obtain ⟨p, pos, rfl⟩ := pAsg_eq q
      simp only [Bool.and_eq_true] at h
      obtain ⟨h1, h2, h3⟩ := h
      obtain ⟨g1, g2, g3⟩ := ok.tgt h1
      by_cases hi : i < Γ.length
      · refine wst_set i ok.nd ((rE e ok h3 k).mono fun r kr => ?_) hi g1 g2 (ok.noSw h2) g3
        obtain ⟨n1, kr⟩ := set_slot kr
        obtain ⟨Γ2, q1, k2⟩ := set_cond kr
        obtain ⟨_, rfl⟩ := sO_eq q1
        exact ⟨n1, k2⟩
      · refine fun F H σ E Ee ok' => ws_of (ps_set ok.nd g1 g2 pe_we (ok.noSw h2) g3) ?_
        refine (rE e ok h3 k) F H [] [] σ rfl E.env _ fun v r F' H' kr E' => ?_
        obtain ⟨n1, kr⟩ := set_slot kr
        obtain ⟨Γ2, q1, k2⟩ := set_cond kr
        exact absurd (sO_eq q1).1 hi
    · cases h
  | .setLc i own tg it cd elt, X, c, S, st, Γ, D, ok, h, k => by
    unfold ckSt at h
    split at h
    · rename_i x v tge ite cde scope q
      obtain ⟨p, p2, pos, rfl, hp⟩ := pAsgL_eq q
      simp only [Bool.and_eq_true, decide_eq_true_eq, Bool.not_eq_true'] at h
      obtain ⟨h0, hl, hs, h1, hk, h2, h3, h4, h5, h6, h7, h8⟩ := h
      have hb : BlkOk X.N X.env.scope scope own := by
        rw [ok.hN, ok.hs]
        exact blkOk_by h1
      have hL : X.env.scope.names.lookup x = some .local := by
        rw [ok.hs]
        exact hl
      obtain ⟨k0, k⟩ := gate_ok k
      rw [Bool.and_eq_true] at k0
      refine wst_setLcX i ok.calm ok.nd hb (ownR_all k0.2) ((rI it (tg := tge) ok h3 h8 k).mono fun n item kI => ?_) (inR_lt k0.1) (by rw [ok.hN]; exact h0) hL (ok.sw hl hp hs) (no_set h2 _)
      obtain ⟨J, j0, j1, j2⟩ := lc_turns (PC := fun Y c Γ2 KB => vC Y c cd (eC (.ListComp v [⟨tge, ite, cde, 0⟩] scope p2)) Γ2 KB) (PE_ := fun Y c Γ2 K => vE Y c elt v Γ2 K) kI (fun F1 H1 d Γ2 Y K hY hs k => rTgC (ok.blk hY hk) h4 h5 hs k) (fun F1 H1 Γ2 Y KB hY kc => rC cd (ok.blk hY hk) h6 (by cases cde <;> exact kc)) (fun F1 H1 Γ2 Y Kr hY ke => rE elt (ok.blk hY hk) h7 ke)
      refine ⟨J, j0, j1, fun acc ja => ?_⟩
      obtain ⟨Γ2, q1, k2⟩ := set_cond (j2 acc ja)
      obtain ⟨_, rfl⟩ := sO_eq q1
      exact k2
    · cases h
  | .par2 i j a b, X, c, S, st, Γ, D, ok, h, k => by
    unfold ckSt at h
    split at h
    · rename_i x l y m u v q
      obtain ⟨px, py, k1, q1, k2, q2, pos, rfl, e1, e2⟩ := pPar2_eq q
      simp only [Bool.and_eq_true, decide_eq_true_eq, Bool.not_eq_true', decide_eq_false_iff_not] at h
      obtain ⟨h0, h1, h2, h3, h4, h5, h6, h7, h8, h9, h10, h11, h12⟩ := h
      obtain ⟨k0, k⟩ := gate_ok k
      rw [Bool.and_eq_true] at k0
      have hN := ok.hN
      have hs := ok.hs
      refine wst_par i j ok.calm ok.nd (bne_ne h0) ((rE a ok h11 k).mono fun ra kr => (rE b ok h12 kr).mono fun rb kr2 => ?_) (inR_lt k0.1) (inR_lt k0.2) (by rw [hN]; exact h1) (by rw [hN]; exact h2) (by rw [hs]; exact h3) (by rw [hs]; exact h4) (ok.par2 h3 h4 (by rw [e1, e2]; exact h5) h6 h7 h8 h9 h10) rfl (star_cons h7) (star_cons h8)
      obtain ⟨n1, n2, kr2⟩ := kr2
      obtain ⟨Γ2, g1, g2⟩ := set_cond kr2
      obtain ⟨_, _, rfl⟩ := sO2_eq g1
      exact ⟨n1, n2, g2⟩
    · cases h
  | .tup2 i j a b, X, c, S, st, Γ, D, ok, h, k => by
    unfold ckSt at h
    split at h
    · rename_i x l y m u v q
      obtain ⟨px, py, k1, q1, k2, q2, pos, rfl, e1, e2⟩ := pPar2_eq q
      simp only [Bool.and_eq_true, Bool.not_eq_true', Bool.or_eq_true, decide_eq_false_iff_not] at h
      obtain ⟨h0, h1, h2, h3, h4, h5, h11, h12⟩ := h
      obtain ⟨k0, k⟩ := gate_ok k
      rw [Bool.and_eq_true] at k0
      obtain ⟨t1, t2, t3⟩ := ok.tgt h1
      obtain ⟨s1, s2, s3⟩ := ok.tgt h2
      refine wst_tup2 i j ok.calm ok.nd (bne_ne h0) ((rE a ok h11 k).mono fun ra kr => (rE b ok h12 kr).mono fun rb kr2 => ?_) (inR_lt k0.1) (inR_lt k0.2) t1 s1 t2 s2 t3 s3 rfl rfl rfl rfl (h5.elim (fun z => ok.tupC z) fun z => ok.tupL z) rfl rfl (star_cons h3) (star_cons h4)
      obtain ⟨n1, n2, kr2⟩ := kr2
      obtain ⟨Γ2, g1, g2⟩ := set_cond kr2
      obtain ⟨_, _, rfl⟩ := sO2_eq g1
      exact ⟨n1, n2, g2⟩
    · cases h
  | .par3 i j n a b d, X, c, S, st, Γ, D, ok, h, k => by
    unfold ckSt at h
    split at h
    · rename_i x l y m z o u v w q
      obtain ⟨px, py, pz, k1, q1, k2, q2, pos, rfl, e1, e2, e3⟩ := pPar3_eq q
      simp only [Bool.and_eq_true, decide_eq_true_eq, Bool.not_eq_true', decide_eq_false_iff_not] at h
      obtain ⟨⟨h0, h01, h02⟩, h1, h2, h3, h4, h5, h6, h7, h8, ⟨h9, h91, h92⟩, h10, h11, h12, h13, h14, h15, h16, h17⟩ := h
      obtain ⟨k0, k⟩ := gate_ok k
      simp only [Bool.and_eq_true] at k0
      have hN := ok.hN
      have hs := ok.hs
      refine wst_par3 i j n ok.calm ok.nd (bne_ne h0) (bne_ne h01) (bne_ne h02) ((rE a ok h15 k).mono fun ra kr => (rE b ok h16 kr).mono fun rb kr2 => (rE d ok h17 kr2).mono fun rd kr3 => ?_) (inR_lt k0.1) (inR_lt k0.2.1) (inR_lt k0.2.2) (by rw [hN]; exact h1) (by rw [hN]; exact h2) (by rw [hN]; exact h3) (by rw [hs]; exact h4) (by rw [hs]; exact h5) (by rw [hs]; exact h6) (ok.par3 h4 h5 h6 (by rw [e1, e2]; exact h7) (by rw [e1, e3]; exact h8) h9 h91 h92 h10 h11 h12 h13 h14) rfl (star_cons h10) (star_cons h11) (star_cons h12)
      obtain ⟨n1, n2, n3, kr3⟩ := kr3
      obtain ⟨Γ2, g1, g2⟩ := set_cond kr3
      obtain ⟨_, _, _, rfl⟩ := sO3_eq g1
      exact ⟨n1, n2, n3, g2⟩
    · cases h
  | .tup3 i j n a b d, X, c, S, st, Γ, D, ok, h, k => by
    unfold ckSt at h
    split at h
    · rename_i x l y m z o u v w q
      obtain ⟨px, py, pz, k1, q1, k2, q2, pos, rfl, e1, e2, e3⟩ := pPar3_eq q
      simp only [Bool.and_eq_true, Bool.not_eq_true'] at h
      obtain ⟨⟨h0, h01, h02⟩, h1, h2, h3, h4, h5, h6, h7, h15, h16, h17⟩ := h
      obtain ⟨k0, k⟩ := gate_ok k
      simp only [Bool.and_eq_true] at k0
      obtain ⟨t1, t2, t3⟩ := ok.tgt h1
      obtain ⟨s1, s2, s3⟩ := ok.tgt h2
      obtain ⟨r1, r2, r3⟩ := ok.tgt h3
      refine wst_tup3 i j n ok.calm ok.nd (bne_ne h0) (bne_ne h01) (bne_ne h02) ((rE a ok h15 k).mono fun ra kr => (rE b ok h16 kr).mono fun rb kr2 => (rE d ok h17 kr2).mono fun rd kr3 => ?_) (inR_lt k0.1) (inR_lt k0.2.1) (inR_lt k0.2.2) t1 s1 r1 t2 s2 r2 t3 s3 r3 rfl rfl rfl rfl rfl (ok.tupC h7) rfl rfl (star_cons h4) (star_cons h5) (star_cons h6)
      obtain ⟨n1, n2, n3, kr3⟩ := kr3
      obtain ⟨Γ2, g1, g2⟩ := set_cond kr3
      obtain ⟨_, _, _, rfl⟩ := sO3_eq g1
      exact ⟨n1, n2, n3, g2⟩
    · cases h
  | .aug i op e, X, c, S, st, Γ, D, ok, h, k => by
    unfold ckSt at h
    split at h
    · rename_i x op' v q
      obtain ⟨p, pos, rfl⟩ := pAug_eq q
      simp only [Bool.and_eq_true, decide_eq_true_eq] at h
      obtain ⟨rfl, h1, h2⟩ := h
      obtain ⟨t1, t2, t3⟩ := ok.tgt h1
      obtain ⟨a, ha, k⟩ := int_at k
      refine wst_aug i (gD_get ha (by intro z; cases z)) ok.nd ((rE e ok h2 k).mono fun r kr => ?_) t1 t2 t3
      generalize frz r = fr at kr ⊢
      clear k
      split at kr
      · rw [sD_set] at kr
        exact od_iadd ⟨rfl, kr⟩
      · rw [sD_set] at kr
        exact od_isub ⟨rfl, kr⟩
      · exact kr.elim
    · cases h
  | .ret e, X, c, S, st, Γ, D, ok, h, k => by
    unfold ckSt at h
    split at h
    · rename_i v q
      obtain ⟨pos, rfl⟩ := pRet_eq q
      exact wst_ret (rE e ok h k)
    · cases h
  | .retOwn i, X, c, S, st, Γ, D, ok, h, k => by
    unfold ckSt at h
    split at h
    · rename_i v q
      obtain ⟨pos, rfl⟩ := pRet_eq q
      split at h
      · rename_i x q2
        obtain ⟨p2, rfl⟩ := pName_eq q2
        obtain ⟨g1, g2, g3, g4⟩ := ok.var h
        obtain ⟨d, hd, k⟩ := own_at k
        exact wst_retOwn i (gD_get hd (by intro z; cases z)) k g1 g2 g3 g4
      · cases h
    · cases h
  | .retN, X, c, S, st, Γ, D, ok, h, k => by cases h
  | .ife t a b, X, c, S, st, Γ, D, ok, h, k => by
    unfold ckSt at h
    split at h
    · rename_i te x y q
      obtain ⟨pos, rfl⟩ := pIfS_eq q
      simp only [Bool.and_eq_true] at h
      exact wst_if <| (rT t ok h.1 k).mono fun z kz => ⟨fun e => rS a ok h.2.1 (kz.1 e), fun e => rS b ok h.2.2 (kz.2 e)⟩
    · cases h
  | .app i e, X, c, S, st, Γ, D, ok, h, k => by
    unfold ckSt at h
    split at h
    · rename_i x m v q
      obtain ⟨p, ap, cp, pos, rfl, hp⟩ := pMet_eq q
      simp only [Bool.and_eq_true, decide_eq_true_eq] at h
      obtain ⟨rfl, h1, h2, h3⟩ := h
      obtain ⟨g1, g2, g3, g4⟩ := ok.var h1
      obtain ⟨l, hl, k0, k⟩ := ownL_at k
      refine wst_append i (gD_get hl (by intro z; cases z)) k0 ((rE e ok h3 k).mono fun r kr => ?_) g1 g2 g3 g4 rfl ?_ hp (star_cons h2) rfl rfl
      · obtain ⟨d, q1, k2⟩ := im_cond kr
        rw [sD_set] at k2
        exact ⟨d, q1, k2⟩
      · rw [star_cons h2]
        rfl
    · cases h
  | .ext i e, X, c, S, st, Γ, D, ok, h, k => by
    unfold ckSt at h
    split at h
    · rename_i x m v q
      obtain ⟨p, ap, cp, pos, rfl, hp⟩ := pMet_eq q
      simp only [Bool.and_eq_true, decide_eq_true_eq] at h
      obtain ⟨rfl, h1, h2, h3⟩ := h
      obtain ⟨g1, g2, g3, g4⟩ := ok.var h1
      obtain ⟨l, hl, k⟩ := ownL_at k
      refine wst_extend i (gD_get hl (by intro z; cases z)) ((rE e ok h3 k).mono fun r kr => ?_) g1 g2 g3 g4 rfl ?_ hp (star_cons h2) rfl rfl
      · obtain ⟨d, q1, k1, k2⟩ := seq_cond kr
        rw [sD_set] at k2
        exact ⟨d, q1, k1, k2⟩
      · rw [star_cons h2]
        rfl
    · cases h
  | .expr e, X, c, S, st, Γ, D, ok, h, k => by
    unfold ckSt at h
    split at h
    · rename_i v q
      obtain ⟨pos, rfl⟩ := pExp_eq q
      rw [Bool.and_eq_true] at h
      exact wst_expr (rE e ok h.2 k) (no_swap h.1 _ _ _)
    · cases h
  | .cont, X, c, S, st, Γ, D, ok, h, k => by
    unfold ckSt at h
    split at h
    · exact wst_continue k
    · cases h
  | .brk, X, c, S, st, Γ, D, ok, h, k => by
    unfold ckSt at h
    split at h
    · exact wst_break k
    · cases h
  | .for_ tg it body, X, c, S, st, Γ, D, ok, h, k => by
    unfold ckSt at h
    split at h
    · rename_i tge ite b q
      obtain ⟨pos, rfl⟩ := pFor_eq q
      simp only [Bool.and_eq_true] at h
      obtain ⟨h1, h2, h3, h4, h5⟩ := h
      refine wst_forX ((rI it (tg := tge) ok h2 h5 k).mono fun n item kI => ?_) ok.pass ok.calm (no_set h1 _)
      obtain ⟨J, j0, j1, j2⟩ := kI
      refine ⟨J, j0, fun F i Γ' hi hj => ?_, j2⟩
      obtain ⟨d, e, T⟩ := j1 F i Γ' hi hj
      rw [e]
      obtain ⟨Γ2, g1, g2⟩ := set_cond T
      exact rTgD ok h3 g1 (rS body ok h4 g2)
    · cases h
  | .whl t body, X, c, S, st, Γ, D, ok, h, k => by
    unfold ckSt at h
    split at h
    · rename_i te b q
      obtain ⟨pos, rfl⟩ := pWhl_eq q
      simp only [Bool.and_eq_true] at h
      obtain ⟨J, m0, j0, j1⟩ := k
      exact wst_while J m0 j0 (fun m Γ' hj => (rT t ok h.1 (j1 m Γ' hj)).mono fun z kz => ⟨fun e => rS body ok h.2 (kz.1 e), kz.2⟩) ok.pass
    · cases h
  | .asg tg e, X, c, S, st, Γ, D, ok, h, k => by
    unfold ckSt at h
    split at h
    · rename_i t v q
      obtain ⟨pos, rfl, hp⟩ := pAsT_eq q
      simp only [Bool.and_eq_true] at h
      obtain ⟨h0, h1, h2, h3⟩ := h
      obtain ⟨es, kt, tp, rfl⟩ := isTup_eq (r := .opq) (by rw [h0]; rfl) rfl
      refine wst_asg ((rE e ok h3 k).mono fun r kr => ?_) (no_swap h1 (some (.Tuple es kt tp)) pos.line X.env) (no_swapped hp) rfl
      obtain ⟨d, rfl, d', rfl, kr⟩ := im_cond kr
      obtain ⟨Γ2, g1, g2⟩ := set_cond kr
      exact rTgD ok h2 g1 g2
    · cases h
  | .frz _, X, c, S, st, Γ, D, ok, h, k => k.elim
  | .cut _, X, c, S, st, Γ, D, ok, h, k => k.elim
theorem rS : ∀ (rs : List RS) {X : Cx} {c : C0} {S : SC} {sts : List Stmt} {Γ : List Sl} {D : DEnds}, OkC X S → ckS S rs sts = true → vS X c rs sts Γ D → WPs X c sts Γ D
  | [], X, c, S, sts, Γ, D, ok, h, k => by
    unfold ckS at h
    rw [List.isEmpty_iff] at h
    rw [h]
    exact wps_nil k
  | .frz i :: rs, X, c, S, sts, Γ, D, ok, h, k => by
    obtain ⟨d, hd, k⟩ := own_at k
    have k := rS rs ok h k
    rw [sD_set] at k
    exact wps_freeze i (gD_get hd (by intro z; cases z)) k
  | .cut r :: rs, X, c, S, sts, Γ, D, ok, h, k => by
    cases sts with
    | nil => cases h
    | cons st sts =>
      have h : (ckSt S r st && ckS S rs sts) = true := h
      rw [Bool.and_eq_true] at h
      obtain ⟨J, k1, k2⟩ := k
      exact wps_seqD J (rSt r ok h.1 k1) fun Γ' hj => rS rs ok h.2 (k2 Γ' hj)
  | .opq :: rs, X, c, S, sts, Γ, D, ok, h, k => by
    cases sts with
    | nil => cases h
    | cons st sts =>
      have h : (ckSt S (.opq) st && ckS S rs sts) = true := h
      rw [Bool.and_eq_true] at h
      exact wps_cons (WPst.mono (rSt (.opq) ok h.1 k) (fun Γ' hk => rS rs ok h.2 hk) (fun _ z => z) (fun _ z => z) fun _ z => z)
  | .set i e :: rs, X, c, S, sts, Γ, D, ok, h, k => by
    cases sts with
    | nil => cases h
    | cons st sts =>
      have h : (ckSt S (.set i e) st && ckS S rs sts) = true := h
      rw [Bool.and_eq_true] at h
      exact wps_cons (WPst.mono (rSt (.set i e) ok h.1 k) (fun Γ' hk => rS rs ok h.2 hk) (fun _ z => z) (fun _ z => z) fun _ z => z)
  | .setLc i own tg it cd elt :: rs, X, c, S, sts, Γ, D, ok, h, k => by
    cases sts with
    | nil => cases h
    | cons st sts =>
      have h : (ckSt S (.setLc i own tg it cd elt) st && ckS S rs sts) = true := h
      rw [Bool.and_eq_true] at h
      exact wps_cons (WPst.mono (rSt (.setLc i own tg it cd elt) ok h.1 k) (fun Γ' hk => rS rs ok h.2 hk) (fun _ z => z) (fun _ z => z) fun _ z => z)
  | .par2 i j a b :: rs, X, c, S, sts, Γ, D, ok, h, k => by
    cases sts with
    | nil => cases h
    | cons st sts =>
      have h : (ckSt S (.par2 i j a b) st && ckS S rs sts) = true := h
      rw [Bool.and_eq_true] at h
      exact wps_cons (WPst.mono (rSt (.par2 i j a b) ok h.1 k) (fun Γ' hk => rS rs ok h.2 hk) (fun _ z => z) (fun _ z => z) fun _ z => z)
  | .tup2 i j a b :: rs, X, c, S, sts, Γ, D, ok, h, k => by
    cases sts with
    | nil => cases h
    | cons st sts =>
      have h : (ckSt S (.tup2 i j a b) st && ckS S rs sts) = true := h
      rw [Bool.and_eq_true] at h
      exact wps_cons (WPst.mono (rSt (.tup2 i j a b) ok h.1 k) (fun Γ' hk => rS rs ok h.2 hk) (fun _ z => z) (fun _ z => z) fun _ z => z)
  | .par3 i j n a b d :: rs, X, c, S, sts, Γ, D, ok, h, k => by
    cases sts with
    | nil => cases h
    | cons st sts =>
      have h : (ckSt S (.par3 i j n a b d) st && ckS S rs sts) = true := h
      rw [Bool.and_eq_true] at h
      exact wps_cons (WPst.mono (rSt (.par3 i j n a b d) ok h.1 k) (fun Γ' hk => rS rs ok h.2 hk) (fun _ z => z) (fun _ z => z) fun _ z => z)
  | .tup3 i j n a b d :: rs, X, c, S, sts, Γ, D, ok, h, k => by
    cases sts with
    | nil => cases h
    | cons st sts =>
      have h : (ckSt S (.tup3 i j n a b d) st && ckS S rs sts) = true := h
      rw [Bool.and_eq_true] at h
      exact wps_cons (WPst.mono (rSt (.tup3 i j n a b d) ok h.1 k) (fun Γ' hk => rS rs ok h.2 hk) (fun _ z => z) (fun _ z => z) fun _ z => z)
  | .aug i op e :: rs, X, c, S, sts, Γ, D, ok, h, k => by
    cases sts with
    | nil => cases h
    | cons st sts =>
      have h : (ckSt S (.aug i op e) st && ckS S rs sts) = true := h
      rw [Bool.and_eq_true] at h
      exact wps_cons (WPst.mono (rSt (.aug i op e) ok h.1 k) (fun Γ' hk => rS rs ok h.2 hk) (fun _ z => z) (fun _ z => z) fun _ z => z)
  | .ret e :: rs, X, c, S, sts, Γ, D, ok, h, k => by
    cases sts with
    | nil => cases h
    | cons st sts =>
      have h : (ckSt S (.ret e) st && ckS S rs sts) = true := h
      rw [Bool.and_eq_true] at h
      exact wps_cons (WPst.mono (rSt (.ret e) ok h.1 k) (fun Γ' hk => rS rs ok h.2 hk) (fun _ z => z) (fun _ z => z) fun _ z => z)
  | .retOwn i :: rs, X, c, S, sts, Γ, D, ok, h, k => by
    cases sts with
    | nil => cases h
    | cons st sts =>
      have h : (ckSt S (.retOwn i) st && ckS S rs sts) = true := h
      rw [Bool.and_eq_true] at h
      exact wps_cons (WPst.mono (rSt (.retOwn i) ok h.1 k) (fun Γ' hk => rS rs ok h.2 hk) (fun _ z => z) (fun _ z => z) fun _ z => z)
  | .retN :: rs, X, c, S, sts, Γ, D, ok, h, k => by
    cases sts with
    | nil => cases h
    | cons st sts =>
      have h : (ckSt S (.retN) st && ckS S rs sts) = true := h
      rw [Bool.and_eq_true] at h
      exact wps_cons (WPst.mono (rSt (.retN) ok h.1 k) (fun Γ' hk => rS rs ok h.2 hk) (fun _ z => z) (fun _ z => z) fun _ z => z)
  | .ife t a b :: rs, X, c, S, sts, Γ, D, ok, h, k => by
    cases sts with
    | nil => cases h
    | cons st sts =>
      have h : (ckSt S (.ife t a b) st && ckS S rs sts) = true := h
      rw [Bool.and_eq_true] at h
      exact wps_cons (WPst.mono (rSt (.ife t a b) ok h.1 k) (fun Γ' hk => rS rs ok h.2 hk) (fun _ z => z) (fun _ z => z) fun _ z => z)
  | .app i e :: rs, X, c, S, sts, Γ, D, ok, h, k => by
    cases sts with
    | nil => cases h
    | cons st sts =>
      have h : (ckSt S (.app i e) st && ckS S rs sts) = true := h
      rw [Bool.and_eq_true] at h
      exact wps_cons (WPst.mono (rSt (.app i e) ok h.1 k) (fun Γ' hk => rS rs ok h.2 hk) (fun _ z => z) (fun _ z => z) fun _ z => z)
  | .ext i e :: rs, X, c, S, sts, Γ, D, ok, h, k => by
    cases sts with
    | nil => cases h
    | cons st sts =>
      have h : (ckSt S (.ext i e) st && ckS S rs sts) = true := h
      rw [Bool.and_eq_true] at h
      exact wps_cons (WPst.mono (rSt (.ext i e) ok h.1 k) (fun Γ' hk => rS rs ok h.2 hk) (fun _ z => z) (fun _ z => z) fun _ z => z)
  | .expr e :: rs, X, c, S, sts, Γ, D, ok, h, k => by
    cases sts with
    | nil => cases h
    | cons st sts =>
      have h : (ckSt S (.expr e) st && ckS S rs sts) = true := h
      rw [Bool.and_eq_true] at h
      exact wps_cons (WPst.mono (rSt (.expr e) ok h.1 k) (fun Γ' hk => rS rs ok h.2 hk) (fun _ z => z) (fun _ z => z) fun _ z => z)
  | .cont :: rs, X, c, S, sts, Γ, D, ok, h, k => by
    cases sts with
    | nil => cases h
    | cons st sts =>
      have h : (ckSt S (.cont) st && ckS S rs sts) = true := h
      rw [Bool.and_eq_true] at h
      exact wps_cons (WPst.mono (rSt (.cont) ok h.1 k) (fun Γ' hk => rS rs ok h.2 hk) (fun _ z => z) (fun _ z => z) fun _ z => z)
  | .brk :: rs, X, c, S, sts, Γ, D, ok, h, k => by
    cases sts with
    | nil => cases h
    | cons st sts =>
      have h : (ckSt S (.brk) st && ckS S rs sts) = true := h
      rw [Bool.and_eq_true] at h
      exact wps_cons (WPst.mono (rSt (.brk) ok h.1 k) (fun Γ' hk => rS rs ok h.2 hk) (fun _ z => z) (fun _ z => z) fun _ z => z)
  | .asg tg e :: rs, X, c, S, sts, Γ, D, ok, h, k => by
    cases sts with
    | nil => cases h
    | cons st sts =>
      have h : (ckSt S (.asg tg e) st && ckS S rs sts) = true := h
      rw [Bool.and_eq_true] at h
      exact wps_cons (WPst.mono (rSt (.asg tg e) ok h.1 k) (fun Γ' hk => rS rs ok h.2 hk) (fun _ z => z) (fun _ z => z) fun _ z => z)
  | .for_ tg it body :: rs, X, c, S, sts, Γ, D, ok, h, k => by
    cases sts with
    | nil => cases h
    | cons st sts =>
      have h : (ckSt S (.for_ tg it body) st && ckS S rs sts) = true := h
      rw [Bool.and_eq_true] at h
      exact wps_cons (WPst.mono (rSt (.for_ tg it body) ok h.1 k) (fun Γ' hk => rS rs ok h.2 hk) (fun _ z => z) (fun _ z => z) fun _ z => z)
  | .whl t body :: rs, X, c, S, sts, Γ, D, ok, h, k => by
    cases sts with
    | nil => cases h
    | cons st sts =>
      have h : (ckSt S (.whl t body) st && ckS S rs sts) = true := h
      rw [Bool.and_eq_true] at h
      exact wps_cons (WPst.mono (rSt (.whl t body) ok h.1 k) (fun Γ' hk => rS rs ok h.2 hk) (fun _ z => z) (fun _ z => z) fun _ z => z)
end
end DL

set_option Elab.async false
set_option linter.all false
set_option pp.maxSteps 300
set_option maxRecDepth 100000
set_option maxHeartbeats 4000000
/-! V6: promises of defs, by what they ask; calls by promises -/
namespace DL
open PySem PySem.Spec PyProof.Rows L2
/-- a def of the text behind the top -/
structure Df (K : PySem.W.Frag) (mg : Str → Option Value) (x : Str) (st : Stmt) (ps : List Str) : Prop where
  ex : ∃ f fd, Fun K x x st f fd ∧ mg x = some (.ref f) ∧ Binds K fd ps []
/-- what may be handed back -/
def good : Sl → Bool
  | .im _ => true
  | .own _ => true
  | _ => false
theorem good_isv {r : Sl} (h : good r = true) : isv r = false := by cases r <;> first | rfl | cases h
theorem good_hand {r : Sl} (h : good r = true) : r ≠ .hand := by
  intro z
  rw [z] at h
  cases h
def allIm : List Sl → Bool
  | [] => true
  | .im _ :: r => allIm r
  | _ :: _ => false
theorem allIm_eq : ∀ {rs : List Sl}, allIm rs = true → ∃ ds : List D, rs = ds.map Sl.im
  | [], _ => ⟨[], rfl⟩
  | s :: r, h => by
    cases s with
    | im d =>
      obtain ⟨ds, e⟩ := allIm_eq (rs := r) h
      exact ⟨d :: ds, by rw [e]; rfl⟩
    | _ => cases h
/-- known data, the hand ahead of them perhaps -/
def argB : List Sl → Bool
  | .hand :: r => allIm r
  | rs => allIm rs
theorem argB_eq {rs : List Sl} (h : argB rs = true) : (∃ ds : List D, rs = ds.map Sl.im) ∨ ∃ ds : List D, rs = .hand :: ds.map Sl.im := by
  unfold argB at h
  split at h
  · obtain ⟨ds, e⟩ := allIm_eq h
    exact .inr ⟨ds, by rw [e]⟩
  · exact .inl (allIm_eq h)
theorem args_env {c : C0} {F1 H1 : Hp} {L : L2.St} {G : List Sl} {vs : List V} {rs : List Sl} (ha : argB rs = true) (hl : vs.length = rs.length) (E1 : EnvR c F1 H1 (vs.reverse.map some ++ L) (rs.reverse ++ G)) : EnvR c F1 H1 L G ∧ EnvR (c.at F1 H1) F1 H1 (vs.map some) rs ∧ NV rs := by
  rcases argB_eq ha with ⟨ds, rfl⟩ | ⟨ds, rfl⟩
  · have hvl : vs.length = ds.length := by simpa using hl
    obtain ⟨E2, hd⟩ := EnvR.dats hvl E1
    exact ⟨E2, env_args E2.ex hd E2.hk E2.nw rfl rfl, nv_ims ds⟩
  · cases vs with
    | nil => simp at hl
    | cons v0 vs =>
      have hvl : vs.length = ds.length := by simpa using hl
      have E1' : EnvR c F1 H1 (vs.reverse.map some ++ (some v0 :: L)) ((ds.map Sl.im).reverse ++ (.hand :: G)) := by simpa [List.append_assoc] using E1
      obtain ⟨E2, hd⟩ := EnvR.dats hvl E1'
      have e0 : v0 = .ref c.hp := by
        have := E2.hand (i := 0) rfl
        simpa using this
      subst e0
      have EA : EnvR (c.at F1 H1) F1 H1 (vs.map some) (ds.map Sl.im) := env_args E2.ex hd E2.hk E2.nw rfl rfl
      exact ⟨E2.pop, EA.pushS ⟨rfl, rfl⟩, (nv_ims ds).cons rfl⟩
section
variable {ι : Type}
/-- at such arguments, results of such kind -/
def SpT (B : C0 → Prop) (n : Nat) (pre : ι → Prop) (args : ι → List Sl) (post : ι → Sl → Prop) : Sp := fun vs H Q _ => vs.length = n ∧ ∃ (c : C0) (F : Hp) (i : ι), B c ∧ (args i).length = n ∧ pre i ∧ NV (args i) ∧ c.F0 = F ∧ c.H0 = H ∧ EnvR c F H (vs.map some) (args i) ∧
  ∀ v r F' H', good r = true → post i r → EnvR c F' H' [some v] [r] → Q v H'
/-- a promise; g: only where nothing is being shown -/
def PrOk (g : Bool) (P : Program) (w : World) (K : PySem.W.Frag) (mg : Str → Option Value) (base : Heap) (k : Nat) (f : Addr) (fd : FuncData) (ps : List Str) (sp : Sp) : Prop := match g with
  | true => FnG P w K mg base k f fd ps sp
  | false => FnOk P w K mg base L2.CX0 k f fd ps sp
/-- the surroundings of a law's run -/
structure Rn where
  P : Program
  w : World
  K : PySem.W.Frag
  mg : Str → Option Value
  base : Heap
structure Pr (g : Bool) (B : C0 → Prop) (R : Rn) (k : Nat) (x : Str) (n : Nat) (pre : ι → Prop) (args : ι → List Sl) (post : ι → Sl → Prop) : Prop where
  ex : ∃ (f : Addr) (fd : FuncData) (ps : List Str), ps.length = n ∧ PrOk g R.P R.w R.K R.mg R.base k f fd ps (SpT B n pre args post) ∧ R.mg x = some (.ref f) ∧ PySem.W.keepIn R.K (.ref f) = true ∧ Binds R.K fd ps []
  ok : ∀ i, pre i → (args i).length = n ∧ argB (args i) = true
/-- X runs in R, with room for k calls -/
structure In (X : Cx) (R : Rn) (k : Nat) (g : Bool) : Prop where
  P : X.prog = R.P
  w : X.w = R.w
  K : X.K = R.K
  mg : X.mg = R.mg
  base : X.base = R.base
  room : Room k X.A
  calm : X.calm = true
  gd : g = true → X.A.guards = some []
theorem In.blk {X Y : Cx} {R : Rn} {k : Nat} {g : Bool} {sc : Scope} (h : In X R k g) (hY : IsBlk X sc Y) : In Y R k g := by
  obtain ⟨s, H, C, cl, fp, rfl⟩ := hY
  exact ⟨h.P, h.w, h.K, h.mg, h.base, h.room, h.calm, h.gd⟩
theorem In.low {X : Cx} {R : Rn} {k : Nat} (h : In X R k true) : In X R k false := ⟨h.P, h.w, h.K, h.mg, h.base, h.room, h.calm, fun z => by cases z⟩
theorem In.un {X : Cx} {R : Rn} {k : Nat} {g : Bool} (h : In X R k g) : X.A.units + 64 < cLine := h.room.units
theorem In.u1 {X : Cx} {R : Rn} {k : Nat} {g : Bool} (h : In X R k g) : X.A.units + 1 < cLine := by have := h.un; omega
/-- what is known behind a call -/
def Tq (pre : ι → Prop) (args : ι → List Sl) (post : ι → Sl → Prop) : List Sl → (Sl → Prop) → Prop := fun rs K => ∃ i, pre i ∧ rs = args i ∧ ∀ r, good r = true → post i r → K r
theorem Pr.mono {g : Bool} {B : C0 → Prop} {R : Rn} {j k : Nat} {x : Str} {n : Nat} {pre : ι → Prop} {args : ι → List Sl} {post : ι → Sl → Prop} (G : Pr g B R j x n pre args post) (h : j ≤ k) : Pr g B R k x n pre args post := by
  obtain ⟨⟨f, fd, ps, h1, G, h2⟩, h3⟩ := G
  refine ⟨⟨f, fd, ps, h1, ?_, h2⟩, h3⟩
  cases g with
  | true => exact FnG.mono G h
  | false => exact FnOk.mono G h
theorem Pr.sub {κ : Type} {g : Bool} {B : C0 → Prop} {R : Rn} {k : Nat} {x : Str} {n : Nat} {pre : ι → Prop} {args : ι → List Sl} {post : ι → Sl → Prop} {pre' : κ → Prop} {args' : κ → List Sl} {post' : κ → Sl → Prop} (G : Pr g B R k x n pre args post) (h : ∀ i', pre' i' → ∃ i, pre i ∧ args i = args' i' ∧ ∀ r, good r = true → post i r → post' i' r) : Pr g B R k x n pre' args' post' := by
  obtain ⟨⟨f, fd, ps, h1, G, h2⟩, h3⟩ := G
  have key : ∀ vs H Q E, SpT B n pre' args' post' vs H Q E → SpT B n pre args post vs H Q E := fun vs H Q E q => by
    obtain ⟨hl, c, F, i', hB, g1, g2, g3, g4, g5, g6, g7⟩ := q
    obtain ⟨i, k1, k2, k3⟩ := h i' g2
    exact ⟨hl, c, F, i, hB, by rw [k2]; exact g1, k1, by rw [k2]; exact g3, g4, g5, by rw [k2]; exact g6, fun v r F' H' q1 q2 q3 => g7 v r F' H' q1 (k3 r q1 q2) q3⟩
  refine ⟨⟨f, fd, ps, h1, ?_, h2⟩, fun i' hi => ?_⟩
  · cases g with
    | true => exact ⟨fun vs H Q E q => FnG.len G vs H Q E (key _ _ _ _ q), fun A outer s H args us vs Q E a b cc d e q => FnG.go G A outer s H args us vs Q E a b cc d e (key _ _ _ _ q)⟩
    | false => exact FnOk.imp G key
  · obtain ⟨i, k1, k2, k3⟩ := h i' hi
    rw [← k2]
    exact h3 i k1
/-- a call by a promise -/
theorem prm {X : Cx} {c : C0} {g g' : Bool} {B : C0 → Prop} {R : Rn} {j k : Nat} {x : Str} {n : Nat} {pre : ι → Prop} {args : ι → List Sl} {post : ι → Sl → Prop} (G : Pr g B R j x n pre args post) (hX : In X R k g') (hB : ∀ F H, B (c.at F H)) (hj : j ≤ k := by decide) (hg : g = true → g' = true := by decide) : Prm X c x (Tq pre args post) := by
  obtain ⟨⟨f, fd, ps, h1, G, hm, hk, hb⟩, h3⟩ := G
  obtain ⟨rP, rw_, rK, rmg, rbase⟩ := R
  obtain ⟨eP, ew, eK, em, eb, hr, hc, hgd⟩ := hX
  dsimp only at eP ew eK em eb G hm hk hb
  subst eP ew eK em eb
  intro e es p pos Γ K hgl hn hdb hpl h
  have key : ∀ (F H : Hp) (stk : L2.St) (S : List Sl) (σ : L2.St) (hl : stk.length = S.length) (E : EnvR c F H (stk ++ σ) (S ++ Γ)) (Q : VK) (E0 : XK), (∀ v r F' H', K r → EnvR c F' H' (some v :: (stk ++ σ)) (r :: (S ++ Γ)) → Q v H') →
      WA X (e :: es) σ H fun vs H1 => SpT B n pre args post vs H1 Q E0 := fun F H stk S σ hl E Q E0 q => by
    refine h F H stk S σ hl E _ fun vs rs F1 H1 k1 hl1 E1 => ?_
    obtain ⟨i, hp, rfl, kr⟩ := k1
    obtain ⟨a1, a2⟩ := h3 i hp
    obtain ⟨E2, E3, nv⟩ := args_env a2 hl1 E1
    refine ⟨by rw [hl1, a1], c.at F1 H1, F1, i, hB F1 H1, a1, hp, nv, rfl, rfl, E3, fun v r F' H' g1 g2 E' => ?_⟩
    exact q v r F' H' (kr r g1 g2) (E2.ret E' rfl rfl (fun a z => z) E'.hk (fun z => (good_hand g1 z).elim) (good_isv g1))
  intro F H stk S σ hl E Q q
  cases g with
  | true =>
    refine we_of (pe_callG (FnG.mono G hj) (hgd (hg rfl)) hr hgl hm hk hb pa_wa hdb hn hpl) ?_
    exact key F H stk S σ hl E Q _ q
  | false =>
    refine we_of (pe_call (E := L2.E0) (FnOk.mono G hj) hr hgl hm hk hb .nil L2.pass0 pa_wa hdb hn hpl) ?_
    refine Eq.mp ?_ (key F H stk S σ hl E Q L2.E0 q)
    refine congrArg (fun t => WA X (e :: es) σ H t) (funext fun vs => funext fun H1 => ?_)
    rw [List.append_nil]
/-- a def's promise, by its core text -/
theorem pr_mk {g : Bool} {B : C0 → Prop} {R : Rn} {k : Nat} {x : Str} {st : Stmt} {N ps fr : List Str} {n : Nat} {pre : ι → Prop} {args : ι → List Sl} {post : ι → Sl → Prop} {core : List RS} (d : Df R.K R.mg x st ps) (S : FnScope N ps (defScope st)) (hn : ps.length = n) (hfr : ∀ y ∈ fr, R.mg y = none) (hck : ckS ⟨N, defScope st, defScope st, fr⟩ core (defBody st) = true)
    (ha : ∀ i, pre i → (args i).length = n ∧ argB (args i) = true)
    (hb : ∀ (X : Cx) (c : C0), In X R k g → B c → ∀ i, pre i → vS X c core (defBody st) (args i ++ List.replicate (N.length - n) .any) { nx := fun _ => post i (.im .non), rt := fun r => good r = true ∧ post i r }) : Pr g B R (k + 1) x n pre args post := by
  obtain ⟨f, fd, F, hm, hbd⟩ := d.ex
  subst hn
  refine ⟨⟨f, fd, ps, rfl, ?_, hm, F.kp, hbd⟩, ha⟩
  have okc : ∀ (cdv : Value) (A : Around) (outer : List Env) (s : Shared) (H : Hp) (E : XK), Room k (A.deeper (PyProof.Rows.envOfC x (defScope st) s.heap.objs.size f cdv)) → OkC (cxOf L2.CX0 R.P R.w R.K R.mg R.base N x (defScope st) f cdv A outer s H E).nox ⟨N, defScope st, defScope st, fr⟩ := fun cdv A outer s H E hr =>
    ⟨rfl, rfl, fun _ _ => rfl, S.nd, rfl, PassesOwn.never, hfr, S.kind, hr.units⟩
  have run : ∀ (cdv : Value) (A : Around) (outer : List Env) (s : Shared) (H : Hp) (E : XK) (vs : List V) (Q : VK), Room k (A.deeper (PyProof.Rows.envOfC x (defScope st) s.heap.objs.size f cdv)) → (g = true → (A.deeper (PyProof.Rows.envOfC x (defScope st) s.heap.objs.size f cdv)).guards = some []) → SpT B ps.length pre args post vs H Q E →
      WSs (cxOf L2.CX0 R.P R.w R.K R.mg R.base N x (defScope st) f cdv A outer s H E).nox (defBody st) { nx := fun _ H' => Q .non H', rt := Q } (vs.map some ++ List.replicate (N.length - ps.length) none) H := fun cdv A outer s H E vs Q hr hgd h => by
    obtain ⟨hl, c, F1, i, hB, hrl, hpre, nv, e1, e2, E1, q⟩ := h
    refine rS core (okc cdv A outer s H E hr) hck (hb _ c ⟨rfl, rfl, rfl, rfl, rfl, hr, rfl, hgd⟩ hB i hpre) F1 H _ ⟨E1.rest, nv.rest⟩ _ ⟨fun Γ F H σ hn E' => q .non (.im .non) F H rfl hn (E'.env.push (d := .non) rfl).only, fun r v F H hn E' => q v r F H hn.1 hn.2 E', fun Γ F H σ hn E' => hn.elim, fun Γ F H σ hn E' => hn.elim⟩
  cases g with
  | true => exact fn_rawG F S (fun vs H Q E h => h.1) fun cdv A outer s H vs Q E hgd hr h => run cdv A outer s H E vs Q hr (fun _ => guards_deeper hgd) h
  | false => exact fn_raw F S (fun vs H Q E h => h.1) fun cdv A outer s H vs Q E hr h => run cdv A outer s H E vs Q hr (fun z => by cases z) h
end
end DL

set_option Elab.async false
set_option linter.all false
set_option pp.maxSteps 300
set_option maxRecDepth 100000
set_option maxHeartbeats 4000000
/-! V7: kinds of surroundings, the hand, defs that raise, where things stand behind the top -/
namespace DL
open PySem PySem.Spec PyProof.Rows L2
/-- a kind that stays -/
structure Bk (B : C0 → Prop) : Prop where
  at_ : ∀ {c : C0} (F H : Hp), B c → B (c.at F H)
  up : ∀ {c : C0} (F : Hp), B c → B (c.up F)
/-- of no kind -/
def B0 (_ : C0) : Prop := True
theorem bk0 : Bk B0 := ⟨fun _ _ _ => trivial, fun _ _ => trivial⟩
theorem bkH : Bk HandC := ⟨fun F H h => h.at F H, fun F h => ⟨h.ex⟩⟩
/-- the names of what is built in -/
structure Mb (mg : Str → Option Value) : Prop where
  isi : mg "isinstance" = none
  tup : mg "tuple" = none
  str : mg "str" = none
  int : mg "int" = none
  bool : mg "bool" = none
  len : mg "len" = none
  all : mg "all" = none
  any : mg "any" = none
  sum : mg "sum" = none
  min : mg "min" = none
  max : mg "max" = none
  list : mg "list" = none
  dict : mg "dict" = none
  set : mg "set" = none
  range : mg "range" = none
  enum : mg "enumerate" = none
  zip : mg "zip" = none
  sorted : mg "sorted" = none
  repr : mg "repr" = none
  abs : mg "abs" = none
  ord : mg "ord" = none
  ve : mg "ValueError" = none
  ke : mg "KeyError" = none
def BN : List Str := ["isinstance", "tuple", "str", "int", "bool", "len", "all", "any", "sum", "min", "max", "list", "dict", "set", "range", "enumerate", "zip", "sorted", "repr", "abs", "ord"]
theorem Mb.fr {mg : Str → Option Value} (m : Mb mg) : ∀ y ∈ BN, mg y = none := by
  intro y hy
  simp only [BN, List.mem_cons, List.not_mem_nil, or_false] at hy
  rcases hy with rfl | rfl | rfl | rfl | rfl | rfl | rfl | rfl | rfl | rfl | rfl | rfl | rfl | rfl | rfl | rfl | rfl | rfl | rfl | rfl | rfl
  · exact m.isi
  · exact m.tup
  · exact m.str
  · exact m.int
  · exact m.bool
  · exact m.len
  · exact m.all
  · exact m.any
  · exact m.sum
  · exact m.min
  · exact m.max
  · exact m.list
  · exact m.dict
  · exact m.set
  · exact m.range
  · exact m.enum
  · exact m.zip
  · exact m.sorted
  · exact m.repr
  · exact m.abs
  · exact m.ord
theorem env_dats {c : C0} {F H : Hp} : ∀ {ds : List D} {vs : List V}, EnvR c F H (vs.map some) (ds.map Sl.im) → Dats F ds vs
  | [], vs, E => by
    have := E.len
    simp only [List.length_map, List.length_nil] at this
    exact List.length_eq_zero_iff.mp this
  | d :: ds, vs, E => by
    cases vs with
    | nil => exact absurd E.len (by simp)
    | cons v vs =>
      have E : EnvR c F H (some v :: vs.map some) (.im d :: ds.map Sl.im) := E
      exact ⟨v, vs, rfl, E.imAt (i := 0) rfl rfl, env_dats E.pop⟩
section
variable {ι : Type}
/-- from a promise with the hand alone to one with the hand beside other things -/
theorem pr_hand {R : Rn} {k : Nat} {x : Str} {n : Nat} {ps : List Str} {f : Addr} {fd : FuncData} {pre : List Sl → Prop} {post : List Sl → Sl → Prop} {pre' : ι → Prop} {args' : ι → List Sl} {post' : ι → Sl → Prop} (G : FnOk R.P R.w R.K R.mg R.base L2.CX0 k f fd ps (SpH ps.length pre post)) (hn : ps.length = n) (hm : R.mg x = some (.ref f)) (hk : PySem.W.keepIn R.K (.ref f) = true) (hb : Binds R.K fd ps [])
    (ha : ∀ i, pre' i → (args' i).length = n ∧ argB (args' i) = true) (h : ∀ i, pre' i → pre (args' i) ∧ ∀ r, post (args' i) r → good r = true ∧ post' i r) : Pr false HandC R k x n pre' args' post' := by
  refine ⟨⟨f, fd, ps, hn, ?_, hm, hk, hb⟩, ha⟩
  refine FnOk.imp G fun vs H Q E q => ?_
  obtain ⟨hl, c, F, i, hcd, hrl, hp, nv, e1, e2, E1, q⟩ := q
  obtain ⟨q1, q2, n1, n2, n3, hW, hat, back⟩ := hcd.ex
  obtain ⟨h1, h2⟩ := h i hp
  have E0 : EnvR (cHand F H c.hp q1 q2) F H (vs.map some) (args' i) := by
    obtain ⟨a1, a2⟩ := ha i hp
    rcases argB_eq a2 with ⟨ds, e⟩ | ⟨ds, e⟩
    · rw [e] at E1 ⊢
      exact env_args E1.ex (env_dats E1) (hat H E1.hk) (fun a z => E1.nw a (hW a z)) rfl rfl
    · rw [e] at E1 ⊢
      cases vs with
      | nil => exact absurd E1.len (by simp)
      | cons v0 vs =>
        have E1 : EnvR c F H (some v0 :: vs.map some) (.hand :: ds.map Sl.im) := E1
        have e0 : v0 = .ref c.hp := by
          have := E1.hand (i := 0) rfl
          simpa using this
        subst e0
        have EA : EnvR (cHand F H c.hp q1 q2) F H (vs.map some) (ds.map Sl.im) := env_args E1.ex (env_dats E1.pop) (hat H E1.hk) (fun a z => E1.nw a (hW a z)) rfl rfl
        exact EA.pushS ⟨rfl, rfl⟩
  refine ⟨by rw [hl, hn], cHand F H c.hp q1 q2, F, args' i, cHand_handy n1 n2 n3, by rw [hrl, hn], h1, nv, rfl, rfl, E0, fun v r F' H' hpost E' => ?_⟩
  obtain ⟨g1, g2⟩ := h2 r hpost
  have E2 : EnvR c F H [] [] := E1.none_
  exact q v r F' H' g1 g2 (E2.ret E' rfl rfl (fun a z => hW a z) (back H H' E2.hk E'.hk fun a o z n => E'.fr a o z n) (fun _ => rfl) (good_isv g1))
/-! ### defs that raise -/
structure PrE (R : Rn) (k : Nat) (x : Str) (n : Nat) (pre : ι → Prop) (args : ι → List D) (cls : Value) : Prop where
  ex : ∃ (f : Addr) (fd : FuncData) (ps : List Str), ps.length = n ∧ FnOk R.P R.w R.K R.mg R.base (L2.CX R.P R.w) k f fd ps (SpE ps.length (fun rs => ∃ i, pre i ∧ rs = (args i).map Sl.im) cls) ∧ R.mg x = some (.ref f) ∧ PySem.W.keepIn R.K (.ref f) = true ∧ Binds R.K fd ps []
  ok : ∀ i, pre i → (args i).length = n
theorem PrE.mono {R : Rn} {j k : Nat} {x : Str} {n : Nat} {pre : ι → Prop} {args : ι → List D} {cls : Value} (G : PrE R j x n pre args cls) (h : j ≤ k) : PrE R k x n pre args cls := by
  obtain ⟨⟨f, fd, ps, h1, G, h2⟩, h3⟩ := G
  exact ⟨⟨f, fd, ps, h1, G.mono h, h2⟩, h3⟩
/-- a call that raises -/
theorem prmE {X : Cx} {c : C0} {g : Bool} {R : Rn} {j k : Nat} {x : Str} {n : Nat} {pre : ι → Prop} {args : ι → List D} {cls : Value} (G : PrE R j x n pre args cls) (hX : In X R k g) (hR : Rz X c cls) (hj : j ≤ k := by decide) : Prm X c x fun rs _ => ∃ i, pre i ∧ rs = (args i).map Sl.im := by
  obtain ⟨⟨f, fd, ps, h1, G, hm, hk, hb⟩, h3⟩ := G
  obtain ⟨rP, rw_, rK, rmg, rbase⟩ := R
  obtain ⟨eP, ew, eK, em, eb, hr, hc, hgd⟩ := hX
  dsimp only at eP ew eK em eb G hm hk hb
  subst eP ew eK em eb h1
  intro e es p pos Γ K hgl hn hdb hpl h
  refine wp_callE (G.mono hj) hR hr hm hk hb (h.mono fun rs hrs => ?_) hgl hn hdb hpl
  obtain ⟨i, hi, rfl⟩ := hrs
  exact ⟨args i, rfl, h3 i hi, i, hi, rfl⟩
/-- a raising def's promise, by its core text -/
theorem prE_mk {R : Rn} {k : Nat} {x : Str} {st : Stmt} {N ps fr : List Str} {n : Nat} {pre : ι → Prop} {args : ι → List D} {cls : Value} {core : List RS} (d : Df R.K R.mg x st ps) (S : FnScope N ps (defScope st)) (hn : ps.length = n) (hfr : ∀ y ∈ fr, R.mg y = none) (hck : ckS ⟨N, defScope st, defScope st, fr⟩ core (defBody st) = true)
    (ha : ∀ i, pre i → (args i).length = n)
    (hb : ∀ (X : Cx) (c : C0), In X R k false → Rz X c cls → ∀ i, pre i → vS X c core (defBody st) ((args i).map Sl.im ++ List.replicate (N.length - n) .any) { nx := fun _ => False, rt := fun _ => False }) : PrE R (k + 1) x n pre args cls := by
  obtain ⟨f, fd, F, hm, hbd⟩ := d.ex
  subst hn
  refine ⟨⟨f, fd, ps, rfl, fn_E F S fun cdv A outer s H E c rs hr hl hpre hR => ?_, hm, F.kp, hbd⟩, ha⟩
  obtain ⟨i, hi, rfl⟩ := hpre
  exact rS core ⟨rfl, rfl, fun _ _ => rfl, S.nd, rfl, passes_of rfl, hfr, S.kind, hr.units⟩ hck (hb _ c ⟨rfl, rfl, rfl, rfl, rfl, hr, rfl, fun z => by cases z⟩ hR i hi)
end
/-! ### a lambda told -/
theorem told_v {X : Cx} {c : C0} {R : Rn} {Γ : List Sl} {K : Sl → Prop} {w1 w2 x a : Str} {C g cd P : Addr} {k : Nat} {st : Stmt} {fd : FuncData} {Ng N fr : List Str} {params : Arguments} {body : Expr} {scope : Scope} {p lpos pos : Pos} {core : RE} (hX : In X R (k + 2) true) (T : TabC c P (X.env.qual ++ "<lambda>"))
    (Fg : Fun R.K x x st g fd) (Sg : FnScope Ng [a] (defScope st)) (hN0 : Ng[0]? = some a) (hm : R.mg x = some (.ref g)) (hb : L2.Binds R.K fd [a] [])
    (hG : ∀ cdv : Value, LamX.GivesTo X Ng x (defScope st) g cdv (defBody st) a (X.env.qual ++ "<lambda>") (TTd (.ref C) w1 w2)) (TB : LamX.TabB R.base R.mg cd P) (hcode : X.env.code = .ref cd)
    (hva : Vis (defScope st) a) (L : LamX.LamS X.env.scope scope) (hN : X.N = N) (hnd : X.N.Nodup) (hfr : ∀ y ∈ fr, R.mg y = none) (hck : ckE ⟨N, scope, scope, fr⟩ core body = true)
    (h : (∀ (Y : Cx) (F0 H0 : Hp), In Y R k false → vE Y (c.at F0 H0) core body (Γ.map lookS) fun r => ∃ d, frz r = .im d ∧ K (.im (.tup [.str w1, d]))) ∨
      (K (.im (.tup [.str w2])) ∧ ∀ (Y : Cx) (F0 H0 : Hp), In Y R k false → Rz Y (c.at F0 H0) (.ref C) → vE Y (c.at F0 H0) core body (Γ.map lookS) fun _ => False))
    (hg : Gl X x := by rfl) (hdef : defaultsOf params X.env = ([], []) := by rfl)
    (hbind : ∀ (q : Str) (cl : List (Str × Addr)) (pm cv ctv : Value), bindArgs (PySem.W.kla_fn "<lambda>" q params body scope cl pm cv ctv) ⟨[], []⟩ = pure [] := by intro _ _ _ _ _; rfl)
    (hdb : (x == ("__debug__" : Str)) = false := by decide) (hd : (a == ("__debug__" : Str)) = false := by decide) (hcd : (a == ("__classdict__" : Str)) = false := by decide) :
    WPe X c (.Call (.Name x p) [.Lambda params body scope lpos] [] pos) Γ K := by
  obtain ⟨rP, rw_, rK, rmg, rbase⟩ := R
  obtain ⟨eP, ew, eK, em, eb, hr, hc, hgd⟩ := hX
  dsimp only at eP ew eK em eb Fg hm hb TB hfr
  subst eP ew eK em eb
  have okc : ∀ (E : XK) (A : Around) (outer : List Env) (s : Shared) (H0 : Hp) (f c' : Addr), Room k (A.deeper (LamX.lamEnv X scope s.heap.objs.size f c')) → OkC (LamX.lamCx X A outer s H0 E scope f c') ⟨N, scope, scope, fr⟩ := fun E A outer s H0 f c' hr2 =>
    ⟨hN, rfl, fun y z => ?_, hnd, rfl, passes_of rfl, hfr, L.kind, hr2.units⟩
  · refine wp_told T Fg Sg hN0 hm hb hG TB hcode hr hva L ?_ hg hdef hbind hdb hd hcd
    rcases h with h | ⟨hk, h⟩
    · refine .inl fun E A outer s F0 HH H0 f c' hr2 => ?_
      exact rE core (okc E A outer s H0 f c' hr2) hck (h _ F0 HH ⟨rfl, rfl, rfl, rfl, rfl, hr2, rfl, fun z => by cases z⟩)
    · refine .inr ⟨hk, fun E A outer s F0 HH H0 f c' hr2 hR => ?_⟩
      exact rE core (okc E A outer s H0 f c' hr2) hck (h _ F0 HH ⟨rfl, rfl, rfl, rfl, rfl, hr2, rfl, fun z => by cases z⟩ hR)
  · have hm := PySem.mem_of_lookup z
    exact absurd rfl (L.own _ hm).2
/-! ### where things stand behind the top -/
structure At (K : PySem.W.Frag) (x : Str) (st : Stmt) : Prop where
  ex : ∃ (f : Addr) (oc : Value) (od an : Option Addr) (osl : Array (Option Value)) (kV doc pm cdv ct : Value), PySem.W.nsIn K mainGlobals x = some (some (.ref f)) ∧
    K.lookup f = some ⟨oc, od, .func (PySem.W.fnOf x x (defArgs st) (defBody st) (defScope st) .none kV doc pm an cdv ct), osl⟩ ∧ PySem.W.codeIn K cdv x = true ∧ PySem.W.keepIn K (.ref f) = true
theorem at_mk {K : PySem.W.Frag} {x : Str} {st : Stmt} {f : Addr} {oc : Value} {od an : Option Addr} {osl : Array (Option Value)} {kV doc pm cdv ct : Value} (a : PySem.W.nsIn K mainGlobals x = some (some (.ref f)))
    (l : K.lookup f = some ⟨oc, od, .func (PySem.W.fnOf x x (defArgs st) (defBody st) (defScope st) .none kV doc pm an cdv ct), osl⟩) (c : PySem.W.codeIn K cdv x = true) (k : PySem.W.keepIn K (.ref f) = true) : At K x st := ⟨f, oc, od, an, osl, kV, doc, pm, cdv, ct, a, l, c, k⟩
section
variable {K : PySem.W.Frag} {h : Heap} {mg : Str → Option Value} {x : Str} {st : Stmt}
theorem At.fn (A : At K x st) (X : K.In h) (G : h.Ns mainGlobals mg) : ∃ f fd, Fun K x x st f fd ∧ mg x = some (.ref f) ∧ (∃ (kV doc pm : Value) (an : Option Addr) (cdv ct : Value), fd = PySem.W.fnOf x x (defArgs st) (defBody st) (defScope st) .none kV doc pm an cdv ct) := by
  obtain ⟨f, oc, od, an, osl, kV, doc, pm, cdv, ct, a, l, c, k⟩ := A.ex
  exact ⟨f, _, fun_mk l c k, PySem.W.mg_of X G a, kV, doc, pm, an, cdv, ct, rfl⟩
theorem At.df (A : At K x st) (X : K.In h) (G : h.Ns mainGlobals mg) {ps : List Str} (hb : ∀ (kV doc pm : Value) (an : Option Addr) (cdv ct : Value) (us : List Value), us.length = ps.length → bindArgs (PySem.W.fnOf x x (defArgs st) (defBody st) (defScope st) .none kV doc pm an cdv ct) ⟨us, []⟩ = pure (ps.zip us)) : Df K mg x st ps := by
  obtain ⟨f, fd, F, hm, _⟩ := A.fn X G
  exact ⟨f, fd, F, hm, F.binds hb⟩
end
structure Cns (K : PySem.W.Frag) (x : Str) (s : Str) : Prop where
  ex : ∃ t, PySem.W.nsIn K mainGlobals x = some (some (.str s t))
structure Cni (K : PySem.W.Frag) (x : Str) (s : Int) : Prop where
  ex : ∃ t, PySem.W.nsIn K mainGlobals x = some (some (.int s t))
theorem cns_mk {K : PySem.W.Frag} {x s : Str} {t : Tok} (a : PySem.W.nsIn K mainGlobals x = some (some (.str s t))) : Cns K x s := ⟨t, a⟩
theorem cni_mk {K : PySem.W.Frag} {x : Str} {s : Int} {t : Tok} (a : PySem.W.nsIn K mainGlobals x = some (some (.int s t))) : Cni K x s := ⟨t, a⟩
/-- a def with a table of code objects, as it stands behind the top -/
structure AtT (K : PySem.W.Frag) (x : Str) (st : Stmt) (f cd P : Addr) : Prop where
  a : PySem.W.nsIn K mainGlobals x = some (some (.ref f))
  l : ∃ (oc : Value) (od an : Option Addr) (osl : Array (Option Value)) (kV doc pm ct : Value), K.lookup f = some ⟨oc, od, .func (PySem.W.fnOf x x (defArgs st) (defBody st) (defScope st) .none kV doc pm an (.ref cd) ct), osl⟩
  c : PySem.W.codeIn K (.ref cd) x = true
  k : PySem.W.keepIn K (.ref f) = true
  t : ∃ (oc : Value) (od : Option Addr) (vs : Array Value) (osl : Array (Option Value)), K.lookup cd = some ⟨oc, od, .fields vs, osl⟩ ∧ vs[11]? = some (.ref P)
  h : PySem.W.codeHdIn K cd P = true
  n : K.lookup P = none
theorem atT_mk {K : PySem.W.Frag} {x : Str} {st : Stmt} {f cd P : Addr} {oc : Value} {od an : Option Addr} {osl : Array (Option Value)} {kV doc pm ct : Value} {oc2 : Value} {od2 : Option Addr} {vs : Array Value} {osl2 : Array (Option Value)} (a : PySem.W.nsIn K mainGlobals x = some (some (.ref f)))
    (l : K.lookup f = some ⟨oc, od, .func (PySem.W.fnOf x x (defArgs st) (defBody st) (defScope st) .none kV doc pm an (.ref cd) ct), osl⟩) (c : PySem.W.codeIn K (.ref cd) x = true) (k : PySem.W.keepIn K (.ref f) = true)
    (t : K.lookup cd = some ⟨oc2, od2, .fields vs, osl2⟩) (t2 : vs[11]? = some (.ref P)) (h : PySem.W.codeHdIn K cd P = true) (n : K.lookup P = none) : AtT K x st f cd P := ⟨a, ⟨_, _, _, _, _, _, _, _, l⟩, c, k, ⟨_, _, _, _, t, t2⟩, h, n⟩
theorem AtT.tab {K : PySem.W.Frag} {x : Str} {st : Stmt} {f cd P : Addr} (A : AtT K x st f cd P) : PySem.W.tabIn K x = some (cd, P) := by
  obtain ⟨oc, od, an, osl, kV, doc, pm, ct, l⟩ := A.l
  obtain ⟨oc2, od2, vs, osl2, t, t2⟩ := A.t
  unfold PySem.W.tabIn
  rw [A.a]
  dsimp only
  rw [l]
  dsimp only
  show (match K.lookup cd with
        | some ⟨_, _, .fields vs, _⟩ => (match (vs[11]? : Option Value) with
          | some (.ref P) => some (cd, P)
          | _ => none)
        | _ => none) = _
  rw [t]
  dsimp only
  rw [t2]
theorem AtT.funC {K : PySem.W.Frag} {x : Str} {st : Stmt} {f cd P : Addr} (A : AtT K x st f cd P) : ∃ fd, FunC K x st f fd cd ∧ ∃ (kV doc pm : Value) (an : Option Addr) (ct : Value), fd = PySem.W.fnOf x x (defArgs st) (defBody st) (defScope st) .none kV doc pm an (.ref cd) ct := by
  obtain ⟨oc, od, an, osl, kV, doc, pm, ct, l⟩ := A.l
  exact ⟨_, ⟨⟨oc, od, kV, doc, pm, an, ct, osl, rfl, l, A.c⟩, A.k⟩, kV, doc, pm, an, ct, rfl⟩
end DL

set_option Elab.async false
set_option linter.all false
set_option pp.maxSteps 300
set_option maxRecDepth 100000
set_option maxHeartbeats 2000000
/-! V8: handy facts: constants, slices, comprehensions, texts -/
namespace DL
open PySem PySem.Spec PyProof.Rows L2
theorem In.gi {X : Cx} {R : Rn} {k : Nat} {g : Bool} {x : Str} {s : Int} {Q : Int → Prop} (hX : In X R k g) (h : ∃ t, R.mg x = some (.int s t)) (q : Q s) : ∃ s t, X.mg x = some (.int s t) ∧ Q s := by
  obtain ⟨t, h⟩ := h
  exact ⟨s, t, by rw [hX.mg]; exact h, q⟩
theorem In.gs {X : Cx} {R : Rn} {k : Nat} {g : Bool} {x : Str} {s : Str} {Q : Str → Prop} (hX : In X R k g) (h : ∃ t, R.mg x = some (.str s t)) (q : Q s) : ∃ s t, X.mg x = some (.str s t) ∧ Q s := by
  obtain ⟨t, h⟩ := h
  exact ⟨s, t, by rw [hX.mg]; exact h, q⟩
/-! ### slices, items -/
theorem cutG_take {α : Type} (l : List α) (n : Nat) : cutG l none (some (n : Int)) = l.take n := by
  unfold cutG
  rw [HT.sIx_none, HT.sIx_nat, List.drop_zero, Nat.sub_zero]
  by_cases h : n ≤ l.length
  · rw [Nat.min_eq_left h]
  · rw [Nat.min_eq_right (by omega), List.take_length, List.take_of_length_le (by omega)]
theorem cutG_drop {α : Type} (l : List α) (n : Nat) : cutG l (some (n : Int)) none = l.drop n := by
  unfold cutG
  rw [HT.sIx_none, HT.sIx_nat]
  by_cases h : n ≤ l.length
  · rw [Nat.min_eq_left h, List.take_of_length_le (by simp)]
  · rw [Nat.min_eq_right (by omega), List.drop_length, List.drop_of_length_le (by omega)]
    simp
theorem cutG_init {α : Type} (l : List α) : cutG l none (some (-1)) = l.dropLast := by
  unfold cutG
  rw [HT.sIx_none, List.drop_zero, Nat.sub_zero]
  have e : HT.sIx l.length l.length (some (-1)) = l.length - 1 := by
    show (if (-1 : Int) < 0 then ((-1 : Int) + (l.length : Int)).toNat else min (-1 : Int).toNat l.length) = _
    rw [if_pos (by decide)]
    omega
  rw [e, List.dropLast_eq_take]
theorem cutG_mid2 {α : Type} (l : List α) (i j : Nat) : cutG l (some (i : Int)) (some (j : Int)) = (l.take j).drop i := by
  unfold cutG
  rw [HT.sIx_nat, HT.sIx_nat, List.drop_take]
  by_cases h : i ≤ l.length
  · rw [Nat.min_eq_left h]
    by_cases h2 : j ≤ l.length
    · rw [Nat.min_eq_left h2]
    · rw [Nat.min_eq_right (by omega : l.length ≤ j), List.take_of_length_le (by simp), List.take_of_length_le (by simp; omega)]
  · rw [Nat.min_eq_right (by omega : l.length ≤ i), List.drop_length, List.drop_of_length_le (by omega : l.length ≤ i)]
    simp
theorem atI_map {α : Type} (f : α → D) {l : List α} {i : Nat} {x : α} (h : l[i]? = some x) : atI (l.map f) (i : Int) = some (f x) := atI_nat (by rw [List.getElem?_map, h]; rfl)
theorem atI_lastM {α : Type} (f : α → D) {l : List α} {x : α} (h : l.getLast? = some x) : atI (l.map f) (-1) = some (f x) := by
  obtain ⟨m, rfl⟩ : ∃ m, l = m ++ [x] := by
    cases hl : l.reverse with
    | nil =>
      rw [List.reverse_eq_nil_iff.mp hl] at h
      cases h
    | cons y m =>
      have e : l = m.reverse ++ [y] := by
        have := congrArg List.reverse hl
        simpa using this
      rw [e, List.getLast?_concat] at h
      cases h
      exact ⟨_, e⟩
  rw [List.map_append]
  exact atI_last _ _
theorem getD_mapD {α : Type} (f : α → D) (l : List α) {i : Nat} (h : i < l.length) : (l.map f).getD i .non = f l[i] := by simp [h]
/-! ### comprehensions -/
theorem LcV.map {n : Nat} {turn : Nat → List D → (List D → Prop) → Prop} {K : List D → Prop} (g : Nat → D) (hn : n ≤ sizeLine) (h : ∀ i acc (Ka : List D → Prop), i < n → Ka (acc ++ [g i]) → turn i acc Ka) (k : K ((List.range n).map g)) : LcV n turn K :=
  ⟨hn, fun i acc => acc = (List.range i).map g, rfl, fun i acc hi e => h i acc _ hi (by show acc ++ [g i] = (List.range (i + 1)).map g; rw [show acc = _ from e, List.range_succ, List.map_append]; rfl), fun acc e => by rw [e]; exact k⟩
/-- a comprehension over a list, each item once -/
theorem LcV.mapL {α : Type} {turn : Nat → List D → (List D → Prop) → Prop} {K : List D → Prop} {n : Nat} (l : List α) (f : α → D) (hn : n = l.length) (hz : l.length ≤ sizeLine) (h : ∀ i (hi : i < l.length) acc (Ka : List D → Prop), Ka (acc ++ [f l[i]]) → turn i acc Ka) (k : K (l.map f)) : LcV n turn K := by
  subst hn
  refine ⟨hz, fun i acc => acc = (l.take i).map f, rfl, fun i acc hi e => h i hi acc _ ?_, fun acc e => by rw [e, List.take_length]; exact k⟩
  show acc ++ [f l[i]] = (l.take (i + 1)).map f
  rw [show acc = _ from e, List.take_succ_eq_append_getElem hi, List.map_append]
  rfl
/-- with a test -/
theorem LcV.filterL {α : Type} {turn : Nat → List D → (List D → Prop) → Prop} {K : List D → Prop} {n : Nat} (l : List α) (p : α → Bool) (f : α → D) (hn : n = l.length) (hz : l.length ≤ sizeLine) (h : ∀ i (hi : i < l.length) acc (Ka : List D → Prop), (p l[i] = true → Ka (acc ++ [f l[i]])) → (p l[i] = false → Ka acc) → turn i acc Ka) (k : K ((l.filter p).map f)) : LcV n turn K := by
  subst hn
  refine ⟨hz, fun i acc => acc = ((l.take i).filter p).map f, rfl, fun i acc hi e => h i hi acc _ (fun q => ?_) fun q => ?_, fun acc e => by rw [e, List.take_length]; exact k⟩
  · show acc ++ [f l[i]] = ((l.take (i + 1)).filter p).map f
    rw [show acc = _ from e, List.take_succ_eq_append_getElem hi, List.filter_append, List.map_append]
    simp [q]
  · show acc = ((l.take (i + 1)).filter p).map f
    rw [show acc = _ from e, List.take_succ_eq_append_getElem hi, List.filter_append, List.map_append]
    simp [q]
/-- some result of a kind at each turn -/
theorem LcV.some {n : Nat} {turn : Nat → List D → (List D → Prop) → Prop} {K : List D → Prop} (Q : D → Prop) (hn : n ≤ sizeLine) (h : ∀ i acc (Ka : List D → Prop), i < n → (∀ d, Q d → Ka (acc ++ [d])) → turn i acc Ka) (k : ∀ l : List D, l.length = n → (∀ d ∈ l, Q d) → K l) : LcV n turn K :=
  ⟨hn, fun i acc => acc.length = i ∧ ∀ d ∈ acc, Q d, ⟨rfl, fun _ h => by cases h⟩, fun i acc hi e => h i acc _ hi fun d hd => ⟨by simp [e.1], fun x hx => by
    rcases List.mem_append.mp hx with z | z
    · exact e.2 x z
    · rw [List.mem_singleton.mp z]
      exact hd⟩, fun acc e => k acc e.1 e.2⟩
theorem forall_take {α : Type} {l : List α} {P : α → Prop} {i : Nat} (h : i < l.length) (h1 : ∀ x ∈ l.take i, P x) (h2 : P l[i]) : ∀ x ∈ l.take (i + 1), P x := fun x hx => by
  rw [List.take_succ_eq_append_getElem h] at hx
  rcases List.mem_append.mp hx with z | z
  · exact h1 x z
  · rw [List.mem_singleton.mp z]
    exact h2
/-! ### texts -/
theorem slen_app (a b : Str) : (a ++ b).length = a.length + b.length := by
  show (a.cps ++ b.cps).size = _
  rw [Array.size_append]
  rfl
theorem str_ext {a b : Str} (h : a.cps.toList = b.cps.toList) : a = b := by
  cases a
  cases b
  congr 1
  exact Array.toList_inj.mp h
theorem app_toList (a b : Str) : (a ++ b).cps.toList = a.cps.toList ++ b.cps.toList := by
  show (a.cps ++ b.cps).toList = _
  simp
theorem str_nat (m : Nat) : (((toString (m : Int) : String) : Str)).cps.toList = (Nat.toDigits 10 m).map Char.toNat := by
  have := text_ofNat m
  show ((Str.ofString (toString (Int.ofNat m)))).cps.toList = _
  rw [this]
theorem str_nat_len {m k : Nat} (hk : 1 ≤ k) (h : m < 10 ^ k) : ((toString (m : Int) : String) : Str).length ≤ k := by
  have e : ((toString (m : Int) : String) : Str).length = (((toString (m : Int) : String) : Str)).cps.toList.length := by simp [Str.length]
  rw [e, str_nat, List.length_map]
  exact digits10_le hk h
theorem int_log {i : Int} (h0 : 0 ≤ i) (h : i < 10 ^ 100) : i.natAbs.log2 < 1920 := by
  by_cases hz : i.natAbs = 0
  · rw [hz]
    decide
  · refine (Nat.log2_lt hz).mpr (Nat.lt_of_lt_of_le (show i.natAbs < 10 ^ 100 by omega) ?_)
    exact Nat.le_trans (Nat.pow_le_pow_left (show 10 ≤ 2 ^ 4 by decide) 100) (by rw [← Nat.pow_mul]; exact Nat.pow_le_pow_right (by decide) (by decide))
end DL

set_option Elab.async false
set_option linter.all false
set_option pp.maxSteps 300
set_option maxRecDepth 100000
set_option maxHeartbeats 2000000
/-! V9: defs that raise, defs with a lambda's table, the law itself -/
namespace DL
open PySem PySem.Spec PyProof.Rows L2
section
variable {ι : Type}
/-- a raising def's promise, by its core text; what is known of the surroundings is handed on -/
theorem prE_mkO {R : Rn} {k : Nat} {x : Str} {st : Stmt} {N ps fr : List Str} {n : Nat} {pre : ι → Prop} {args : ι → List D} {cls : Value} {core : List RS} (d : Df R.K R.mg x st ps) (S : FnScope N ps (defScope st)) (hn : ps.length = n) (hfr : ∀ y ∈ fr, R.mg y = none) (hck : ckS ⟨N, defScope st, defScope st, fr⟩ core (defBody st) = true)
    (ha : ∀ i, pre i → (args i).length = n)
    (hb : ∀ (X : Cx) (c : C0), In X R k false → OkC X ⟨N, defScope st, defScope st, fr⟩ → Rz X c cls → ∀ i, pre i → vS X c core (defBody st) ((args i).map Sl.im ++ List.replicate (N.length - n) .any) { nx := fun _ => False, rt := fun _ => False }) : PrE R (k + 1) x n pre args cls := by
  obtain ⟨f, fd, F, hm, hbd⟩ := d.ex
  subst hn
  refine ⟨⟨f, fd, ps, rfl, fn_E F S fun cdv A outer s H E c rs hr hl hpre hR => ?_, hm, F.kp, hbd⟩, ha⟩
  obtain ⟨i, hi, rfl⟩ := hpre
  have ok : OkC (cxOf (L2.CX R.P R.w) R.P R.w R.K R.mg R.base N x (defScope st) f cdv A outer s H E) ⟨N, defScope st, defScope st, fr⟩ := ⟨rfl, rfl, fun _ _ => rfl, S.nd, rfl, passes_of rfl, hfr, S.kind, hr.units⟩
  exact rS core ok hck (hb _ c ⟨rfl, rfl, rfl, rfl, rfl, hr, rfl, fun z => by cases z⟩ ok hR i hi)
/-- a def's promise, by its core text; what is known of the surroundings is handed on -/
theorem pr_mkO {g : Bool} {B : C0 → Prop} {R : Rn} {k : Nat} {x : Str} {st : Stmt} {N ps fr : List Str} {n : Nat} {pre : ι → Prop} {args : ι → List Sl} {post : ι → Sl → Prop} {core : List RS} (d : Df R.K R.mg x st ps) (S : FnScope N ps (defScope st)) (hn : ps.length = n) (hfr : ∀ y ∈ fr, R.mg y = none) (hck : ckS ⟨N, defScope st, defScope st, fr⟩ core (defBody st) = true)
    (ha : ∀ i, pre i → (args i).length = n ∧ argB (args i) = true)
    (hb : ∀ (X : Cx) (c : C0), In X R k g → OkC X ⟨N, defScope st, defScope st, fr⟩ → B c → ∀ i, pre i → vS X c core (defBody st) (args i ++ List.replicate (N.length - n) .any) { nx := fun _ => post i (.im .non), rt := fun r => good r = true ∧ post i r }) : Pr g B R (k + 1) x n pre args post := by
  obtain ⟨f, fd, F, hm, hbd⟩ := d.ex
  subst hn
  refine ⟨⟨f, fd, ps, rfl, ?_, hm, F.kp, hbd⟩, ha⟩
  have okc : ∀ (cdv : Value) (A : Around) (outer : List Env) (s : Shared) (H : Hp) (E : XK), Room k (A.deeper (PyProof.Rows.envOfC x (defScope st) s.heap.objs.size f cdv)) → OkC (cxOf L2.CX0 R.P R.w R.K R.mg R.base N x (defScope st) f cdv A outer s H E).nox ⟨N, defScope st, defScope st, fr⟩ := fun cdv A outer s H E hr =>
    ⟨rfl, rfl, fun _ _ => rfl, S.nd, rfl, PassesOwn.never, hfr, S.kind, hr.units⟩
  have run : ∀ (cdv : Value) (A : Around) (outer : List Env) (s : Shared) (H : Hp) (E : XK) (vs : List V) (Q : VK), Room k (A.deeper (PyProof.Rows.envOfC x (defScope st) s.heap.objs.size f cdv)) → (g = true → (A.deeper (PyProof.Rows.envOfC x (defScope st) s.heap.objs.size f cdv)).guards = some []) → SpT B ps.length pre args post vs H Q E →
      WSs (cxOf L2.CX0 R.P R.w R.K R.mg R.base N x (defScope st) f cdv A outer s H E).nox (defBody st) { nx := fun _ H' => Q .non H', rt := Q } (vs.map some ++ List.replicate (N.length - ps.length) none) H := fun cdv A outer s H E vs Q hr hgd h => by
    obtain ⟨hl, c, F1, i, hB, hrl, hpre, nv, e1, e2, E1, q⟩ := h
    refine rS core (okc cdv A outer s H E hr) hck (hb _ c ⟨rfl, rfl, rfl, rfl, rfl, hr, rfl, hgd⟩ (okc cdv A outer s H E hr) hB i hpre) F1 H _ ⟨E1.rest, nv.rest⟩ _ ⟨fun Γ F H σ hn E' => q .non (.im .non) F H rfl hn (E'.env.push (d := .non) rfl).only, fun r v F H hn E' => q v r F H hn.1 hn.2 E', fun Γ F H σ hn E' => hn.elim, fun Γ F H σ hn E' => hn.elim⟩
  cases g with
  | true => exact fn_rawG F S (fun vs H Q E h => h.1) fun cdv A outer s H vs Q E hgd hr h => run cdv A outer s H E vs Q hr (fun _ => guards_deeper hgd) h
  | false => exact fn_raw F S (fun vs H Q E h => h.1) fun cdv A outer s H vs Q E hr h => run cdv A outer s H E vs Q hr (fun z => by cases z) h
/-- a def with a lambda in it: its table's code object is known -/
theorem prT_mk {B : C0 → Prop} {R : Rn} {k : Nat} {x qn : Str} {f cd : Addr} {fd : FuncData} {st : Stmt} {N ps fr : List Str} {n : Nat} {pre : ι → Prop} {args : ι → List Sl} {post : ι → Sl → Prop} {core : List RS} (Fc : FunC R.K x st f fd cd) (hm : R.mg x = some (.ref f)) (hbd : Binds R.K fd ps []) (S : FnScope N ps (defScope st)) (hn : ps.length = n) (hfr : ∀ y ∈ fr, R.mg y = none) (hck : ckS ⟨N, defScope st, defScope st, fr⟩ core (defBody st) = true)
    (hq : ∀ (a : Nat) (f : Addr) (cdv : Value), (PyProof.Rows.envOfC x (defScope st) a f cdv).qual = qn)
    (ha : ∀ i, pre i → (args i).length = n ∧ argB (args i) = true)
    (hb : ∀ (X : Cx) (c : C0), In X R k true → OkC X ⟨N, defScope st, defScope st, fr⟩ → X.env.code = .ref cd → X.env.qual = qn → B c → ∀ i, pre i → vS X c core (defBody st) (args i ++ List.replicate (N.length - n) .any) { nx := fun _ => post i (.im .non), rt := fun r => good r = true ∧ post i r }) : Pr true B R (k + 1) x n pre args post := by
  subst hn
  refine ⟨⟨f, fd, ps, rfl, ?_, hm, Fc.kp, hbd⟩, ha⟩
  refine fn_rawGC Fc S (fun vs H Q E h => h.1) fun A outer s H vs Q E hgd hr h => ?_
  have hgd2 : (A.deeper (PyProof.Rows.envOfC x (defScope st) s.heap.objs.size f (.ref cd))).guards = some [] := guards_deeper hgd
  have ok : OkC (cxOf L2.CX0 R.P R.w R.K R.mg R.base N x (defScope st) f (.ref cd) A outer s H E).nox ⟨N, defScope st, defScope st, fr⟩ := ⟨rfl, rfl, fun _ _ => rfl, S.nd, rfl, PassesOwn.never, hfr, S.kind, hr.units⟩
  obtain ⟨hl, c, F1, i, hB, hrl, hpre, nv, e1, e2, E1, q⟩ := h
  refine rS core ok hck (hb _ c ⟨rfl, rfl, rfl, rfl, rfl, hr, rfl, fun _ => hgd2⟩ ok rfl (hq _ _ _) hB i hpre) F1 H _ ⟨E1.rest, nv.rest⟩ _ ⟨fun Γ F H σ hn E' => q .non (.im .non) F H rfl hn (E'.env.push (d := .non) rfl).only, fun r v F H hn E' => q v r F H hn.1 hn.2 E', fun Γ F H σ hn E' => hn.elim, fun Γ F H σ hn E' => hn.elim⟩
end
/-! ### the law's own C0 -/
/-- hand and tables -/
def BT (Ts : List (Addr × Str)) (c : C0) : Prop := HandC c ∧ ∀ t ∈ Ts, TabC c t.1 t.2
theorem bkT (Ts : List (Addr × Str)) : Bk (BT Ts) := ⟨fun F H h => ⟨h.1.at F H, fun t ht => (h.2 t ht).at F H⟩, fun F h => ⟨⟨h.1.ex⟩, fun t ht => ⟨(h.2 t ht).w, (h.2 t ht).t, (h.2 t ht).s⟩⟩⟩
def spHandT (K : PySem.W.Frag) : Sp := fun vs H Q _ => ∃ (a : Addr) (ns : List Int), vs = [.ref a] ∧ SqL K H a (ns.map V.int) ∧ ∀ (p q1 q2 : Addr) (H' : Hp), p ≠ q1 → p ≠ q2 → q1 ≠ q2 → HandAt p q1 q2 H' → (∀ b o, H b = some o → H' b = some o) → Q (.ref p) H'
theorem nodup_fst : ∀ {Ts : List (Addr × Str)} {t u : Addr × Str}, (Ts.map (·.1)).Nodup → t ∈ Ts → u ∈ Ts → t.1 = u.1 → t.2 = u.2
  | [], _, _, _, h, _, _ => by cases h
  | a :: l, t, u, hn, h1, h2, e => by
    rw [List.map_cons, List.nodup_cons] at hn
    rcases List.mem_cons.mp h1 with k1 | k1
    · rcases List.mem_cons.mp h2 with k2 | k2
      · rw [k1, k2]
      · exact absurd (List.mem_map.mpr ⟨u, k2, by rw [← e, k1]⟩) hn.1
    · rcases List.mem_cons.mp h2 with k2 | k2
      · exact absurd (List.mem_map.mpr ⟨t, k1, by rw [e, k2]⟩) hn.1
      · exact nodup_fst hn.2 k1 k2 e
/-- x is y, flags -/
theorem od_isB {X : Cx} {c : C0} {K : Sl → Prop} {x y : Bool} (k : K (.im (.bl (decide (x = y))))) : OpD X c (compareOp .Is) (.im (.bl x)) (.im (.bl y)) K :=
  opd_val (dr := .bl (decide (x = y))) op_isBl (fun F H v w _ hx hy => ⟨.bl (decide (x = y)), rfl, fun Q q => ⟨x, y, hx, hy, q⟩⟩) k
/-- the law, behind its hand -/
theorem law_mk {R : Rn} {k n : Nat} {Ts : List (Addr × Str)} {st : Stmt} {N fr : List Str} {f fh : Addr} {fd fdh : FuncData} {core : List RS} {rest : List Stmt} {p1 p2 p3 p4 p5 : Pos} (hnd : (Ts.map (·.1)).Nodup)
    (Gh : FnOk R.P R.w R.K R.mg R.base L2.CX0 k fh fdh ["script"] (spHandT R.K)) (hmh : R.mg "_law_hand" = some (.ref fh)) (hkh : PySem.W.keepIn R.K (.ref fh) = true) (hbh : Binds R.K fdh ["script"] [])
    (F : Fun R.K "law" "law" st f fd) (S : FnScope N ["script"] (defScope st)) (hfr : ∀ y ∈ fr, R.mg y = none)
    (hbody : defBody st = .Assign [.Name "hand" p1] (.Call (.Name "_law_hand" p2) [.Name "script" p3] [] p4) p5 :: rest) (hck : ckS ⟨N, defScope st, defScope st, fr⟩ core rest = true)
    (h0 : N[0]? = some ("script" : Str)) (h1 : N[1]? = some ("hand" : Str)) (l0 : (defScope st).names.lookup ("script" : Str) = some .local) (l1 : (defScope st).names.lookup ("hand" : Str) = some .local) (lg : (defScope st).names.lookup ("_law_hand" : Str) = some .globalImplicit)
    (hsw : ∀ X : Cx, swapsWith (.Call (.Name "_law_hand" p2) [.Name "script" p3] [] p4) (some (.Name "hand" p1)) p5.line X.env = pure false)
    (hb : ∀ (X : Cx) (c : C0), In X R k true → OkC X ⟨N, defScope st, defScope st, fr⟩ → BT Ts c → vS X c core rest (.any :: .hand :: List.replicate (N.length - 2) .any) { nx := fun _ => False, rt := fun r => r = .im (.bl true) }) :
    FnG R.P R.w R.K R.mg R.base (k + 1) f fd ["script"] (fun vs H Q _ => ∃ (a : Addr) (ns : List Int), vs = [.ref a] ∧ ns.length ≤ n ∧ (∀ t ∈ Ts, H t.1 = some (.tbl #[])) ∧ SqL R.K H a (ns.map V.int) ∧ ∀ H', Q (.bl true) H') := by
  refine fn_rawG F S (fun vs H Q E h => ?_) fun cdv A outer s H vs Q E hgd0 hr h => ?_
  · obtain ⟨a, ns, rfl, _⟩ := h
    rfl
  obtain ⟨a, ns, rfl, _, tt, hS, hq⟩ := h
  have hgd : (A.deeper (PyProof.Rows.envOfC "law" (defScope st) s.heap.objs.size f cdv)).guards = some [] := guards_deeper hgd0
  have nd := S.nd
  have ok : OkC (cxOf L2.CX0 R.P R.w R.K R.mg R.base N "law" (defScope st) f cdv A outer s H E).nox ⟨N, defScope st, defScope st, fr⟩ := ⟨rfl, rfl, fun _ _ => rfl, S.nd, rfl, PassesOwn.never, hfr, S.kind, hr.units⟩
  have hgl : Gl (cxOf L2.CX0 R.P R.w R.K R.mg R.base N "law" (defScope st) f cdv A outer s H E).nox "_law_hand" := lg
  rw [hbody]
  refine wss_of (pss_cons (ps_set (i := 1) nd h1 (Or.inl l1) (pe_call (E := L2.E0) Gh hr hgl hmh hkh hbh .nil L2.pass0 (pa_cons (pe_var (i := 0) h0 (Or.inl l0)) pa_nil) (by decide) (by rfl) (by rfl)) (hsw _) (.inr l1)) pss_wss) ?_
  obtain ⟨m, hNm⟩ : ∃ m, N = ("script" : Str) :: ("hand" : Str) :: m := by
    match N, h0, h1 with
    | a :: b :: m, h0, h1 =>
      cases h0
      cases h1
      exact ⟨m, rfl⟩
  have hst : ([V.ref a].map some ++ List.replicate (N.length - [("script" : Str)].length) none : L2.St) = some (.ref a) :: none :: List.replicate m.length none := by
    rw [hNm]
    rfl
  have hrp : N.length - 2 = m.length := by
    rw [hNm]
    rfl
  rw [hst]
  refine ⟨.ref a, rfl, a, ns, rfl, hS, fun p q1 q2 H1 n1 n2 n3 hh keep => ?_⟩
  have tt1 : ∀ t ∈ Ts, H1 t.1 = some (.tbl #[]) := fun t ht => keep _ _ (tt t ht)
  have nin : ∀ {b : Addr}, H1 b = some (.tbl #[]) → b ∉ [p, q1, q2] := fun {b} e z => by
    obtain ⟨gs, ss, su, tu, e1, e2, e3, _⟩ := hh
    simp only [List.mem_cons, List.not_mem_nil, or_false] at z
    rcases z with rfl | rfl | rfl
    · rw [e1] at e; cases e
    · rw [e2] at e; cases e
    · rw [e3] at e; cases e
  have hB : BT Ts (cTab (fun _ => none) H1 p q1 q2 Ts) := ⟨cTab_hand n1 n2 n3 fun t ht => nin (tt1 t ht), fun t ht => cTab_tab ht fun u hu e => nodup_fst hnd hu ht e⟩
  have hok : (cTab (fun _ => none) H1 p q1 q2 Ts).hok H1 := ⟨hh, fun t ht => LamX.TabS.nil (tt1 t ht)⟩
  have E0 : EnvS (cTab (fun _ => none) H1 p q1 q2 Ts) (fun _ => none) H1 (some (.ref a) :: some (.ref p) :: List.replicate m.length none) (.any :: .hand :: List.replicate m.length .any) := by
    have e1 : EnvR (cTab (fun _ => none) H1 p q1 q2 Ts) (fun _ => none) H1 [] [] := env_args (ds := []) (vs := []) (fun b o z => by cases z) rfl hok (fun a z => rfl) rfl rfl
    exact ⟨((e1.pushS (x := some (.ref p)) (s := .hand) ⟨rfl, rfl⟩).pushS (x := some (.ref a)) (s := .any) rfl).rest (n := m.length), fun s hs => by
      simp only [List.mem_cons, List.mem_replicate] at hs
      rcases hs with rfl | rfl | ⟨_, rfl⟩ <;> rfl⟩
  have hv := hb _ _ ⟨rfl, rfl, rfl, rfl, rfl, hr, rfl, fun _ => hgd⟩ ok hB
  rw [hrp] at hv
  refine (rS core ok hck hv) _ _ _ E0 _ ⟨fun Γ F H σ z => z.elim, fun r v F H hr E' => ?_, fun Γ F H σ z => z.elim, fun Γ F H σ z => z.elim⟩
  subst hr
  have ev : v = .bl true := E'.imAt (i := 0) rfl rfl
  subst ev
  exact hq H
end DL

set_option Elab.async false
set_option linter.all false
set_option pp.maxSteps 300
set_option maxRecDepth 100000
set_option maxHeartbeats 2000000
/-! V10: what repr may show, what may be compared: bounds -/
namespace DL
open PySem PySem.Spec PyProof.Rows L2
structure Rp (n dp : Nat) (d : D) : Prop where
  can : (py d).canLay0 = true
  dep : (py d).depth ≤ dp
  sho : (py d).showable = true
  len : (py d).shown.length ≤ n
theorem can_all : ∀ {ds : List D}, (∀ d ∈ ds, (py d).canLay0 = true) → PyData.canLayAll0 (pys ds) = true
  | [], _ => by rw [pys, PyData.canLayAll0]
  | d :: r, h => by rw [pys, PyData.canLayAll0, h d (by simp), can_all fun e he => h e (List.mem_cons_of_mem _ he)]; rfl
theorem sho_all : ∀ {ds : List D}, (∀ d ∈ ds, (py d).showable = true) → PyData.showableAll (pys ds) = true
  | [], _ => by rw [pys, PyData.showableAll]
  | d :: r, h => by rw [pys, PyData.showableAll, h d (by simp), sho_all fun e he => h e (List.mem_cons_of_mem _ he)]; rfl
theorem dep_all {n : Nat} : ∀ {ds : List D}, (∀ d ∈ ds, (py d).depth ≤ n) → PyData.depthAll (pys ds) ≤ n
  | [], _ => by rw [pys, PyData.depthAll]; exact Nat.zero_le _
  | d :: r, h => by
    rw [pys, PyData.depthAll]
    exact Nat.max_le.mpr ⟨h d (by simp), dep_all fun e he => h e (List.mem_cons_of_mem _ he)⟩
theorem piled_all {n : Nat} : ∀ {ds : List D}, (∀ d ∈ ds, (py d).shown.length ≤ n) → piled (PyData.shownAll (pys ds)) ≤ ds.length * (n + 2)
  | [], _ => by rw [pys, PyData.shownAll, piled_nil]; exact Nat.zero_le _
  | d :: r, h => by
    rw [pys, PyData.shownAll, piled_cons, List.length_cons, Nat.add_mul]
    have h1 := h d (by simp)
    have h2 := piled_all (n := n) (ds := r) fun e he => h e (List.mem_cons_of_mem _ he)
    omega
theorem piled_sum : ∀ ts : List Str, (ts.map (·.length)).sum + 2 * ts.length = piled ts
  | [] => rfl
  | t :: r => by
    have := piled_sum r
    rw [List.map_cons, List.sum_cons, List.length_cons, piled_cons]
    omega
theorem rp_tup {n dp : Nat} {ds : List D} (h : ∀ d ∈ ds, Rp n dp d) : Rp (ds.length * (n + 2) + 2) (dp + 1) (.tup ds) where
  can := by rw [py, PyData.canLay0]; exact can_all fun d hd => (h d hd).can
  dep := by rw [py, PyData.depth]; exact Nat.succ_le_succ (dep_all fun d hd => (h d hd).dep)
  sho := by rw [py, PyData.showable]; exact sho_all fun d hd => (h d hd).sho
  len := by
    rw [py, PyData.shown]
    exact Nat.le_trans (fmt_text _) (Nat.add_le_add_right (piled_all fun d hd => (h d hd).len) 2)
theorem rp_lst {n dp : Nat} {ds : List D} (h : ∀ d ∈ ds, Rp n dp d) : Rp (ds.length * (n + 2) + 3) (dp + 1) (.lst ds) where
  can := by rw [py, PyData.canLay0]; exact can_all fun d hd => (h d hd).can
  dep := by rw [py, PyData.depth]; exact Nat.succ_le_succ (dep_all fun d hd => (h d hd).dep)
  sho := by rw [py, PyData.showable]; exact sho_all fun d hd => (h d hd).sho
  len := by
    rw [py, PyData.shown]
    have h1 := listText_len_le (PyData.shownAll (pys ds))
    have h2 := piled_sum (PyData.shownAll (pys ds))
    have h3 := piled_all (n := n) fun d hd => (h d hd).len
    omega
theorem Rp.mono {n n' dp dp' : Nat} {d : D} (h : Rp n dp d) (h1 : n ≤ n') (h2 : dp ≤ dp') : Rp n' dp' d := ⟨h.can, Nat.le_trans h.dep h2, h.sho, Nat.le_trans h.len h1⟩
/-- signs that there are -/
def Chs (s : Str) : Prop := ∀ c ∈ s.cps.toList, c < 1114112
theorem Chs.app {a b : Str} (h : Chs a) (g : Chs b) : Chs (a ++ b) := fun c hc => by
  rw [app_toList] at hc
  rcases List.mem_append.mp hc with z | z
  · exact h c z
  · exact g c z
theorem chs_nat (m : Nat) : Chs (((toString (m : Int) : String) : Str)) := fun c hc => by
  rw [str_nat] at hc
  obtain ⟨d, hd, rfl⟩ := List.mem_map.mp hc
  have h := Nat.isDigit_of_mem_toDigits (by decide) (by decide) hd
  simp only [Char.isDigit, Bool.and_eq_true, decide_eq_true_eq, UInt32.le_iff_toNat_le] at h
  have h2 : d.toNat ≤ 57 := h.2
  omega
theorem rp_str {s : Str} {k : Nat} (h : Chs s) (hl : s.length ≤ k) : Rp (10 * k + 2) 0 (.str s) where
  can := by
    rw [py, PyData.canLay0]
    unfold PyData.strOk
    refine Array.all_eq_true.mpr fun i hi => decide_eq_true (h _ ?_)
    exact Array.getElem_mem_toList hi
  dep := by rw [py, PyData.depth]; exact Nat.le_refl 0
  sho := by rw [py, PyData.showable]
  len := by
    rw [py, PyData.shown]
    have := PySem.StrLaws.reprText_len s fun c hc => Nat.lt_of_lt_of_le (h c hc) (by decide)
    omega
theorem rp_non : Rp 22 0 .non := ⟨by rw [py, PyData.canLay0], by rw [py, PyData.depth]; exact Nat.le_refl 0, by rw [py, PyData.showable], by rw [py]; decide +kernel⟩
theorem rp_bl (b : Bool) : Rp 22 0 (.bl b) := ⟨by rw [py, PyData.canLay0], by rw [py, PyData.depth]; exact Nat.le_refl 0, by rw [py, PyData.showable], by cases b <;> rw [py] <;> decide +kernel⟩
theorem rp_int {i : Int} (h0 : 0 ≤ i) (h : i < 100000000000000000000) : Rp 22 0 (.int i) where
  can := by rw [py, PyData.canLay0]
  dep := by rw [py, PyData.depth]; exact Nat.le_refl 0
  sho := by
    rw [py, PyData.showable]
    exact decide_eq_true (int_log h0 (by omega))
  len := by
    rw [py, PyData.shown]
    obtain ⟨n, rfl⟩ := Int.eq_ofNat_of_zero_le h0
    exact Nat.le_trans (str_nat_len (k := 20) (by decide) (by omega)) (by decide)
theorem rp_neg : Rp 22 0 (.int (-1)) := ⟨by rw [py, PyData.canLay0], by rw [py, PyData.depth]; exact Nat.le_refl 0, by rw [py, PyData.showable]; exact decide_eq_true (by decide), by rw [py]; decide +kernel⟩
theorem Rp.sh {n dp : Nat} {d : D} (h : Rp n dp d) (h1 : n ≤ sizeLine) (h2 : dp ≤ 60) (hd : ∀ ks l, d = .dct ks l → ks = [] ∧ l = []) : Sh d := by
  cases d with
  | tup l => exact ⟨h.can, Nat.le_trans h.dep h2, h.sho, Nat.le_trans h.len h1⟩
  | lst l => exact ⟨h.can, Nat.le_trans h.dep h2, h.sho, Nat.le_trans h.len h1⟩
  | non => trivial
  | bl b => trivial
  | int i =>
    have := h.sho
    rw [py, PyData.showable] at this
    have h3 : i.natAbs.log2 < 1920 := of_decide_eq_true this
    exact h3
  | str s =>
    have := h.len
    rw [py, PyData.shown] at this
    exact Nat.le_trans this h1
  | dct ks l => exact hd ks l rfl
theorem shaped_rp {n dp : Nat} {d : D} (r : Rp n dp d) (h : dp ≤ 64) : SeqAt.shaped (py d) = true := by
  unfold SeqAt.shaped
  rw [r.can, Bool.true_and]
  exact decide_eq_true (Nat.le_trans r.dep h)
theorem eqvAll_self : ∀ {l : List D}, (∀ d ∈ l, PyData.eqv (py d) (py d) = true) → PyData.eqvAll (pys l) (pys l) = true
  | [], _ => by rw [pys, PyData.eqvAll]
  | d :: r, h => by
    rw [pys, PyData.eqvAll, h d (by simp), eqvAll_self fun e he => h e (List.mem_cons_of_mem _ he)]
    rfl
theorem eqv_tup_self {l : List D} (h : ∀ d ∈ l, PyData.eqv (py d) (py d) = true) : PyData.eqv (py (.tup l)) (py (.tup l)) = true := by
  rw [py, PyData.eqv]
  exact eqvAll_self h
theorem eqv_str_self (s : Str) : PyData.eqv (py (.str s)) (py (.str s)) = true := by
  rw [py, PyData.eqv]
  exact decide_eq_true rfl
theorem eqv_int_self (i : Int) : PyData.eqv (py (.int i)) (py (.int i)) = true := by
  rw [py, PyData.eqv]
  exact decide_eq_true rfl
end DL

set_option Elab.async false
set_option linter.all false
set_option pp.maxSteps 300
set_option maxRecDepth 100000
set_option maxHeartbeats 2000000
/-! A1: k85: core texts (printed by genv.py) -/
namespace K85
open PySem PySem.Spec PyProof.Rows L2 DL
def topS (i : Nat) : Stmt := PySem.Challenge.pw_pinforge_k85_whole_logs_proofs_and_clash.main.body.getD i (.Pass ⟨0, 0, 0, 0⟩)
/-! ### is_integer -/
abbrev sIsInteger : Stmt := topS 6
abbrev nIsInteger : List Str := ["thing"]
theorem scIsInteger : FnScope nIsInteger ["thing"] (defScope sIsInteger) := ⟨rfl, rfl, rfl, by decide +kernel, rfl, by decide +kernel, by decide +kernel⟩
def rIsInteger : List RS := [
  .ret (.bo true [.isi (.var 0) .int, .nt (.isi (.var 0) .bool)])]
theorem ckIsInteger : ckS ⟨nIsInteger, defScope sIsInteger, defScope sIsInteger, BN⟩ rIsInteger (defBody sIsInteger) = true := by decide +kernel
/-! ### is_within -/
abbrev sIsWithin : Stmt := topS 7
abbrev nIsWithin : List Str := ["thing", "least", "most"]
theorem scIsWithin : FnScope nIsWithin ["thing", "least", "most"] (defScope sIsWithin) := ⟨rfl, rfl, rfl, by decide +kernel, rfl, by decide +kernel, by decide +kernel⟩
def rIsWithin : List RS := [
  .ret (.bo true [.fn "is_integer" [.var 0], .cm2 .LtE .LtE (.var 1) (.var 0) (.var 2)])]
theorem ckIsWithin : ckS ⟨nIsWithin, defScope sIsWithin, defScope sIsWithin, BN⟩ rIsWithin (defBody sIsWithin) = true := by decide +kernel
/-! ### digest -/
abbrev sDigest : Stmt := topS 12
abbrev nDigest : List Str := ["text", "found", "sign"]
theorem scDigest : FnScope nDigest ["text"] (defScope sDigest) := ⟨rfl, rfl, rfl, by decide +kernel, rfl, by decide +kernel, by decide +kernel⟩
def rDigest : List RS := [
  .set 1 (.gi "FIRST"),
  .for_ (.nm 2) (.seqS (.var 0)) [.set 1 (.bin .Mod (.bin .Add (.bin .Mult (.var 1) (.gi "TIMES")) (.bi .ord [.var 2])) (.gi "BELOW"))],
  .ret (.var 1)]
theorem ckDigest : ckS ⟨nDigest, defScope sDigest, defScope sDigest, BN⟩ rDigest (defBody sDigest) = true := by decide +kernel
/-! ### are_entries -/
abbrev sAreEntries : Stmt := topS 15
abbrev nAreEntries : List Str := ["thing", "one"]
theorem scAreEntries : FnScope nAreEntries ["thing"] (defScope sAreEntries) := ⟨rfl, rfl, rfl, by decide +kernel, rfl, by decide +kernel, by decide +kernel⟩
def rAreEntries : List RS := [
  .ret (.bo true [.isi (.var 0) .tup, .cmp .LtE (.bi .len [.var 0]) (.gi "MOST_ENTRIES"), .bi .all [.lc [("one", 1)] (.nm 1) (.seqT (.var 0)) none (.isi (.var 1) .str)]])]
theorem ckAreEntries : ckS ⟨nAreEntries, defScope sAreEntries, defScope sAreEntries, BN⟩ rAreEntries (defBody sAreEntries) = true := by decide +kernel
/-! ### check_entries -/
abbrev sCheckEntries : Stmt := topS 16
abbrev nCheckEntries : List Str := ["thing"]
theorem scCheckEntries : FnScope nCheckEntries ["thing"] (defScope sCheckEntries) := ⟨rfl, rfl, rfl, by decide +kernel, rfl, by decide +kernel, by decide +kernel⟩
def rCheckEntries : List RS := [
  .ife (.nt (.val (.fn "are_entries" [.var 0]))) [.opq] []]
theorem ckCheckEntries : ckS ⟨nCheckEntries, defScope sCheckEntries, defScope sCheckEntries, BN⟩ rCheckEntries (defBody sCheckEntries) = true := by decide +kernel
/-! ### leaf_text -/
abbrev sLeafText : Stmt := topS 17
abbrev nLeafText : List Str := ["text"]
theorem scLeafText : FnScope nLeafText ["text"] (defScope sLeafText) := ⟨rfl, rfl, rfl, by decide +kernel, rfl, by decide +kernel, by decide +kernel⟩
def rLeafText : List RS := [
  .ret (.bin .Add (.str "leaf ") (.var 0))]
theorem ckLeafText : ckS ⟨nLeafText, defScope sLeafText, defScope sLeafText, BN⟩ rLeafText (defBody sLeafText) = true := by decide +kernel
/-! ### node_text -/
abbrev sNodeText : Stmt := topS 18
abbrev nNodeText : List Str := ["one", "other"]
theorem scNodeText : FnScope nNodeText ["one", "other"] (defScope sNodeText) := ⟨rfl, rfl, rfl, by decide +kernel, rfl, by decide +kernel, by decide +kernel⟩
def rNodeText : List RS := [
  .ret (.bin .Add (.bin .Add (.bin .Add (.str "node ") (.ty .str [.var 0])) (.str " ")) (.ty .str [.var 1]))]
theorem ckNodeText : ckS ⟨nNodeText, defScope sNodeText, defScope sNodeText, BN⟩ rNodeText (defBody sNodeText) = true := by decide +kernel
/-! ### left_part -/
abbrev sLeftPart : Stmt := topS 19
abbrev nLeftPart : List Str := ["many", "found"]
theorem scLeftPart : FnScope nLeftPart ["many"] (defScope sLeftPart) := ⟨rfl, rfl, rfl, by decide +kernel, rfl, by decide +kernel, by decide +kernel⟩
def rLeftPart : List RS := [
  .set 1 (.int 1),
  .whl (.cmp .Lt (.bin .Mult (.int 2) (.var 1)) (.var 0)) [.set 1 (.bin .Mult (.int 2) (.var 1))],
  .ret (.var 1)]
theorem ckLeftPart : ckS ⟨nLeftPart, defScope sLeftPart, defScope sLeftPart, BN⟩ rLeftPart (defBody sLeftPart) = true := by decide +kernel
/-! ### root_of -/
abbrev sRootOf : Stmt := topS 20
abbrev nRootOf : List Str := ["entries", "at"]
theorem scRootOf : FnScope nRootOf ["entries"] (defScope sRootOf) := ⟨rfl, rfl, rfl, by decide +kernel, rfl, by decide +kernel, by decide +kernel⟩
def rRootOf : List RS := [
  .ife (.cmp .Eq (.bi .len [.var 0]) (.int 0)) [.ret (.fn "digest" [.str "empty"])] [],
  .ife (.cmp .Eq (.bi .len [.var 0]) (.int 1)) [.ret (.fn "digest" [.fn "leaf_text" [.ix (.var 0) (.int 0)]])] [],
  .set 1 (.fn "left_part" [.bi .len [.var 0]]),
  .ret (.fn "digest" [.fn "node_text" [.fn "root_of" [.slT (.var 0) .no (.so (.var 1))], .fn "root_of" [.slT (.var 0) (.so (.var 1)) .no]]])]
theorem ckRootOf : ckS ⟨nRootOf, defScope sRootOf, defScope sRootOf, BN⟩ rRootOf (defBody sRootOf) = true := by decide +kernel
/-! ### log_root -/
abbrev sLogRoot : Stmt := topS 21
abbrev nLogRoot : List Str := ["entries"]
theorem scLogRoot : FnScope nLogRoot ["entries"] (defScope sLogRoot) := ⟨rfl, rfl, rfl, by decide +kernel, rfl, by decide +kernel, by decide +kernel⟩
def rLogRoot : List RS := [
  .expr (.fn "check_entries" [.var 0]),
  .ret (.fn "root_of" [.var 0])]
theorem ckLogRoot : ckS ⟨nLogRoot, defScope sLogRoot, defScope sLogRoot, BN⟩ rLogRoot (defBody sLogRoot) = true := by decide +kernel
/-! ### path_of -/
abbrev sPathOf : Stmt := topS 22
abbrev nPathOf : List Str := ["entries", "place", "at"]
theorem scPathOf : FnScope nPathOf ["entries", "place"] (defScope sPathOf) := ⟨rfl, rfl, rfl, by decide +kernel, rfl, by decide +kernel, by decide +kernel⟩
def rPathOf : List RS := [
  .ife (.cmp .Eq (.bi .len [.var 0]) (.int 1)) [.ret (.lst [])] [],
  .set 2 (.fn "left_part" [.bi .len [.var 0]]),
  .ife (.cmp .Lt (.var 1) (.var 2)) [.ret (.bin .Add (.fn "path_of" [.slT (.var 0) .no (.so (.var 2)), .var 1]) (.lst [.fn "root_of" [.slT (.var 0) (.so (.var 2)) .no]]))] [],
  .ret (.bin .Add (.fn "path_of" [.slT (.var 0) (.so (.var 2)) .no, .bin .Sub (.var 1) (.var 2)]) (.lst [.fn "root_of" [.slT (.var 0) .no (.so (.var 2))]]))]
theorem ckPathOf : ckS ⟨nPathOf, defScope sPathOf, defScope sPathOf, BN⟩ rPathOf (defBody sPathOf) = true := by decide +kernel
/-! ### check_place -/
abbrev sCheckPlace : Stmt := topS 23
abbrev nCheckPlace : List Str := ["entries", "place"]
theorem scCheckPlace : FnScope nCheckPlace ["entries", "place"] (defScope sCheckPlace) := ⟨rfl, rfl, rfl, by decide +kernel, rfl, by decide +kernel, by decide +kernel⟩
def rCheckPlace : List RS := [
  .expr (.fn "check_entries" [.var 0]),
  .ife (.nt (.val (.fn "is_within" [.var 1, .int 0, .bin .Sub (.bi .len [.var 0]) (.int 1)]))) [.opq] []]
theorem ckCheckPlace : ckS ⟨nCheckPlace, defScope sCheckPlace, defScope sCheckPlace, BN⟩ rCheckPlace (defBody sCheckPlace) = true := by decide +kernel
/-! ### proof_in -/
abbrev sProofIn : Stmt := topS 24
abbrev nProofIn : List Str := ["entries", "place"]
theorem scProofIn : FnScope nProofIn ["entries", "place"] (defScope sProofIn) := ⟨rfl, rfl, rfl, by decide +kernel, rfl, by decide +kernel, by decide +kernel⟩
def rProofIn : List RS := [
  .expr (.fn "check_place" [.var 0, .var 1]),
  .ret (.ty .tup [.fn "path_of" [.var 0, .var 1]])]
theorem ckProofIn : ckS ⟨nProofIn, defScope sProofIn, defScope sProofIn, BN⟩ rProofIn (defBody sProofIn) = true := by decide +kernel
/-! ### turns_of -/
abbrev sTurnsOf : Stmt := topS 25
abbrev nTurnsOf : List Str := ["many", "place", "at"]
theorem scTurnsOf : FnScope nTurnsOf ["many", "place"] (defScope sTurnsOf) := ⟨rfl, rfl, rfl, by decide +kernel, rfl, by decide +kernel, by decide +kernel⟩
def rTurnsOf : List RS := [
  .ife (.cmp .Eq (.var 0) (.int 1)) [.ret (.lst [])] [],
  .set 2 (.fn "left_part" [.var 0]),
  .ife (.cmp .Lt (.var 1) (.var 2)) [.ret (.bin .Add (.fn "turns_of" [.var 2, .var 1]) (.lst [.bl true]))] [],
  .ret (.bin .Add (.fn "turns_of" [.bin .Sub (.var 0) (.var 2), .bin .Sub (.var 1) (.var 2)]) (.lst [.bl false]))]
theorem ckTurnsOf : ckS ⟨nTurnsOf, defScope sTurnsOf, defScope sTurnsOf, BN⟩ rTurnsOf (defBody sTurnsOf) = true := by decide +kernel
/-! ### is_proof -/
abbrev sIsProof : Stmt := topS 26
abbrev nIsProof : List Str := ["thing", "one"]
theorem scIsProof : FnScope nIsProof ["thing"] (defScope sIsProof) := ⟨rfl, rfl, rfl, by decide +kernel, rfl, by decide +kernel, by decide +kernel⟩
def rIsProof : List RS := [
  .ret (.bo true [.isi (.var 0) .tup, .cmp .LtE (.bi .len [.var 0]) (.int 40), .bi .all [.lc [("one", 1)] (.nm 1) (.seqT (.var 0)) none (.bo true [.fn "is_integer" [.var 1], .cmp .GtE (.var 1) (.int 0)])]])]
theorem ckIsProof : ckS ⟨nIsProof, defScope sIsProof, defScope sIsProof, BN⟩ rIsProof (defBody sIsProof) = true := by decide +kernel
/-! ### texts_up -/
abbrev sTextsUp : Stmt := topS 27
abbrev nTextsUp : List Str := ["many", "place", "text", "proof", "found", "here", "is_left", "other"]
theorem scTextsUp : FnScope nTextsUp ["many", "place", "text", "proof"] (defScope sTextsUp) := ⟨rfl, rfl, rfl, by decide +kernel, rfl, by decide +kernel, by decide +kernel⟩
def rTextsUp : List RS := [
  .par2 4 5 (.lst [.fn "leaf_text" [.var 2]]) (.fn "digest" [.fn "leaf_text" [.var 2]]),
  .for_ (.t2 6 7) (.zipLT (.fn "turns_of" [.var 0, .var 1]) (.var 3)) [.app 4 (.ifx (.val (.var 6)) (.fn "node_text" [.var 5, .var 7]) (.fn "node_text" [.var 7, .var 5])), .set 5 (.fn "digest" [.ix (.var 4) (.neg (.int 1))])],
  .retOwn 4]
theorem ckTextsUp : ckS ⟨nTextsUp, defScope sTextsUp, defScope sTextsUp, BN⟩ rTextsUp (defBody sTextsUp) = true := by decide +kernel
/-! ### is_in -/
abbrev sIsIn : Stmt := topS 28
abbrev nIsIn : List Str := ["root", "many", "place", "text", "thing"]
theorem scIsIn : FnScope nIsIn ["root", "many", "place", "text", "thing"] (defScope sIsIn) := ⟨rfl, rfl, rfl, by decide +kernel, rfl, by decide +kernel, by decide +kernel⟩
def rIsIn : List RS := [
  .ife (.bo false [.nt (.val (.fn "is_within" [.var 1, .int 1, .gi "MOST_ENTRIES"])), .nt (.val (.fn "is_within" [.var 2, .int 0, .bin .Sub (.var 1) (.int 1)]))]) [.opq] [],
  .ife (.bo false [.nt (.val (.fn "is_proof" [.var 4])), .cmp .NotEq (.bi .len [.var 4]) (.bi .len [.fn "turns_of" [.var 1, .var 2]])]) [.ret (.bl false)] [],
  .ret (.cmp .Eq (.fn "digest" [.ix (.fn "texts_up" [.var 1, .var 2, .var 3, .var 4]) (.neg (.int 1))]) (.var 0))]
theorem ckIsIn : ckS ⟨nIsIn, defScope sIsIn, defScope sIsIn, BN⟩ rIsIn (defBody sIsIn) = true := by decide +kernel
/-! ### clash_of -/
abbrev sClashOf : Stmt := topS 29
abbrev nClashOf : List Str := ["entries", "place", "text", "proof", "told", "due", "one", "other"]
theorem scClashOf : FnScope nClashOf ["entries", "place", "text", "proof"] (defScope sClashOf) := ⟨rfl, rfl, rfl, by decide +kernel, rfl, by decide +kernel, by decide +kernel⟩
def rClashOf : List RS := [
  .expr (.fn "check_place" [.var 0, .var 1]),
  .ife (.nt (.val (.fn "is_in" [.fn "root_of" [.var 0], .bi .len [.var 0], .var 1, .var 2, .var 3]))) [.opq] [],
  .ife (.cmp .Eq (.ix (.var 0) (.var 1)) (.var 2)) [.ret (.non)] [],
  .set 4 (.fn "texts_up" [.bi .len [.var 0], .var 1, .var 2, .var 3]),
  .set 5 (.fn "texts_up" [.bi .len [.var 0], .var 1, .ix (.var 0) (.var 1), .ty .tup [.fn "path_of" [.var 0, .var 1]]]),
  .for_ (.t2 6 7) (.zipL (.revL (.var 4)) (.revL (.var 5))) [.ife (.cmp .NotEq (.var 6) (.var 7)) [.ret (.tup [.var 6, .var 7])] []],
  .ret (.non)]
theorem ckClashOf : ckS ⟨nClashOf, defScope sClashOf, defScope sClashOf, BN⟩ rClashOf (defBody sClashOf) = true := by decide +kernel
/-! ### is_clash -/
abbrev sIsClash : Stmt := topS 30
abbrev nIsClash : List Str := ["thing", "text"]
theorem scIsClash : FnScope nIsClash ["thing"] (defScope sIsClash) := ⟨rfl, rfl, rfl, by decide +kernel, rfl, by decide +kernel, by decide +kernel⟩
def rIsClash : List RS := [
  .ife (.bo false [.nt (.val (.isi (.var 0) .tup)), .cmp .NotEq (.bi .len [.var 0]) (.int 2), .nt (.val (.bi .all [.lc [("text", 1)] (.nm 1) (.seqT (.var 0)) none (.isi (.var 1) .str)]))]) [.ret (.bl false)] [],
  .ret (.bo true [.cmp .NotEq (.ix (.var 0) (.int 0)) (.ix (.var 0) (.int 1)), .cmp .Eq (.fn "digest" [.ix (.var 0) (.int 0)]) (.fn "digest" [.ix (.var 0) (.int 1)])])]
theorem ckIsClash : ckS ⟨nIsClash, defScope sIsClash, defScope sIsClash, BN⟩ rIsClash (defBody sIsClash) = true := by decide +kernel
/-! ### _law_any -/
abbrev sLAny : Stmt := topS 34
abbrev nLAny : List Str := ["hand", "things"]
theorem scLAny : FnScope nLAny ["hand", "things"] (defScope sLAny) := ⟨rfl, rfl, rfl, by decide +kernel, rfl, by decide +kernel, by decide +kernel⟩
def rLAny : List RS := [
  .ret (.ix (.var 1) (.fn "_law_draw" [.var 0, .bi .len [.var 1]]))]
theorem ckLAny : ckS ⟨nLAny, defScope sLAny, defScope sLAny, BN⟩ rLAny (defBody sLAny) = true := by decide +kernel
/-! ### _law_is_int -/
abbrev sLIsInt : Stmt := topS 35
abbrev nLIsInt : List Str := ["thing"]
theorem scLIsInt : FnScope nLIsInt ["thing"] (defScope sLIsInt) := ⟨rfl, rfl, rfl, by decide +kernel, rfl, by decide +kernel, by decide +kernel⟩
def rLIsInt : List RS := [
  .ret (.bo true [.isi (.var 0) .int, .nt (.isi (.var 0) .bool)])]
theorem ckLIsInt : ckS ⟨nLIsInt, defScope sLIsInt, defScope sLIsInt, BN⟩ rLIsInt (defBody sLIsInt) = true := by decide +kernel
/-! ### _law_digest -/
abbrev sLDigest : Stmt := topS 36
abbrev nLDigest : List Str := ["text", "found", "sign"]
theorem scLDigest : FnScope nLDigest ["text"] (defScope sLDigest) := ⟨rfl, rfl, rfl, by decide +kernel, rfl, by decide +kernel, by decide +kernel⟩
def rLDigest : List RS := [
  .set 1 (.int 7),
  .for_ (.nm 2) (.seqS (.var 0)) [.set 1 (.bin .Mod (.ty .int [.bin .Add (.bin .Mult (.var 1) (.int 131)) (.bi .ord [.var 2])]) (.int 2305843009213693951))],
  .ret (.var 1)]
theorem ckLDigest : ckS ⟨nLDigest, defScope sLDigest, defScope sLDigest, BN⟩ rLDigest (defBody sLDigest) = true := by decide +kernel
/-! ### _law_node -/
abbrev sLNode : Stmt := topS 37
abbrev nLNode : List Str := ["one", "other"]
theorem scLNode : FnScope nLNode ["one", "other"] (defScope sLNode) := ⟨rfl, rfl, rfl, by decide +kernel, rfl, by decide +kernel, by decide +kernel⟩
def rLNode : List RS := [
  .ret (.fn "_law_digest" [.bin .Add (.bin .Add (.bin .Add (.str "node ") (.ty .str [.var 0])) (.str " ")) (.ty .str [.var 1])])]
theorem ckLNode : ckS ⟨nLNode, defScope sLNode, defScope sLNode, BN⟩ rLNode (defBody sLNode) = true := by decide +kernel
/-! ### _law_cut -/
abbrev sLCut : Stmt := topS 38
abbrev nLCut : List Str := ["many", "found"]
theorem scLCut : FnScope nLCut ["many"] (defScope sLCut) := ⟨rfl, rfl, rfl, by decide +kernel, rfl, by decide +kernel, by decide +kernel⟩
def rLCut : List RS := [
  .set 1 (.int 1),
  .whl (.cmp .Lt (.bin .Mult (.var 1) (.int 2)) (.var 0)) [.set 1 (.bin .Mult (.var 1) (.int 2))],
  .ret (.var 1)]
theorem ckLCut : ckS ⟨nLCut, defScope sLCut, defScope sLCut, BN⟩ rLCut (defBody sLCut) = true := by decide +kernel
/-! ### _law_root -/
abbrev sLRoot : Stmt := topS 39
abbrev nLRoot : List Str := ["entries", "at"]
theorem scLRoot : FnScope nLRoot ["entries"] (defScope sLRoot) := ⟨rfl, rfl, rfl, by decide +kernel, rfl, by decide +kernel, by decide +kernel⟩
def rLRoot : List RS := [
  .ife (.cmp .Lt (.bi .len [.var 0]) (.int 2)) [.ret (.fn "_law_digest" [.ifx (.cmp .Eq (.bi .len [.var 0]) (.int 1)) (.bin .Add (.str "leaf ") (.ix (.var 0) (.int 0))) (.str "empty")])] [],
  .set 1 (.fn "_law_cut" [.bi .len [.var 0]]),
  .ret (.fn "_law_node" [.fn "_law_root" [.slT (.var 0) .no (.so (.var 1))], .fn "_law_root" [.slT (.var 0) (.so (.var 1)) .no]])]
theorem ckLRoot : ckS ⟨nLRoot, defScope sLRoot, defScope sLRoot, BN⟩ rLRoot (defBody sLRoot) = true := by decide +kernel
/-! ### _law_texts -/
abbrev sLTexts : Stmt := topS 40
abbrev nLTexts : List Str := ["hand", "most", "words", "found", "at"]
theorem scLTexts : FnScope nLTexts ["hand", "most"] (defScope sLTexts) := ⟨rfl, rfl, rfl, by decide +kernel, rfl, by decide +kernel, by decide +kernel⟩
def rLTexts : List RS := [
  .set 2 (.lst [.str "", .str "a", .str "b", .str "leaf a", .str "node 1 2", .str "empty", .str "put a 1.0.0", .str "a", .str "&~ \n"]),
  .set 3 (.lst []),
  .frz 2,
  .for_ (.nm 4) (.rng1 (.fn "_law_draw" [.var 0, .bin .Add (.var 1) (.int 1)])) [.app 3 (.bin .Add (.fn "_law_any" [.var 0, .var 2]) (.fn "_law_any" [.var 0, .lst [.str "", .str "", .ty .str [.var 4]]]))],
  .ret (.ty .tup [.var 3])]
theorem ckLTexts : ckS ⟨nLTexts, defScope sLTexts, defScope sLTexts, BN⟩ rLTexts (defBody sLTexts) = true := by decide +kernel
/-! ### _law_proof -/
abbrev sLProof : Stmt := topS 41
abbrev nLProof : List Str := ["entries", "place", "at"]
theorem scLProof : FnScope nLProof ["entries", "place"] (defScope sLProof) := ⟨rfl, rfl, rfl, by decide +kernel, rfl, by decide +kernel, by decide +kernel⟩
def rLProof : List RS := [
  .ife (.cmp .Eq (.bi .len [.var 0]) (.int 1)) [.ret (.tup [])] [],
  .set 2 (.fn "_law_cut" [.bi .len [.var 0]]),
  .ife (.cmp .Lt (.var 1) (.var 2)) [.ret (.bin .Add (.fn "_law_proof" [.slT (.var 0) .no (.so (.var 2)), .var 1]) (.tup [.fn "_law_root" [.slT (.var 0) (.so (.var 2)) .no]]))] [],
  .ret (.bin .Add (.fn "_law_proof" [.slT (.var 0) (.so (.var 2)) .no, .bin .Sub (.var 1) (.var 2)]) (.tup [.fn "_law_root" [.slT (.var 0) .no (.so (.var 2))]]))]
theorem ckLProof : ckS ⟨nLProof, defScope sLProof, defScope sLProof, BN⟩ rLProof (defBody sLProof) = true := by decide +kernel
/-! ### _law_up -/
abbrev sLUp : Stmt := topS 42
abbrev nLUp : List Str := ["many", "place", "here", "proof", "at", "below"]
theorem scLUp : FnScope nLUp ["many", "place", "here", "proof"] (defScope sLUp) := ⟨rfl, rfl, rfl, by decide +kernel, rfl, by decide +kernel, by decide +kernel⟩
def rLUp : List RS := [
  .ife (.cmp .Eq (.var 0) (.int 1)) [.ret (.ifx (.cmp .Eq (.bi .len [.var 3]) (.int 0)) (.var 2) (.non))] [],
  .ife (.cmp .Eq (.bi .len [.var 3]) (.int 0)) [.ret (.non)] [],
  .set 4 (.fn "_law_cut" [.var 0]),
  .ife (.cmp .Lt (.var 1) (.var 4)) [.set 5 (.fn "_law_up" [.var 4, .var 1, .var 2, .slT (.var 3) .no (.so (.neg (.int 1)))]), .ret (.ifx (.cmp .Is (.var 5) (.non)) (.non) (.fn "_law_node" [.var 5, .ix (.var 3) (.neg (.int 1))]))] [],
  .set 5 (.fn "_law_up" [.bin .Sub (.var 0) (.var 4), .bin .Sub (.var 1) (.var 4), .var 2, .slT (.var 3) .no (.so (.neg (.int 1)))]),
  .ret (.ifx (.cmp .Is (.var 5) (.non)) (.non) (.fn "_law_node" [.ix (.var 3) (.neg (.int 1)), .var 5]))]
theorem ckLUp : ckS ⟨nLUp, defScope sLUp, defScope sLUp, BN⟩ rLUp (defBody sLUp) = true := by decide +kernel
/-! ### _law_is_in -/
abbrev sLIsIn : Stmt := topS 43
abbrev nLIsIn : List Str := ["root", "many", "place", "text", "thing", "one"]
theorem scLIsIn : FnScope nLIsIn ["root", "many", "place", "text", "thing"] (defScope sLIsIn) := ⟨rfl, rfl, rfl, by decide +kernel, rfl, by decide +kernel, by decide +kernel⟩
def rLIsIn : List RS := [
  .ife (.bo false [.nt (.val (.isi (.var 4) .tup)), .cmp .Gt (.bi .len [.var 4]) (.int 20)]) [.ret (.bl false)] [],
  .ife (.nt (.val (.bi .all [.lc [("one", 5)] (.nm 5) (.seqT (.var 4)) none (.bo true [.fn "_law_is_int" [.var 5], .cmp .GtE (.var 5) (.int 0)])]))) [.ret (.bl false)] [],
  .ret (.cmp .Eq (.fn "_law_up" [.var 1, .var 2, .fn "_law_digest" [.bin .Add (.str "leaf ") (.var 3)], .var 4]) (.var 0))]
theorem ckLIsIn : ckS ⟨nLIsIn, defScope sLIsIn, defScope sLIsIn, BN⟩ rLIsIn (defBody sLIsIn) = true := by decide +kernel
/-! ### _law_bent -/
abbrev sLBent : Stmt := topS 44
abbrev nLBent : List Str := ["hand", "proof", "at", "way", "some", "one", "odd"]
theorem scLBent : FnScope nLBent ["hand", "proof"] (defScope sLBent) := ⟨rfl, rfl, rfl, by decide +kernel, rfl, by decide +kernel, by decide +kernel⟩
def rLBent : List RS := [
  .par2 2 3 (.fn "_law_draw" [.var 0, .bin .Add (.bi .len [.var 1]) (.int 1)]) (.fn "_law_draw" [.var 0, .int 6]),
  .ife (.cmp .Eq (.var 3) (.int 0)) [.set 4 (.lst [.ty .lst [.var 1], .non, .tup [], .revT (.var 1), .str "proof", .dict0, .tup [.var 1]]), .ret (.fn "_law_any" [.var 0, .bin .Add (.var 4) (.lst [.bin .Mult (.var 1) (.int 2)])])] [],
  .ife (.cmp .Eq (.var 3) (.int 1)) [.ret (.bin .Add (.bin .Add (.slT (.var 1) .no (.so (.var 2))) (.tup [.fn "_law_draw" [.var 0, .bin .Pow (.int 10) (.int 9)]])) (.slT (.var 1) (.so (.var 2)) .no))] [],
  .ife (.bo false [.cmp .Eq (.var 3) (.int 2), .cmp .Eq (.var 2) (.bi .len [.var 1])]) [.ret (.bin .Add (.slT (.var 1) .no (.so (.var 2))) (.slT (.var 1) (.so (.bin .Add (.var 2) (.int 1))) .no))] [],
  .set 5 (.ix (.var 1) (.var 2)),
  .set 6 (.fn "_law_any" [.var 0, .lst [.bin .Add (.var 5) (.int 1), .neg (.int 1), .non, .bl true, .ty .str [.var 5], .tup [.var 5], .int 0, .bin .Sub (.var 5) (.int 1)]]),
  .ret (.bin .Add (.bin .Add (.slT (.var 1) .no (.so (.var 2))) (.tup [.var 6])) (.slT (.var 1) (.so (.bin .Add (.var 2) (.int 1))) .no))]
theorem ckLBent : ckS ⟨nLBent, defScope sLBent, defScope sLBent, BN⟩ rLBent (defBody sLBent) = true := by decide +kernel
/-! ### _law_are_like -/
abbrev sLAreLike : Stmt := topS 45
abbrev nLAreLike : List Str := ["hand", "pairs", "one", "other", "ahead", "behind", "pair"]
theorem scLAreLike : FnScope nLAreLike ["hand"] (defScope sLAreLike) := ⟨rfl, rfl, rfl, by decide +kernel, rfl, by decide +kernel, by decide +kernel⟩
def rLAreLike : List RS := [
  .set 1 (.lst [.tup [.str "aaaadcadaeaaccaaaaac", .str "cebcaababaacaadddeda"]]),
  .app 1 (.tup [.str "aaadaacbeedaaaeaacab", .str "bdaaaeaaaaacccaacaaa"]),
  .app 1 (.tup [.str "cbafcbfaacaaaeabcaca", .str "aafaaaacbabdbaeaaaaf"]),
  .frz 1,
  .asg (.t2 2 3) (.fn "_law_any" [.var 0, .var 1]),
  .par2 4 5 (.fn "_law_any" [.var 0, .lst [.str "", .str "x", .str "leaf "]]) (.fn "_law_any" [.var 0, .lst [.str "", .str "y", .str " 1 2"]]),
  .set 6 (.tup [.bin .Add (.bin .Add (.var 4) (.var 2)) (.var 5), .bin .Add (.bin .Add (.var 4) (.var 3)) (.var 5)]),
  .ret (.ifx (.cmp .Eq (.fn "_law_draw" [.var 0, .int 2]) (.int 0)) (.var 6) (.revT (.var 6)))]
theorem ckLAreLike : ckS ⟨nLAreLike, defScope sLAreLike, defScope sLAreLike, BN⟩ rLAreLike (defBody sLAreLike) = true := by decide +kernel
/-! ### _law_is_clash -/
abbrev sLIsClash : Stmt := topS 46
abbrev nLIsClash : List Str := ["thing", "text"]
theorem scLIsClash : FnScope nLIsClash ["thing"] (defScope sLIsClash) := ⟨rfl, rfl, rfl, by decide +kernel, rfl, by decide +kernel, by decide +kernel⟩
def rLIsClash : List RS := [
  .ife (.bo false [.nt (.val (.isi (.var 0) .tup)), .cmp .NotEq (.bi .len [.var 0]) (.int 2)]) [.ret (.bl false)] [],
  .ife (.bo false [.nt (.val (.bi .all [.lc [("text", 1)] (.nm 1) (.seqT (.var 0)) none (.isi (.var 1) .str)])), .cmp .Eq (.ix (.var 0) (.int 0)) (.ix (.var 0) (.int 1))]) [.ret (.bl false)] [],
  .ret (.cmp .Eq (.fn "_law_digest" [.ix (.var 0) (.int 0)]) (.fn "_law_digest" [.ix (.var 0) (.int 1)]))]
theorem ckLIsClash : ckS ⟨nLIsClash, defScope sLIsClash, defScope sLIsClash, BN⟩ rLIsClash (defBody sLIsClash) = true := by decide +kernel
/-! ### _law_told -/
abbrev sLTold : Stmt := topS 47
abbrev nLTold : List Str := ["call", "e"]
theorem scLTold : FnScope nLTold ["call"] (defScope sLTold) := ⟨rfl, rfl, rfl, by decide +kernel, rfl, by decide +kernel, by decide +kernel⟩
def rLTold : List RS := [
  .opq]
theorem ckLTold : ckS ⟨nLTold, defScope sLTold, defScope sLTold, BN⟩ rLTold (defBody sLTold) = true := by decide +kernel
/-! ### _law_is_held -/
abbrev sLIsHeld : Stmt := topS 48
abbrev nLIsHeld : List Str := ["entries", "place", "text", "proof", "root", "many", "due", "flag", "told"]
theorem scLIsHeld : FnScope nLIsHeld ["entries", "place", "text", "proof"] (defScope sLIsHeld) := ⟨rfl, rfl, rfl, by decide +kernel, rfl, by decide +kernel, by decide +kernel⟩
def rLIsHeld : List RS := [
  .par2 4 5 (.fn "_law_root" [.var 0]) (.bi .len [.var 0]),
  .set 6 (.fn "_law_is_in" [.var 4, .var 5, .var 1, .var 2, .var 3]),
  .set 7 (.fn "is_in" [.var 4, .var 5, .var 1, .var 2, .var 3]),
  .ife (.bo false [.nt (.val (.isi (.var 7) .bool)), .cmp .NotEq (.var 7) (.var 6)]) [.ret (.bl false)] [],
  .set 8 (.opq),
  .ife (.nt (.val (.var 6))) [.ret (.cmp .Eq (.var 8) (.tup [.str "proof"]))] [],
  .ife (.cmp .Eq (.ix (.var 0) (.var 1)) (.var 2)) [.ret (.cmp .Eq (.var 8) (.tup [.str "told", .non]))] [],
  .ret (.bo true [.cmp .Eq (.bi .len [.var 8]) (.int 2), .fn "_law_is_clash" [.ix (.var 8) (.int 1)], .cmp .Is (.fn "is_clash" [.ix (.var 8) (.int 1)]) (.bl true)])]
theorem ckLIsHeld : ckS ⟨nLIsHeld, defScope sLIsHeld, defScope sLIsHeld, BN⟩ rLIsHeld (defBody sLIsHeld) = true := by decide +kernel
/-! ### _law_place_right -/
abbrev sLPlaceRight : Stmt := topS 49
abbrev nLPlaceRight : List Str := ["hand", "entries", "place", "other", "proof", "root", "texts", "things", "thing", "kept", "text", "many", "spot", "sum_of", "due", "turn"]
theorem scLPlaceRight : FnScope nLPlaceRight ["hand", "entries"] (defScope sLPlaceRight) := ⟨rfl, rfl, rfl, by decide +kernel, rfl, by decide +kernel, by decide +kernel⟩
def rLPlaceRight : List RS := [
  .par2 2 3 (.fn "_law_draw" [.var 0, .bi .len [.var 1]]) (.fn "_law_draw" [.var 0, .bi .len [.var 1]]),
  .tup2 4 5 (.fn "proof_in" [.var 1, .var 2]) (.fn "_law_root" [.var 1]),
  .ife (.cmp .NotEq (.bi .repr [.var 4]) (.bi .repr [.fn "_law_proof" [.var 1, .var 2]])) [.ret (.bl false)] [],
  .set 6 (.lst [.ix (.var 1) (.var 2), .ix (.var 1) (.var 2), .ix (.var 1) (.var 3), .str "other"]),
  .app 6 (.ix (.fn "_law_are_like" [.var 0]) (.int 0)),
  .setLc 7 [("turn", 15)] (.nm 15) (.rng1 (.int 5)) none (.fn "_law_bent" [.var 0, .var 4]),
  .frz 6,
  .for_ (.nm 8) (.seqL (.bin .Add (.var 7) (.lst [.var 4, .fn "_law_proof" [.var 1, .var 3]]))) [.par2 9 10 (.bi .repr [.var 8]) (.fn "_law_any" [.var 0, .var 6]), .ife (.bo false [.nt (.val (.fn "_law_is_held" [.var 1, .var 2, .var 10, .var 8])), .cmp .NotEq (.bi .repr [.var 8]) (.var 9)]) [.ret (.bl false)] []],
  .set 11 (.bin .Add (.int 1) (.fn "_law_draw" [.var 0, .int 60])),
  .par2 12 13 (.fn "_law_draw" [.var 0, .var 11]) (.fn "_law_any" [.var 0, .lst [.var 5, .bin .Add (.var 5) (.int 1), .int 0, .int 7]]),
  .set 14 (.fn "_law_is_in" [.var 13, .var 11, .var 12, .ix (.var 1) (.var 2), .var 4]),
  .ret (.cmp .Eq (.bi .repr [.fn "is_in" [.var 13, .var 11, .var 12, .ix (.var 1) (.var 2), .var 4]]) (.bi .repr [.var 14]))]
theorem ckLPlaceRight : ckS ⟨nLPlaceRight, defScope sLPlaceRight, defScope sLPlaceRight, BN⟩ rLPlaceRight (defBody sLPlaceRight) = true := by decide +kernel
/-! ### _law_clash_right -/
abbrev sLClashRight : Stmt := topS 50
abbrev nLClashRight : List Str := ["hand", "entries", "one", "other", "place", "with_one", "with_other", "proof", "text", "odd", "thing"]
theorem scLClashRight : FnScope nLClashRight ["hand", "entries"] (defScope sLClashRight) := ⟨rfl, rfl, rfl, by decide +kernel, rfl, by decide +kernel, by decide +kernel⟩
def rLClashRight : List RS := [
  .asg (.t2 2 3) (.fn "_law_are_like" [.var 0]),
  .ife (.bo false [.nt (.val (.fn "_law_is_clash" [.tup [.var 2, .var 3]])), .cmp .IsNot (.fn "is_clash" [.tup [.var 2, .var 3]]) (.bl true)]) [.ret (.bl false)] [],
  .set 4 (.fn "_law_draw" [.var 0, .bin .Add (.bi .len [.var 1]) (.int 1)]),
  .set 5 (.bin .Add (.bin .Add (.slT (.var 1) .no (.so (.var 4))) (.tup [.var 2])) (.slT (.var 1) (.so (.var 4)) .no)),
  .set 6 (.bin .Add (.bin .Add (.slT (.var 1) .no (.so (.var 4))) (.tup [.var 3])) (.slT (.var 1) (.so (.var 4)) .no)),
  .ife (.cmp .NotEq (.fn "log_root" [.var 5]) (.fn "log_root" [.var 6])) [.ret (.bl false)] [],
  .set 7 (.fn "proof_in" [.var 5, .var 4]),
  .for_ (.nm 8) (.seqT (.tup [.var 2, .var 3])) [.ife (.nt (.val (.fn "_law_is_held" [.var 5, .var 4, .var 8, .var 7]))) [.ret (.bl false)] []],
  .set 9 (.lst [.tup [.var 2, .var 2], .lst [.var 2, .var 3], .tup [.var 2], .tup [.var 2, .var 3, .var 2]]),
  .set 9 (.bin .Add (.var 9) (.lst [.tup [.var 2, .non], .non, .var 2, .tup [.var 3, .var 2], .tup [.int 1, .int 2], .dict0])),
  .set 9 (.bin .Add (.var 9) (.lst [.tup [.bin .Add (.str "leaf ") (.var 2), .bin .Add (.str "leaf ") (.var 3)], .tup [.var 2, .bin .Add (.var 3) (.str "a")], .tup []])),
  .frz 9,
  .ret (.bi .all [.lc [("thing", 10)] (.nm 10) (.seqL (.var 9)) none (.cmp .Eq (.bi .repr [.fn "is_clash" [.var 10]]) (.bi .repr [.fn "_law_is_clash" [.var 10]]))])]
theorem ckLClashRight : ckS ⟨nLClashRight, defScope sLClashRight, defScope sLClashRight, BN⟩ rLClashRight (defBody sLClashRight) = true := by decide +kernel
/-! ### law -/
abbrev sLaw : Stmt := topS 51
abbrev nLaw : List Str := ["script", "hand", "turn", "entries"]
theorem scLaw : FnScope nLaw ["script"] (defScope sLaw) := ⟨rfl, rfl, rfl, by decide +kernel, rfl, by decide +kernel, by decide +kernel⟩
def rLaw : List RS := [
  .set 1 (.fn "_law_hand" [.var 0]),
  .ife (.bo false [.cmp .NotEq (.fn "log_root" [.tup []]) (.fn "_law_digest" [.str "empty"]), .cmp .NotEq (.fn "log_root" [.tup [.str "a"]]) (.fn "_law_digest" [.str "leaf a"])]) [.ret (.bl false)] [],
  .ife (.cmp .NotEq (.fn "log_root" [.tup [.str "a", .str "b"]]) (.fn "_law_node" [.fn "_law_digest" [.str "leaf a"], .fn "_law_digest" [.str "leaf b"]])) [.ret (.bl false)] [],
  .for_ (.nm 2) (.rng1 (.int 4)) [.set 3 (.fn "_law_texts" [.var 1, .fn "_law_any" [.var 1, .lst [.int 3, .int 9, .int 17, .int 40]]]), .ife (.bo false [.nt (.val (.fn "_law_is_int" [.fn "log_root" [.var 3]])), .cmp .NotEq (.fn "log_root" [.var 3]) (.fn "_law_root" [.var 3])]) [.ret (.bl false)] [], .ife (.bo true [.cmp .Gt (.bi .len [.var 3]) (.int 0), .nt (.val (.fn "_law_place_right" [.var 1, .var 3]))]) [.ret (.bl false)] [], .ife (.nt (.val (.fn "_law_clash_right" [.var 1, .var 3]))) [.ret (.bl false)] []],
  .ret (.bl true)]
theorem ckLaw : ckS ⟨nLaw, defScope sLaw, defScope sLaw, BN⟩ rLaw (defBody sLaw) = true := by decide +kernel

end K85

set_option Elab.async false
set_option linter.all false
set_option pp.maxSteps 300
set_option maxRecDepth 100000
set_option maxHeartbeats 2000000
/-! the walk: _law_hand, _law_draw -/
namespace K85
open PySem PySem.Spec PyProof.Rows L2 DL
theorem hu1 {k : Nat} {A : Around} (hr : Room k A) : A.units + 1 < cLine := by have := hr.units; omega
theorem getD_int' {l : List Int} {i : Nat} (hi : i < l.length) : (l.map D.int).getD i .non = .int l[i] := by simp [hi]
theorem dats_ints {F : Hp} {ns : List Int} {vs : List V} (h : Dats F (ns.map D.int) vs) : vs = ns.map V.int := h.ints
theorem snocI (l : List Int) (z : Int) : l.map D.int ++ [D.int z] = (l ++ [z]).map D.int := by
  rw [List.map_append]
  rfl
theorem cut63 (ns : List Int) : (cutG ns none (some 63)).length ≤ 63 := by
  unfold cutG
  rw [List.length_take]
  have e1 : HT.sIx ns.length 0 none = 0 := rfl
  have e2 : HT.sIx ns.length ns.length (some 63) = min 63 ns.length := HT.sIx_nat _ _ 63
  rw [e1, e2]
  omega
section
variable {P : Program} {w : World} {K : PySem.W.Frag} {mg : Str → Option Value} {base : Heap} {f : Addr} {fd : FuncData} {k : Nat}
abbrev sHnd : Stmt := topS 32
theorem scHnd : FnScope ["script", "cells", "small", "great", "cell"] ["script"] (defScope sHnd) := ⟨rfl, rfl, rfl, by decide +kernel, rfl, by decide +kernel, by decide +kernel⟩
theorem ok_hndT (m : Mb mg) (F : Fun K "_law_hand" "_law_hand" sHnd f fd) : FnOk P w K mg base L2.CX0 (k + 1) f fd ["script"] (spHandT K) := by
  refine fn_raw F scHnd (fun vs H Q E h => ?_) fun cdv A outer s H vs Q E hr h => ?_
  · obtain ⟨a, ns, rfl, _⟩ := h
    rfl
  obtain ⟨a, ns, rfl, hS, q⟩ := h
  have nd := scHnd.nd
  have E0 : EnvS (cScr (fun _ => none) H a) (fun _ => none) H [some (.ref a), none, none, none, none] [.hand, .any, .any, .any, .any] := by
    have e1 : EnvR (cScr (fun _ => none) H a) (fun _ => none) H [] [] := env_args (ds := []) (vs := []) (fun b o z => by cases z) rfl trivial (fun a z => by cases z) rfl rfl
    exact ⟨(e1.pushS (s := .hand) ⟨rfl, rfl⟩).rest (n := 4), fun s hs => by
      simp only [List.mem_cons, List.not_mem_nil, or_false] at hs
      rcases hs with rfl | rfl | rfl | rfl | rfl <;> rfl⟩
  have bl : ∀ n : Nat, n ≤ 64 → n < sizeLine := fun n hn => Nat.lt_of_lt_of_le (show n < 1000 by omega) (by decide)
  refine (?_ : WPsE _ (cScr (fun _ => none) H a) _ _ _) _ _ _ E0
  refine wpsE_cons <| wst_setLc (own := [("cell", 4)]) 1 (fun i acc => ∃ cs : List Int, cs.length ≤ i ∧ acc = cs.map D.int) rfl nd (blk_of (N' := ["script", "cells", "small", "great", "cell"]) (sc' := defScope sHnd) (by decide +kernel)) (by rfl) <|
    wpi_list <| wp_sliceScr (ns := ns) hS rfl <| wp_name 0 rfl rfl ⟨rfl, wpo_none <| wpo_some <| wp_int ⟨63, rfl, ?_⟩⟩
  refine ⟨_, rfl, ⟨[], Nat.le_refl _, rfl⟩, fun F1 H1 i acc hi hJ Y hY => ?_, fun acc hJ => ?_⟩
  · obtain ⟨s', H', C, cl, fp, rfl⟩ := hY
    obtain ⟨cs, hl, rfl⟩ := hJ
    rw [cutD_map, List.length_map] at hi
    have h63 := cut63 ns
    show GtC _ _ _ (.im ((cutD (ns.map D.int) none (some 63)).getD i .non)) _ _ _
    rw [cutD_map, getD_int' hi]
    refine gtc_name 4 nd fun Y hY => ⟨fun _ Y hY => ?_, fun z => absurd z (by decide)⟩
    obtain ⟨s', H', C, cl, fp, rfl⟩ := hY
    exact wp_callB m.abs PyProof.Rows.boot_abs <| wpa_cons <| wp_callTy m.int PyProof.Rows.boot_int <| wpa_cons <| wp_name 4 rfl rfl <| wpa_nil <| cd_int <| wpa_nil <| cd_abs ⟨_, rfl, bl _ (by rw [List.length_map]; omega), cs ++ [if (cutG ns none (some 63))[i] < 0 then -(cutG ns none (some 63))[i] else (cutG ns none (some 63))[i]], by rw [List.length_append]; exact Nat.add_le_add_right hl 1, snocI _ _⟩
  obtain ⟨cs, hl, rfl⟩ := hJ
  have hcl : cs.length ≤ 63 := by
    rw [cutD_map, List.length_map] at hl
    exact Nat.le_trans hl (cut63 ns)
  clear hl
  refine wpsE_freeze 1 rfl ?_
  refine wpsE_cons <| wst_setLc (own := [("cell", 4)]) 2 (fun i acc => ∃ ss : List Int, ss.length ≤ i ∧ acc = ss.map D.int) rfl nd (blk_of (N' := ["script", "cells", "small", "great", "cell"]) (sc' := defScope sHnd) (by decide +kernel)) (by rfl) <|
    wpi_list <| wp_name 1 rfl rfl ⟨_, rfl, ⟨[], Nat.le_refl _, rfl⟩, fun F1 H1 i acc hi hJ Y hY => ?_, fun acc hJ => ?_⟩
  · obtain ⟨s', H', C, cl, fp, rfl⟩ := hY
    obtain ⟨ss, hl, rfl⟩ := hJ
    rw [List.length_map] at hi
    show GtC _ _ _ (.im ((cs.map D.int).getD i .non)) _ _ _
    rw [getD_int' hi]
    refine gtc_name 4 nd fun Y hY => ?_
    obtain ⟨s', H', C, cl, fp, rfl⟩ := hY
    refine wpt_cmp <| wp_name 4 rfl rfl <| wp_binop <| wp_int <| wp_int <| od_pow ⟨by decide, by decide, by decide⟩ <| od_lt ⟨_, rfl, fun hx Y hY => ?_, fun hx => ⟨ss, Nat.le_succ_of_le hl, rfl⟩⟩
    obtain ⟨s', H', C, cl, fp, rfl⟩ := hY
    exact wp_binop <| wp_callTy m.int PyProof.Rows.boot_int <| wpa_cons <| wp_name 4 rfl rfl <| wpa_nil <| cd_int <| wp_int <| od_mod (by decide) ⟨_, rfl, bl _ (by rw [List.length_map]; omega), ss ++ [cs[i] % 1000000007], by rw [List.length_append]; exact Nat.add_le_add_right hl 1, snocI _ _⟩
  obtain ⟨ss, hl, rfl⟩ := hJ
  have hsl : ss.length ≤ 63 := by
    rw [List.length_map] at hl
    exact Nat.le_trans hl hcl
  clear hl
  show WPsE _ _ _ [.hand, .im (.lst (cs.map D.int)), .own (.lst (ss.map D.int)), .any, .any] _
  refine wpsE_cons <| wst_append 2 rfl (bl _ (by rw [List.length_map]; omega)) <| wp_binop <| wp_binop <| wp_int <| wp_callB m.len PySem.boot_len <| wpa_cons <| wp_name 1 rfl rfl <| wpa_nil <| cd_len rfl <| od_mul (.inl (by decide)) <| wp_int <| od_add ⟨_, rfl, ?_⟩
  have e2 : ∀ z : Int, ss.map D.int ++ [D.int z] = (ss ++ [z]).map D.int := fun z => snocI _ _
  show WPsE _ _ _ [.hand, .im (.lst (cs.map D.int)), .own (.lst (ss.map D.int ++ [D.int _])), .any, .any] _
  rw [e2]
  have hne : ∀ z : Int, ss ++ [z] ≠ [] ∧ (ss ++ [z]).length ≤ 64 := fun z => ⟨by simp, by rw [List.length_append]; exact Nat.add_le_add_right hsl 1⟩
  have hne := hne (37 * ((cs.map D.int).length : Nat) + 11)
  generalize ss ++ [37 * (((cs.map D.int).length : Nat) : Int) + 11] = tt at *
  refine wpsE_cons <| wst_setLc (own := [("cell", 4)]) 3 (fun i acc => ∃ ss : List Int, ss.length ≤ i ∧ acc = ss.map D.int) rfl nd (blk_of (N' := ["script", "cells", "small", "great", "cell"]) (sc' := defScope sHnd) (by decide +kernel)) (by rfl) <|
    wpi_list <| wp_name 1 rfl rfl ⟨_, rfl, ⟨[], Nat.le_refl _, rfl⟩, fun F1 H1 i acc hi hJ Y hY => ?_, fun acc hJ => ?_⟩
  · obtain ⟨s', H', C, cl, fp, rfl⟩ := hY
    obtain ⟨ss, hl, rfl⟩ := hJ
    rw [List.length_map] at hi
    show GtC _ _ _ (.im ((cs.map D.int).getD i .non)) _ _ _
    rw [getD_int' hi]
    refine gtc_name 4 nd fun Y hY => ?_
    obtain ⟨s', H', C, cl, fp, rfl⟩ := hY
    refine wpt_cmp <| wp_name 4 rfl rfl <| wp_binop <| wp_int <| wp_int <| od_pow ⟨by decide, by decide, by decide⟩ <| od_ge ⟨_, rfl, fun hx Y hY => ?_, fun hx => ⟨ss, Nat.le_succ_of_le hl, rfl⟩⟩
    obtain ⟨s', H', C, cl, fp, rfl⟩ := hY
    exact wp_name 4 rfl rfl ⟨_, rfl, bl _ (by rw [List.length_map]; omega), ss ++ [cs[i]], by rw [List.length_append]; exact Nat.add_le_add_right hl 1, snocI _ _⟩
  obtain ⟨gs, hl, rfl⟩ := hJ
  have hgl : gs.length ≤ 63 := by
    rw [List.length_map] at hl
    exact Nat.le_trans hl hcl
  clear hl
  show WPsE _ _ _ [.hand, .im (.lst (cs.map D.int)), .own (.lst (tt.map D.int)), .own (.lst (gs.map D.int)), .any] _
  intro F1 H1 σ Ev
  -- the parts' places
  obtain ⟨p2, e2, ⟨vs2, h2, d2⟩, f2, _, _⟩ := Ev.env.own (i := 2) rfl
  obtain ⟨p1, e1, ⟨vs1, h1, d1⟩, f1, _, _⟩ := Ev.env.own (i := 3) rfl
  have hne12 : p1 ≠ p2 := Ev.env.apart (i := 3) (j := 2) rfl rfl e1 e2 (by decide)
  obtain ⟨F2, Ea⟩ := Ev.env.freeze (i := 2) rfl
  obtain ⟨F3, Eb⟩ := Ea.freeze (i := 3) rfl
  have Eb : EnvR (cScr (fun _ => none) H a) F3 H1 σ [.hand, .im (.lst (cs.map D.int)), .im (.lst (tt.map D.int)), .im (.lst (gs.map D.int)), .any] := Eb
  refine wss_of (pss_cons (ps_ret (pe_disp (pps_cons pe_str (pe_var (i := 3) rfl (Or.inl rfl)) (pps_cons pe_str (pe_var (i := 2) rfl (Or.inl rfl)) (pps_cons pe_str pe_we (pps_cons pe_str pe_int pps_nil)))) rfl rfl (by simp) (by decide))) pss_nil) ?_
  intro p hp
  have hnp : ∀ {b : Addr} {o : HO}, H1 b = some o → b ≠ p := fun h e => by rw [e, hp] at h; cases h
  have hFp : F3 p = none := Eb.ex.back hp
  have Ec := Eb.reb (fun s hs => by
    simp only [List.mem_cons, List.not_mem_nil, or_false] at hs
    rcases hs with rfl | rfl | rfl | rfl | rfl <;> exact ⟨rfl, rfl⟩) (H1 := L2.upd H1 p (.dK [])) (Ex.mut Eb.ex hFp) trivial
  have hg1 : H1 p1 = some (.lst (gs.map V.int)) := by rw [h1, dats_ints d1]
  have hg2 : H1 p2 = some (.lst (tt.map V.int)) := by rw [h2, dats_ints d2]
  refine ⟨.ref p1, e1, .ref p2, e2, ?_⟩
  refine (?_ : WPe _ { cScr (fun _ => none) H a with F0 := F3, H0 := L2.upd H1 p (.dK []) } _ _ fun r => ∃ z : Int, r = .im (.int z)) F3 _ [] [] σ rfl Ec _ fun v r F4 H4 hz E4 => ?_
  · exact wp_binop <| wp_callTy m.int PyProof.Rows.boot_int <| wpa_cons <| wp_callB m.sum PyProof.Rows.boot_sum <| wpa_cons <| wp_name 2 rfl rfl <| wpa_nil <| cd_sum rfl rfl <| wpa_nil <| cd_int <| wp_int <| od_mod (by decide) ⟨_, rfl⟩
  obtain ⟨z, rfl⟩ := hz
  have hv : v = .int z := E4.imAt (i := 0) rfl rfl
  subst hv
  have k4 : ∀ {b : Addr} {o : HO}, L2.upd H1 p (.dK []) b = some o → H4 b = some o := fun h => E4.fr _ _ h List.not_mem_nil
  refine ⟨k4 upd_same, [(.inr "great", .ref p1), (.inr "small", .ref p2), (.inr "sum", .int z), (.inr "turn", .int 0)], rfl, Nat.le_of_ble_eq_true rfl, ?_⟩
  refine q p p1 p2 _ (hnp hg1).symm (hnp hg2).symm hne12 ⟨gs, tt, z, 0, ?_, ?_, ?_, hne.1, by omega, by omega⟩ fun b o hb => by
    have h9 := Ev.env.fr b o hb List.not_mem_nil
    rw [upd_ne (hnp h9)]
    refine k4 ?_
    rw [upd_ne (hnp h9)]
    exact h9
  · rw [upd_same]
    rfl
  · rw [upd_ne (hnp hg1)]
    exact k4 (by rw [upd_ne (hnp hg1)]; exact hg1)
  · rw [upd_ne (hnp hg2)]
    exact k4 (by rw [upd_ne (hnp hg2)]; exact hg2)

theorem hand_step {c : C0} {F H H' : Hp} {σ : L2.St} {Γ : List Sl} (E : EnvR c F H σ Γ) (h : ∀ a, a ∉ c.W → H' a = H a) (hk : c.hok H') : EnvR c F H' σ Γ :=
  E.step (Gr.refl F H) (fun a o z => by
    have hw : a ∉ c.W := fun w => by rw [E.nw a w] at z; cases z
    rw [h a hw]
    exact E.ex a o z) (fun a o z w => by rw [h a w]; exact z) hk

theorem ixN0 (n : Nat) : ixN (n + 1) 0 = some 0 := by
  unfold ixN
  rw [if_pos (by omega), if_pos (by omega)]
  rfl
abbrev sDrw : Stmt := topS 33
theorem scDrw : FnScope ["hand", "many", "number", "turn", "seed"] ["hand", "many"] (defScope sDrw) := ⟨rfl, rfl, rfl, by decide +kernel, rfl, by decide +kernel, by decide +kernel⟩
theorem ok_drw (m : Mb mg) (F : Fun K "_law_draw" "_law_draw" sDrw f fd) : FnOk P w K mg base L2.CX0 (k + 1) f fd ["hand", "many"] (SpH 2 (fun rs => ∃ n : Nat, 0 < n ∧ n < 1073741824 ∧ rs = [.hand, .im (.int (n : Nat))]) fun rs r => ∃ n j : Nat, rs = [.hand, .im (.int (n : Nat))] ∧ j < n ∧ r = .im (.int (j : Nat))) := by
  refine fn_raw F scDrw (fun vs H Q E h => h.1) fun cdv A outer s H vs Q E hr h => ?_
  obtain ⟨hl, c, F1, rs, hcd, hrl, hpre, nv, e1, e2, E1, q⟩ := h
  obtain ⟨n, h0, hn, rfl⟩ := hpre
  have nd := scDrw.nd
  have hu := hu1 hr
  obtain ⟨q1, q2, hW, n1, n2, n3, hH⟩ := hcd
  obtain ⟨v0, v1, rfl⟩ : ∃ v0 v1, vs = [v0, v1] := by
    cases vs with
    | nil => cases hl
    | cons v0 vs =>
      cases vs with
      | nil => cases hl
      | cons v1 vs =>
        cases vs with
        | nil => exact ⟨v0, v1, rfl⟩
        | cons _ _ => simp at hl
  have ev0 : v0 = .ref c.hp := by simpa using E1.hand (i := 0) rfl
  have ev1 : v1 = .int (n : Nat) := E1.imAt (i := 1) rfl rfl
  subst ev0 ev1
  have fin : ∀ (H' : Hp) (j : Int), 0 ≤ j → j < (n : Nat) → (∀ a, a ∉ c.W → H' a = H a) → HandAt c.hp q1 q2 H' → Q (.int j) H' := fun H' j hj1 hj2 hs hh => by
    obtain ⟨j', rfl⟩ := Int.eq_ofNat_of_zero_le hj1
    exact q (.int j') (.im (.int j')) F1 H' ⟨n, j', rfl, by omega, rfl⟩ ((hand_step E1 hs ((hH _).mpr hh)).push (d := .int j') rfl).only
  obtain ⟨gs, ss, su, tu, g1, g2, g3, g4, g5, g6⟩ := (hH H).mp E1.hk
  have hp1 : c.hp ∈ c.W := by rw [hW]; simp
  have hq1 : q1 ∈ c.W := by rw [hW]; simp
  have hq2 : q2 ∈ c.W := by rw [hW]; simp
  clear q E1
  generalize c.hp = p at *
  refine wss_of (pss_cons (ps_if (pt_cmp (pc_gt (pe_callB call_len_seq (by rfl) m.len PySem.boot_len (pa_cons (pe_dget hu (pe_var (i := 0) rfl (Or.inl rfl)) pe_str (fun _ _ => rfl)) pa_nil)) pe_int)) pss_wss pss_wss) pss_wss) ?_
  refine ⟨.ref p, rfl, p, .ref q1, rfl, .inl ⟨_, .inr "great", .inl g1, rfl, rfl⟩, q1, gs.map V.int, rfl, .inl (.inl (.inl g2)), ((gs.map V.int).length : Nat), 0, rfl, rfl, ⟨_, rfl, ?_⟩⟩
  cases gs with
  | cons g gs =>
    show if decide ((0 : Int) < (((g :: gs).map V.int).length : Nat)) = true then _ else _
    rw [if_pos (decide_eq_true (by rw [List.length_map, List.length_cons]; omega))]
    refine wss_of (pss_cons (ps_set (i := 2) nd rfl (Or.inl rfl) (pe_ix ix_list (pe_dget hu (pe_var (i := 0) rfl (Or.inl rfl)) pe_str (fun _ _ => rfl)) pe_int (fun _ _ => rfl)) (by rfl) (.inr rfl)) pss_wss) ?_
    refine ⟨.ref p, rfl, p, .ref q1, rfl, .inl ⟨_, .inr "great", .inl g1, rfl, rfl⟩, q1, (g :: gs).map V.int, 0, .int g, rfl, rfl, .inl (.inl g2), atI_nat (j := 0) (xs := (g :: gs).map V.int) (v := .int g) rfl, ?_⟩
    refine wss_of (pss_cons (ps_asg (pe_op op_fdiv (pe_var (i := 2) rfl (Or.inl rfl)) (pe_var (i := 1) rfl (Or.inl rfl))) (pg_sub (pe_dget hu (pe_var (i := 0) rfl (Or.inl rfl)) pe_str (fun _ _ => rfl)) pe_int set_list (by intro _; rfl)) (by rfl) (by rfl) (by rfl)) pss_wss) ?_
    refine ⟨.int g, rfl, .int (n : Nat), rfl, g, (n : Nat), rfl, rfl, ⟨by omega, by omega⟩, .ref p, rfl, p, .ref q1, rfl, .inl ⟨_, .inr "great", .inl g1, rfl, rfl⟩, q1, (g :: gs).map V.int, 0, 0, rfl, rfl, g2, by rw [List.length_map, List.length_cons]; exact ixN0 _, ?_⟩
    have ez : ((g :: gs).map V.int).set 0 (.int (g / (n : Nat))) = ((g / (n : Nat) : Int) :: gs).map V.int := rfl
    rw [ez]
    have u1 : ∀ o : HO, L2.upd H q1 o p = H p := fun o => upd_ne n1
    have u2 : ∀ o : HO, L2.upd H q1 o q2 = H q2 := fun o => upd_ne n3.symm
    have u3 : ∀ (o : HO) (a : Addr), a ∉ c.W → L2.upd H q1 o a = H a := fun o a ha => upd_ne fun e => ha (e ▸ hq1)
    refine wss_of (pss_cons (ps_if (pt_cmp (pc_lt (pe_var (i := 2) rfl (Or.inl rfl)) (pe_var (i := 1) rfl (Or.inl rfl)))) (pss_cons (ps_expr (pe_bm PySem.F.plainAttrs_list PySem.F.slot_list_pop PySem.F.type_list_pop mt_popAt (pe_dget hu (pe_var (i := 0) rfl (Or.inl rfl)) pe_str (fun _ _ => rfl)) (pa_cons pe_int pa_nil (by rfl)) (by rfl) (by rfl) (by rfl) (by rfl) (by rfl)) (by rfl)) pss_nil) pss_nil) (pss_cons (ps_ret (pe_op op_mod (pe_callTy call_int1 (by rfl) m.int PyProof.Rows.boot_int (pa_cons (pe_var (i := 2) rfl (Or.inl rfl)) pa_nil)) (pe_var (i := 1) rfl (Or.inl rfl)))) pss_nil)) ?_
    refine ⟨.int g, rfl, .int (n : Nat), rfl, g, (n : Nat), rfl, rfl, ⟨_, rfl, ?_⟩⟩
    have lst : ∀ (H' : Hp) (zs : List Int), zs.length ≤ 100 → (∀ a, a ∉ c.W → H' a = H a) → H' p = H p → H' q1 = some (.lst (zs.map V.int)) → H' q2 = H q2 → Q (.int (g % (n : Nat))) H' := fun H' zs hz hs r1 r2 r3 =>
      fin H' _ (Int.emod_nonneg _ (by omega)) (Int.emod_lt_of_pos _ (by omega)) hs ⟨zs, ss, su, tu, by rw [r1]; exact g1, r2, by rw [r3]; exact g3, g4, hz, g6⟩
    show if decide (g < (n : Nat)) = true then _ else _
    by_cases hg : g < (n : Nat)
    · rw [if_pos (decide_eq_true hg)]
      refine ⟨.ref p, rfl, p, .ref q1, rfl, .inl ⟨_, .inr "great", .inl (by rw [u1]; exact g1), rfl, rfl⟩, .inl ⟨rfl, _, .inl (.inl upd_same)⟩, ?_⟩
      refine ⟨q1, ((g / (n : Nat) : Int) :: gs).map V.int, 0, 0, .int (g / (n : Nat)), rfl, rfl, upd_same, by decide, by decide, (ixN_seq (by rw [List.length_map, List.length_cons]; exact ixN0 _)).1, rfl, ?_⟩
      refine ⟨.int g, rfl, .inl ⟨g, rfl, .int (n : Nat), rfl, g, (n : Nat), rfl, rfl, by omega, ?_⟩⟩
      refine lst _ gs (by rw [List.length_cons] at g5; omega) (fun a ha => ?_) ?_ upd_same ?_
      · rw [upd_ne (show a ≠ q1 from fun e => ha (by rw [e]; exact hq1))]
        exact u3 _ a ha
      · rw [upd_ne n1]
        exact u1 _
      · rw [upd_ne n3.symm]
        exact u2 _
    · rw [if_neg (by rw [decide_eq_false hg]; decide)]
      refine ⟨.int g, rfl, .inl ⟨g, rfl, .int (n : Nat), rfl, g, (n : Nat), rfl, rfl, by omega, ?_⟩⟩
      exact lst _ ((g / (n : Nat)) :: gs) g5 (u3 _) (u1 _) upd_same (u2 _)
  | nil =>
    show if decide ((0 : Int) < (((([] : List Int)).map V.int).length : Nat)) = true then _ else _
    rw [if_neg (by decide)]
    refine wss_of pss_nil ?_
    have hl2 : 0 < ss.length := List.length_pos_iff.mpr g4
    refine wss_of (pss_cons (ps_set (i := 3) nd rfl (Or.inl rfl) (pe_op op_add (pe_dget hu (pe_var (i := 0) rfl (Or.inl rfl)) pe_str (fun _ _ => rfl)) pe_int) (by rfl) (.inr rfl)) pss_wss) ?_
    refine ⟨.ref p, rfl, p, .int tu, rfl, .inl ⟨_, .inr "turn", .inl g1, rfl, rfl⟩, tu, 1, rfl, rfl, ?_⟩
    refine wss_of (pss_cons (ps_dput hu (pe_var (i := 0) rfl (Or.inl rfl)) pe_str (pe_var (i := 3) rfl (Or.inl rfl)) (by rfl)) pss_wss) ?_
    refine ⟨.int (tu + 1), rfl, .ref p, rfl, p, _, rfl, .inl ⟨_, .inr "turn", g1, rfl, Nat.lt_of_le_of_lt (show _ ≤ 4 from Nat.le_refl _) (by decide), rfl⟩, ?_⟩
    have ez : putK [((.inr "great" : Key), V.ref q1), (.inr "small", .ref q2), (.inr "sum", .int su), (.inr "turn", .int tu)] (.inr "turn") (.int (tu + 1)) = [(.inr "great", .ref q1), (.inr "small", .ref q2), (.inr "sum", .int su), (.inr "turn", .int (tu + 1))] := rfl
    rw [ez]
    have r0 : L2.upd H p (.dK [(.inr "great", .ref q1), (.inr "small", .ref q2), (.inr "sum", .int su), (.inr "turn", .int (tu + 1))]) p = some (.dK [(.inr "great", .ref q1), (.inr "small", .ref q2), (.inr "sum", .int su), (.inr "turn", .int (tu + 1))]) := upd_same
    have r1 : L2.upd H p (.dK [(.inr "great", .ref q1), (.inr "small", .ref q2), (.inr "sum", .int su), (.inr "turn", .int (tu + 1))]) q1 = some (.lst (([] : List Int).map V.int)) := by rw [upd_ne n1.symm]; exact g2
    have r2 : L2.upd H p (.dK [(.inr "great", .ref q1), (.inr "small", .ref q2), (.inr "sum", .int su), (.inr "turn", .int (tu + 1))]) q2 = some (.lst (ss.map V.int)) := by rw [upd_ne n2.symm]; exact g3
    have r3 : ∀ a, a ∉ c.W → L2.upd H p (.dK [(.inr "great", .ref q1), (.inr "small", .ref q2), (.inr "sum", .int su), (.inr "turn", .int (tu + 1))]) a = H a := fun a ha => upd_ne (show a ≠ p from fun e => ha (by rw [e]; exact hp1))
    generalize L2.upd H p (.dK [(.inr "great", .ref q1), (.inr "small", .ref q2), (.inr "sum", .int su), (.inr "turn", .int (tu + 1))]) = H2 at *
    have hmod : 0 ≤ (tu + 1) % ((ss.length : Nat) : Int) ∧ (tu + 1) % ((ss.length : Nat) : Int) < (ss.length : Nat) := ⟨Int.emod_nonneg _ (by omega), Int.emod_lt_of_pos _ (by omega)⟩
    obtain ⟨jj, hjj⟩ := Int.eq_ofNat_of_zero_le hmod.1
    have hjl : jj < ss.length := by have := hmod.2; rw [hjj] at this; exact Int.ofNat_lt.mp this
    refine wss_of (pss_cons (ps_set (i := 4) nd rfl (Or.inl rfl) (pe_op op_add (pe_ix ix_list (pe_dget hu (pe_var (i := 0) rfl (Or.inl rfl)) pe_str (fun _ _ => rfl)) (pe_op op_mod (pe_callTy call_int1 (by rfl) m.int PyProof.Rows.boot_int (pa_cons (pe_var (i := 3) rfl (Or.inl rfl)) pa_nil)) (pe_callB call_len_seq (by rfl) m.len PySem.boot_len (pa_cons (pe_dget hu (pe_var (i := 0) rfl (Or.inl rfl)) pe_str (fun _ _ => rfl)) pa_nil))) (fun _ _ => rfl)) (pe_op op_mul pe_int (pe_dget hu (pe_var (i := 0) rfl (Or.inl rfl)) pe_str (fun _ _ => rfl)))) (by rfl) (.inr rfl)) pss_wss) ?_
    refine ⟨.ref p, rfl, p, .ref q2, rfl, .inl ⟨_, .inr "small", .inl r0, rfl, rfl⟩, .int (tu + 1), rfl, .inl ⟨tu + 1, rfl, .ref p, rfl, p, .ref q2, rfl, .inl ⟨_, .inr "small", .inl r0, rfl, rfl⟩, q2, ss.map V.int, rfl, .inl (.inl (.inl r2)), tu + 1, _, rfl, rfl, ?_, ?_⟩⟩
    · rw [List.length_map]
      exact Int.ofNat_lt.mpr hl2
    refine ⟨q2, ss.map V.int, _, .int ss[jj], rfl, rfl, .inl (.inl r2), ?_, .ref p, rfl, p, .int su, rfl, .inl ⟨_, .inr "sum", .inl r0, rfl, rfl⟩, 31, su, rfl, rfl, .inl (by decide), ss[jj], 31 * su, rfl, rfl, ?_⟩
    · rw [List.length_map, hjj]
      exact atI_nat (by simp [hjl])
    refine wss_of (pss_cons (ps_set (i := 2) nd rfl (Or.inl rfl) (pe_op op_mod (pe_callTy call_int1 (by rfl) m.int PyProof.Rows.boot_int (pa_cons (pe_op op_mul (pe_op op_add (pe_op op_add (pe_var (i := 4) rfl (Or.inl rfl)) (pe_op op_mul pe_int (pe_var (i := 3) rfl (Or.inl rfl)))) pe_int) pe_int) pa_nil)) pe_int) (by rfl) (.inr rfl)) pss_wss) ?_
    refine ⟨.int (ss[jj] + 31 * su), rfl, .int (tu + 1), rfl, 104729, (tu + 1), rfl, rfl, .inl (by decide), (ss[jj] + 31 * su), 104729 * (tu + 1), rfl, rfl, (ss[jj] + 31 * su) + 104729 * (tu + 1), 3, rfl, rfl, (ss[jj] + 31 * su) + 104729 * (tu + 1) + 3, 48271, rfl, rfl, .inr (by decide), .inl ⟨_, rfl, _, 2147483647, rfl, rfl, (show (0 : Int) < 2147483647 by decide), ?_⟩⟩
    have hx1 := Int.emod_nonneg (((ss[jj] + 31 * su) + 104729 * (tu + 1) + 3) * 48271) (show (2147483647 : Int) ≠ 0 by decide)
    have hx2 := Int.emod_lt_of_pos (((ss[jj] + 31 * su) + 104729 * (tu + 1) + 3) * 48271) (show (0 : Int) < 2147483647 by decide)
    show WSs _ _ _ [some (.ref p), some (.int (n : Nat)), some (.int ((((ss[jj] + 31 * su) + 104729 * (tu + 1) + 3) * 48271) % 2147483647)), some (.int (tu + 1)), some (.int (ss[jj] + 31 * su))] H2
    generalize (((ss[jj] + 31 * su) + 104729 * (tu + 1) + 3) * 48271) % 2147483647 = x at *
    refine wss_of (pss_cons (ps_set (i := 2) nd rfl (Or.inl rfl) (pe_op op_mod (pe_callTy call_int1 (by rfl) m.int PyProof.Rows.boot_int (pa_cons (pe_op op_mul (pe_var (i := 2) rfl (Or.inl rfl)) (pe_op op_add (pe_op op_fdiv (pe_var (i := 2) rfl (Or.inl rfl)) pe_int) pe_int)) pa_nil)) pe_int) (by rfl) (.inr rfl)) pss_wss) ?_
    refine ⟨.int x, rfl, .int x, rfl, x, 1009, rfl, rfl, ⟨(show (0 : Int) < 1009 by decide), (show (1009 : Int) < 1073741824 by decide)⟩, x / 1009, 69621, rfl, rfl, x, x / 1009 + 69621, rfl, rfl, .inl ⟨by omega, by omega⟩, .inl ⟨_, rfl, _, 2147483629, rfl, rfl, (show (0 : Int) < 2147483629 by decide), ?_⟩⟩
    have hy1 := Int.emod_nonneg (x * (x / 1009 + 69621)) (show (2147483629 : Int) ≠ 0 by decide)
    have hy2 := Int.emod_lt_of_pos (x * (x / 1009 + 69621)) (show (0 : Int) < 2147483629 by decide)
    show WSs _ _ _ [some (.ref p), some (.int (n : Nat)), some (.int ((x * (x / 1009 + 69621)) % 2147483629)), some (.int (tu + 1)), some (.int (ss[jj] + 31 * su))] H2
    generalize (x * (x / 1009 + 69621)) % 2147483629 = y at *
    refine wss_of (pss_cons (ps_set (i := 2) nd rfl (Or.inl rfl) (pe_op op_mod (pe_callTy call_int1 (by rfl) m.int PyProof.Rows.boot_int (pa_cons (pe_op op_add (pe_op op_mul (pe_var (i := 2) rfl (Or.inl rfl)) (pe_op op_add (pe_op op_fdiv (pe_var (i := 2) rfl (Or.inl rfl)) pe_int) pe_int)) (pe_var (i := 3) rfl (Or.inl rfl))) pa_nil)) pe_int) (by rfl) (.inr rfl)) pss_wss) ?_
    refine ⟨.int y, rfl, .int y, rfl, y, 2003, rfl, rfl, ⟨(show (0 : Int) < 2003 by decide), (show (2003 : Int) < 1073741824 by decide)⟩, y / 2003, 40692, rfl, rfl, y, y / 2003 + 40692, rfl, rfl, .inl ⟨by omega, by omega⟩, .int (tu + 1), rfl, _, (tu + 1), rfl, rfl, .inl ⟨_, rfl, _, 2147483399, rfl, rfl, (show (0 : Int) < 2147483399 by decide), ?_⟩⟩
    show WSs _ _ _ [some (.ref p), some (.int (n : Nat)), some (.int ((y * (y / 2003 + 40692) + (tu + 1)) % 2147483399)), some (.int (tu + 1)), some (.int (ss[jj] + 31 * su))] H2
    generalize (y * (y / 2003 + 40692) + (tu + 1)) % 2147483399 = z at *
    refine wss_of (pss_cons (ps_ret (pe_op op_mod (pe_callTy call_int1 (by rfl) m.int PyProof.Rows.boot_int (pa_cons (pe_op op_fdiv (pe_var (i := 2) rfl (Or.inl rfl)) pe_int) pa_nil)) (pe_var (i := 1) rfl (Or.inl rfl)))) pss_nil) ?_
    refine ⟨.int z, rfl, z, 64, rfl, rfl, ⟨(show (0 : Int) < 64 by decide), (show (64 : Int) < 1073741824 by decide)⟩, .inl ⟨_, rfl, .int (n : Nat), rfl, _, (n : Nat), rfl, rfl, by omega, ?_⟩⟩
    exact fin H2 _ (Int.emod_nonneg _ (by omega)) (Int.emod_lt_of_pos _ (by omega)) r3 ⟨[], ss, su, (tu + 1), r0, r1, r2, g4, by decide, g6⟩
/-- the draw's promise, the hand beside other things -/
theorem pr_drw {R : Rn} {k : Nat} (m : Mb R.mg) (d : Df R.K R.mg "_law_draw" sDrw ["hand", "many"]) : Pr false HandC R (k + 1) "_law_draw" 2 (fun n : Nat => 0 < n ∧ n < 1073741824) (fun n => [.hand, .im (.int (n : Nat))]) fun n r => ∃ j : Nat, j < n ∧ r = .im (.int (j : Nat)) := by
  obtain ⟨f, fd, F, hm, hbd⟩ := d.ex
  refine pr_hand (ok_drw (k := k) m F) rfl hm F.kp hbd (fun n _ => ⟨rfl, rfl⟩) fun n hn => ⟨⟨n, hn.1, hn.2, rfl⟩, fun r hr => ?_⟩
  obtain ⟨n', j, e, hj, rfl⟩ := hr
  have e2 : (n : Int) = (n' : Int) := by
    have := congrArg (fun l : List Sl => l.getD 1 .any) e
    exact D.int.inj (Sl.im.inj this)
  exact ⟨rfl, j, by omega, rfl⟩
end
end K85

set_option Elab.async false
set_option linter.all false
set_option pp.maxSteps 300
set_option maxRecDepth 100000
set_option maxHeartbeats 2000000
/-! A3: k85: the plain mathematics -/
namespace K85
open PySem PySem.Spec PyProof.Rows L2 DL
/-- the module's constants -/
structure Mc (mg : Str → Option Value) : Prop extends Mb mg where
  first : ∃ t, mg "FIRST" = some (.int 7 t)
  times : ∃ t, mg "TIMES" = some (.int 131 t)
  below : ∃ t, mg "BELOW" = some (.int 2305843009213693951 t)
  most : ∃ t, mg "MOST_ENTRIES" = some (.int 256 t)
/-- all defs, as they stand behind the top -/
structure Ds (R : Rn) : Prop where
  dIsInteger : Df R.K R.mg "is_integer" sIsInteger ["thing"]
  dIsWithin : Df R.K R.mg "is_within" sIsWithin ["thing", "least", "most"]
  dDigest : Df R.K R.mg "digest" sDigest ["text"]
  dAreEntries : Df R.K R.mg "are_entries" sAreEntries ["thing"]
  dCheckEntries : Df R.K R.mg "check_entries" sCheckEntries ["thing"]
  dLeafText : Df R.K R.mg "leaf_text" sLeafText ["text"]
  dNodeText : Df R.K R.mg "node_text" sNodeText ["one", "other"]
  dLeftPart : Df R.K R.mg "left_part" sLeftPart ["many"]
  dRootOf : Df R.K R.mg "root_of" sRootOf ["entries"]
  dLogRoot : Df R.K R.mg "log_root" sLogRoot ["entries"]
  dPathOf : Df R.K R.mg "path_of" sPathOf ["entries", "place"]
  dCheckPlace : Df R.K R.mg "check_place" sCheckPlace ["entries", "place"]
  dProofIn : Df R.K R.mg "proof_in" sProofIn ["entries", "place"]
  dTurnsOf : Df R.K R.mg "turns_of" sTurnsOf ["many", "place"]
  dIsProof : Df R.K R.mg "is_proof" sIsProof ["thing"]
  dTextsUp : Df R.K R.mg "texts_up" sTextsUp ["many", "place", "text", "proof"]
  dIsIn : Df R.K R.mg "is_in" sIsIn ["root", "many", "place", "text", "thing"]
  dClashOf : Df R.K R.mg "clash_of" sClashOf ["entries", "place", "text", "proof"]
  dIsClash : Df R.K R.mg "is_clash" sIsClash ["thing"]
  dHnd : Df R.K R.mg "_law_hand" sHnd ["script"]
  dDrw : Df R.K R.mg "_law_draw" sDrw ["hand", "many"]
  dLAny : Df R.K R.mg "_law_any" sLAny ["hand", "things"]
  dLIsInt : Df R.K R.mg "_law_is_int" sLIsInt ["thing"]
  dLDigest : Df R.K R.mg "_law_digest" sLDigest ["text"]
  dLNode : Df R.K R.mg "_law_node" sLNode ["one", "other"]
  dLCut : Df R.K R.mg "_law_cut" sLCut ["many"]
  dLRoot : Df R.K R.mg "_law_root" sLRoot ["entries"]
  dLTexts : Df R.K R.mg "_law_texts" sLTexts ["hand", "most"]
  dLProof : Df R.K R.mg "_law_proof" sLProof ["entries", "place"]
  dLUp : Df R.K R.mg "_law_up" sLUp ["many", "place", "here", "proof"]
  dLIsIn : Df R.K R.mg "_law_is_in" sLIsIn ["root", "many", "place", "text", "thing"]
  dLBent : Df R.K R.mg "_law_bent" sLBent ["hand", "proof"]
  dLAreLike : Df R.K R.mg "_law_are_like" sLAreLike ["hand"]
  dLIsClash : Df R.K R.mg "_law_is_clash" sLIsClash ["thing"]
  dLTold : Df R.K R.mg "_law_told" sLTold ["call"]
  dLPlaceRight : Df R.K R.mg "_law_place_right" sLPlaceRight ["hand", "entries"]
  dLClashRight : Df R.K R.mg "_law_clash_right" sLClashRight ["hand", "entries"]
/-! ### digests -/
def stp (f : Int) (c : Nat) : Int := (f * 131 + (c : Int)) % 2305843009213693951
def dgF (f : Int) (s : Str) : Int := s.cps.toList.foldl stp f
def dg (s : Str) : Int := dgF 7 s
def B61 (i : Int) : Prop := 0 ≤ i ∧ i < 2305843009213693951
theorem stp_b (f : Int) (c : Nat) : B61 (stp f c) := ⟨Int.emod_nonneg _ (by decide), Int.emod_lt_of_pos _ (by decide)⟩
theorem fold_b : ∀ (l : List Nat) (f : Int), B61 f → B61 (l.foldl stp f)
  | [], f, h => h
  | c :: l, f, h => fold_b l _ (stp_b f c)
theorem dg_b (s : Str) : B61 (dg s) := fold_b _ _ ⟨by decide, by decide⟩
theorem take_foldl {s : Str} {i : Nat} (h : i < s.length) : (s.cps.toList.take (i + 1)).foldl stp 7 = stp ((s.cps.toList.take i).foldl stp 7) (s.cps.getD i 0) := by
  have hl : i < s.cps.toList.length := by simpa [Str.length] using h
  rw [List.take_succ_eq_append_getElem hl, List.foldl_append]
  have e : s.cps.getD i 0 = s.cps.toList[i] := by
    simp [Array.getD_eq_getD_getElem?, Str.length] at h ⊢
    simp [h]
  rw [e]
  rfl
/-! ### texts of leaves and nodes -/
abbrev leafT (s : Str) : Str := ("leaf " : Str) ++ s
def iT (i : Int) : Str := ((toString i : String) : Str)
abbrev nodeT (a b : Int) : Str := ("node " : Str) ++ iT a ++ (" " : Str) ++ iT b
/-- numbers of a proof -/
def BI (i : Int) : Prop := 0 ≤ i ∧ i < 100000000000000000000
theorem B61.bi {i : Int} (h : B61 i) : BI i := ⟨h.1, by have := h.2; omega⟩
theorem iT_len {i : Int} (h : BI i) : (iT i).length ≤ 20 := by
  obtain ⟨n, rfl⟩ := Int.eq_ofNat_of_zero_le h.1
  exact str_nat_len (by decide) (by have := h.2; omega)
theorem BI.log {i : Int} (h : BI i) : i.natAbs.log2 < 1920 := int_log h.1 (by have := h.2; omega)
theorem iT_dig {i : Int} (h : 0 ≤ i) : ∃ n : Nat, i = n ∧ (iT i).cps.toList = (Nat.toDigits 10 n).map Char.toNat := by
  obtain ⟨n, rfl⟩ := Int.eq_ofNat_of_zero_le h
  exact ⟨n, rfl, str_nat n⟩
theorem no_blank (n : Nat) : (32 : Nat) ∉ (Nat.toDigits 10 n).map Char.toNat := by
  intro h
  obtain ⟨c, hc, e⟩ := List.mem_map.mp h
  have hd := Nat.isDigit_of_mem_toDigits (by decide) (by decide) hc
  have e2 : c = ' ' := Char.toNat_inj.mp e
  rw [e2] at hd
  exact absurd hd (by decide)
theorem dig_inj {m n : Nat} (h : (Nat.toDigits 10 m).map Char.toNat = (Nat.toDigits 10 n).map Char.toNat) : m = n := by
  have h2 : Nat.toDigits 10 m = Nat.toDigits 10 n := (List.map_inj_right (fun a b e => Char.toNat_inj.mp e)).mp h
  have := congrArg (fun l => Nat.ofDigitChars 10 l 0) h2
  simpa [Nat.ofDigitChars_toDigits] using this
theorem split_blank {a b c d : List Nat} (ha : 32 ∉ a) (hc : 32 ∉ c) (h : a ++ 32 :: b = c ++ 32 :: d) : a = c ∧ b = d := by
  induction a generalizing c with
  | nil =>
    cases c with
    | nil => exact ⟨rfl, by simpa using h⟩
    | cons x c =>
      have : x = 32 := by simpa using (List.cons.inj h).1.symm
      exact absurd (by rw [this]; exact List.mem_cons_self ..) hc
  | cons x a ih =>
    cases c with
    | nil =>
      have : x = 32 := (List.cons.inj h).1
      exact absurd (by rw [this]; exact List.mem_cons_self ..) ha
    | cons y c =>
      obtain ⟨e1, e2⟩ := List.cons.inj h
      obtain ⟨e3, e4⟩ := ih (fun z => ha (List.mem_cons_of_mem _ z)) (fun z => hc (List.mem_cons_of_mem _ z)) e2
      exact ⟨by rw [e1, e3], e4⟩
theorem node_inj {a b c d : Int} (ha : 0 ≤ a) (hb : 0 ≤ b) (hc : 0 ≤ c) (hd : 0 ≤ d) (h : nodeT a b = nodeT c d) : a = c ∧ b = d := by
  have h1 := congrArg (fun s : Str => s.cps.toList) h
  simp only [nodeT, app_toList] at h1
  rw [List.append_assoc, List.append_assoc, List.append_assoc, List.append_assoc, List.append_cancel_left_eq] at h1
  have hs : (" " : Str).cps.toList = [32] := by decide +kernel
  rw [hs] at h1
  obtain ⟨na, rfl, ea⟩ := iT_dig ha
  obtain ⟨nb, rfl, eb⟩ := iT_dig hb
  obtain ⟨nc, rfl, ec⟩ := iT_dig hc
  obtain ⟨nd, rfl, ed⟩ := iT_dig hd
  rw [ea, eb, ec, ed] at h1
  obtain ⟨e1, e2⟩ := split_blank (no_blank na) (no_blank nc) (by simpa using h1)
  rw [dig_inj e1, dig_inj e2]
  exact ⟨rfl, rfl⟩
theorem leaf_inj {a b : Str} (h : leafT a = leafT b) : a = b := by
  have h1 := congrArg (fun s : Str => s.cps.toList) h
  simp only [leafT, app_toList] at h1
  exact str_ext (List.append_cancel_left h1)
/-! ### parts -/
def lpF : Nat → Nat → Nat → Nat
  | 0, _, f => f
  | u + 1, n, f => if 2 * f < n then lpF u n (2 * f) else f
def lp (n : Nat) : Nat := lpF n n 1
theorem lpF_ok : ∀ (u n f : Nat), 1 ≤ f → f < n → n ≤ u + f → 1 ≤ lpF u n f ∧ lpF u n f < n ∧ n ≤ 2 * lpF u n f ∧ ∀ j, f = 2 ^ j → ∃ i, lpF u n f = 2 ^ i
  | 0, n, f, h1, h2, h3 => by omega
  | u + 1, n, f, h1, h2, h3 => by
    unfold lpF
    by_cases h : 2 * f < n
    · rw [if_pos h]
      obtain ⟨g1, g2, g3, g4⟩ := lpF_ok u n (2 * f) (by omega) h (by omega)
      exact ⟨g1, g2, g3, fun j e => g4 (j + 1) (by rw [e, Nat.pow_succ]; omega)⟩
    · rw [if_neg h]
      exact ⟨h1, h2, by omega, fun j e => ⟨j, e⟩⟩
theorem lp_ok {n : Nat} (h : 2 ≤ n) : 1 ≤ lp n ∧ lp n < n ∧ n ≤ 2 * lp n ∧ ∃ i, lp n = 2 ^ i := by
  obtain ⟨g1, g2, g3, g4⟩ := lpF_ok n n 1 (by decide) (by omega) (by omega)
  exact ⟨g1, g2, g3, g4 0 rfl⟩
theorem lp_pow {n d : Nat} (h : 2 ≤ n) (hd : n ≤ 2 ^ (d + 1)) : lp n ≤ 2 ^ d ∧ n - lp n ≤ 2 ^ d := by
  obtain ⟨g1, g2, g3, i, g4⟩ := lp_ok h
  have : lp n ≤ 2 ^ d := by
    rw [g4] at g2 ⊢
    have h2 : 2 ^ i < 2 ^ (d + 1) := by omega
    have := (Nat.pow_lt_pow_iff_right (by decide : 1 < 2)).mp h2
    exact Nat.pow_le_pow_right (by decide) (by omega)
  exact ⟨this, by omega⟩
/-! ### roots, paths -/
def root (l : List Str) : Int :=
  if h : l.length < 2 then dg (if l.length = 1 then leafT (l.headD "") else "empty")
  else dg (nodeT (root (l.take (lp l.length))) (root (l.drop (lp l.length))))
termination_by l.length
decreasing_by
  · have := lp_ok (n := l.length) (by omega)
    rw [List.length_take]
    omega
  · have := lp_ok (n := l.length) (by omega)
    rw [List.length_drop]
    omega
theorem root_b (l : List Str) : B61 (root l) := by
  rw [root]
  split <;> exact dg_b _
theorem root_0 : root [] = dg "empty" := by
  rw [root]
  rfl
theorem root_1 (s : Str) : root [s] = dg (leafT s) := by
  rw [root]
  rfl
theorem root_2 {l : List Str} (h : 2 ≤ l.length) : root l = dg (nodeT (root (l.take (lp l.length))) (root (l.drop (lp l.length)))) := by
  rw [root, dif_neg (by omega)]
def path (l : List Str) (p : Nat) : List Int :=
  if h : l.length < 2 then []
  else if p < lp l.length then path (l.take (lp l.length)) p ++ [root (l.drop (lp l.length))] else path (l.drop (lp l.length)) (p - lp l.length) ++ [root (l.take (lp l.length))]
termination_by l.length
decreasing_by
  · have := lp_ok (n := l.length) (by omega)
    rw [List.length_take]
    omega
  · have := lp_ok (n := l.length) (by omega)
    rw [List.length_drop]
    omega
def turns (n p : Nat) : List Bool :=
  if h : n < 2 then []
  else if p < lp n then turns (lp n) p ++ [true] else turns (n - lp n) (p - lp n) ++ [false]
termination_by n
decreasing_by
  · have := lp_ok (n := n) (by omega)
    omega
  · have := lp_ok (n := n) (by omega)
    omega
theorem turns_1 {n p : Nat} (h : n < 2) : turns n p = [] := by rw [turns, dif_pos h]
theorem turns_2 {n p : Nat} (h : 2 ≤ n) : turns n p = if p < lp n then turns (lp n) p ++ [true] else turns (n - lp n) (p - lp n) ++ [false] := by rw [turns, dif_neg (by omega)]
theorem path_1 {l : List Str} {p : Nat} (h : l.length < 2) : path l p = [] := by rw [path, dif_pos h]
theorem path_2 {l : List Str} {p : Nat} (h : 2 ≤ l.length) : path l p = if p < lp l.length then path (l.take (lp l.length)) p ++ [root (l.drop (lp l.length))] else path (l.drop (lp l.length)) (p - lp l.length) ++ [root (l.take (lp l.length))] := by rw [path, dif_neg (by omega)]
theorem turns_len : ∀ (d n p : Nat), n ≤ 2 ^ d → (turns n p).length ≤ d
  | 0, n, p, h => by
    rw [turns_1 (by simpa using Nat.lt_succ_of_le h)]
    exact Nat.le_refl 0
  | d + 1, n, p, h => by
    by_cases h2 : n < 2
    · rw [turns_1 h2]
      exact Nat.zero_le _
    · obtain ⟨g1, g2⟩ := lp_pow (n := n) (by omega) h
      rw [turns_2 (by omega)]
      split
      · rw [List.length_append, List.length_singleton]
        have := turns_len d (lp n) p g1
        omega
      · rw [List.length_append, List.length_singleton]
        have := turns_len d (n - lp n) (p - lp n) g2
        omega
theorem path_b : ∀ (m : Nat) (l : List Str) (p : Nat), l.length ≤ m → ∀ x ∈ path l p, B61 x
  | m, l, p, hm, x, hx => by
    by_cases h2 : l.length < 2
    · rw [path_1 h2] at hx
      cases hx
    · obtain ⟨g1, g2, g3, _⟩ := lp_ok (n := l.length) (by omega)
      rw [path_2 (by omega)] at hx
      cases m with
      | zero => omega
      | succ m =>
        split at hx
        · rcases List.mem_append.mp hx with z | z
          · exact path_b m _ _ (by rw [List.length_take]; omega) x z
          · rw [List.mem_singleton.mp z]
            exact root_b _
        · rcases List.mem_append.mp hx with z | z
          · exact path_b m _ _ (by rw [List.length_drop]; omega) x z
          · rw [List.mem_singleton.mp z]
            exact root_b _
theorem path_len : ∀ (m : Nat) (l : List Str) (p : Nat), l.length ≤ m → (path l p).length = (turns l.length p).length
  | m, l, p, hm => by
    by_cases h2 : l.length < 2
    · rw [path_1 h2, turns_1 h2]
      rfl
    · obtain ⟨g1, g2, g3, _⟩ := lp_ok (n := l.length) (by omega)
      rw [path_2 (by omega), turns_2 (by omega)]
      cases m with
      | zero => omega
      | succ m =>
        split
        · rw [List.length_append, List.length_append, path_len m _ _ (by rw [List.length_take]; omega), List.length_take, Nat.min_eq_left (by omega)]
          rfl
        · rw [List.length_append, List.length_append, path_len m _ _ (by rw [List.length_drop]; omega), List.length_drop]
          rfl
/-! ### the texts up -/
def nd (b : Bool) (h x : Int) : Str := if b then nodeT h x else nodeT x h
def txStep (st : List Str × Int) (bx : Bool × Int) : List Str × Int := (st.1 ++ [nd bx.1 st.2 bx.2], dg (nd bx.1 st.2 bx.2))
def txA (t : Str) (l : List (Bool × Int)) : List Str × Int := l.foldl txStep ([leafT t], dg (leafT t))
def txs (t : Str) (l : List (Bool × Int)) : List Str := (txA t l).1
theorem txA_snoc (t : Str) (l : List (Bool × Int)) (b : Bool) (x : Int) : txA t (l ++ [(b, x)]) = ((txA t l).1 ++ [nd b (txA t l).2 x], dg (nd b (txA t l).2 x)) := by
  unfold txA
  rw [List.foldl_append]
  rfl
theorem txA_snd_b (t : Str) (l : List (Bool × Int)) : B61 (txA t l).2 := by
  rcases List.eq_nil_or_concat l with rfl | ⟨m, ⟨b, x⟩, rfl⟩
  · exact dg_b _
  · rw [List.concat_eq_append, txA_snoc]
    exact dg_b _
theorem txA_last (t : Str) (l : List (Bool × Int)) : ∃ m s, (txA t l).1 = m ++ [s] ∧ (txA t l).2 = dg s := by
  rcases List.eq_nil_or_concat l with rfl | ⟨m, ⟨b, x⟩, rfl⟩
  · exact ⟨[], leafT t, rfl, rfl⟩
  · rw [List.concat_eq_append, txA_snoc]
    exact ⟨_, _, rfl, rfl⟩
/-- the law's way up -/
def up (n p : Nat) (h : Int) (pf : List Int) : Option Int :=
  if hn : n < 2 then (if pf = [] then some h else none)
  else if pf = [] then none
  else if p < lp n then (match up (lp n) p h pf.dropLast with
    | some x => some (dg (nodeT x (pf.getLast?.getD 0)))
    | none => none)
  else (match up (n - lp n) (p - lp n) h pf.dropLast with
    | some x => some (dg (nodeT (pf.getLast?.getD 0) x))
    | none => none)
termination_by n
decreasing_by
  · have := lp_ok (n := n) (by omega)
    omega
  · have := lp_ok (n := n) (by omega)
    omega
theorem zip_snoc {α β : Type} : ∀ {l : List α} {m : List β} {a : α} {b : β}, l.length = m.length → (l ++ [a]).zip (m ++ [b]) = l.zip m ++ [(a, b)]
  | [], [], a, b, _ => rfl
  | x :: l, y :: m, a, b, h => by
    show (x, y) :: (l ++ [a]).zip (m ++ [b]) = (x, y) :: (l.zip m ++ [(a, b)])
    rw [zip_snoc (by simpa using h)]
  | [], _ :: _, _, _, h => by simp at h
  | _ :: _, [], _, _, h => by simp at h
theorem up_ok (t : Str) : ∀ (d n p : Nat), n ≤ d → 1 ≤ n → ∀ pf : List Int, up n p (dg (leafT t)) pf = if pf.length = (turns n p).length then some (txA t ((turns n p).zip pf)).2 else none
  | d, n, p, hd, h1, pf => by
    by_cases h2 : n < 2
    · rw [up, dif_pos h2, turns_1 h2]
      cases pf with
      | nil => rfl
      | cons x pf => rfl
    · obtain ⟨g1, g2, g3, _⟩ := lp_ok (n := n) (by omega)
      rw [up, dif_neg h2, turns_2 (by omega)]
      cases d with
      | zero => omega
      | succ d =>
        rcases List.eq_nil_or_concat pf with rfl | ⟨qf, x, rfl⟩
        · rw [if_pos rfl]
          split <;> simp
        · rw [List.concat_eq_append, if_neg (by simp), List.dropLast_concat, List.getLast?_concat]
          split
          · rw [up_ok t d (lp n) p (by omega) g1 qf]
            by_cases e : qf.length = (turns (lp n) p).length
            · rw [if_pos e, if_pos (by simp [e]), zip_snoc e.symm, txA_snoc]
              rfl
            · rw [if_neg e, if_neg (by simpa using e)]
          · rw [up_ok t d (n - lp n) (p - lp n) (by omega) (by omega) qf]
            by_cases e : qf.length = (turns (n - lp n) (p - lp n)).length
            · rw [if_pos e, if_pos (by simp [e]), zip_snoc e.symm, txA_snoc]
              rfl
            · rw [if_neg e, if_neg (by simpa using e)]
/-- the own path leads to the root -/
theorem tx_path : ∀ (d : Nat) (l : List Str) (p : Nat), l.length ≤ d → p < l.length → (txA (l.getD p "") ((turns l.length p).zip (path l p))).2 = root l
  | d, l, p, hd, hp => by
    by_cases h2 : l.length < 2
    · have h1 : l.length = 1 := by omega
      rw [turns_1 h2, root, dif_pos h2, if_pos h1]
      match l, h1 with
      | [s], _ =>
        have : p = 0 := by simpa using hp
        subst this
        rfl
    · obtain ⟨g1, g2, g3, _⟩ := lp_ok (n := l.length) (by omega)
      rw [turns_2 (by omega), path_2 (by omega), root_2 (l := l) (by omega)]
      cases d with
      | zero => omega
      | succ d =>
        have lt : (l.take (lp l.length)).length = lp l.length := by rw [List.length_take]; omega
        have ld : (l.drop (lp l.length)).length = l.length - lp l.length := List.length_drop
        split
        · rename_i hlt
          have ih := tx_path d (l.take (lp l.length)) p (by omega) (by omega)
          have e1 : (l.take (lp l.length)).getD p "" = l.getD p "" := by simp [List.getD_eq_getElem?_getD, List.getElem?_take, hlt]
          have e2 := path_len (l.take (lp l.length)).length (l.take (lp l.length)) p (Nat.le_refl _)
          rw [e1, lt] at ih
          rw [lt] at e2
          rw [zip_snoc e2.symm, txA_snoc]
          show dg (nd true _ _) = _
          rw [ih]
          rfl
        · rename_i hlt
          have ih := tx_path d (l.drop (lp l.length)) (p - lp l.length) (by omega) (by omega)
          have e1 : (l.drop (lp l.length)).getD (p - lp l.length) "" = l.getD p "" := by
            simp only [List.getD_eq_getElem?_getD, List.getElem?_drop]
            rw [show lp l.length + (p - lp l.length) = p by omega]
          have e2 := path_len (l.drop (lp l.length)).length (l.drop (lp l.length)) (p - lp l.length) (Nat.le_refl _)
          rw [e1, ld] at ih
          rw [ld] at e2
          rw [zip_snoc e2.symm, txA_snoc]
          show dg (nd false _ _) = _
          rw [ih]
          rfl
/-! ### clashes -/
def fcL : List Str → List Str → Option (Str × Str)
  | a :: l, b :: m => if a = b then fcL l m else some (a, b)
  | _, _ => none
def Clash (o : Option (Str × Str)) : Prop := ∃ a b, o = some (a, b) ∧ a ≠ b ∧ dg a = dg b
theorem clash_ok {s t : Str} (hst : s ≠ t) : ∀ (l : List (Bool × Int × Int)), (∀ x ∈ l, 0 ≤ x.2.1 ∧ 0 ≤ x.2.2) → (txA s (l.map fun x => (x.1, x.2.1))).2 = (txA t (l.map fun x => (x.1, x.2.2))).2 → Clash (fcL (txA s (l.map fun x => (x.1, x.2.1))).1.reverse (txA t (l.map fun x => (x.1, x.2.2))).1.reverse) := by
  intro l
  generalize hn : l.length = n
  induction n generalizing l with
  | zero =>
    intro _ h
    rw [List.length_eq_zero_iff.mp hn] at h ⊢
    refine ⟨leafT s, leafT t, ?_, fun z => hst (leaf_inj z), h⟩
    show (if leafT s = leafT t then fcL [] [] else some (leafT s, leafT t)) = _
    rw [if_neg fun z => hst (leaf_inj z)]
  | succ n ih =>
    intro hb h
    rcases List.eq_nil_or_concat l with rfl | ⟨m, ⟨b, x, y⟩, rfl⟩
    · cases hn
    · rw [List.concat_eq_append] at hn hb h ⊢
      simp only [List.map_append, List.map_cons, List.map_nil] at h ⊢
      rw [txA_snoc, txA_snoc] at h ⊢
      simp only [List.reverse_append, List.reverse_cons, List.reverse_nil, List.nil_append, List.cons_append]
      have hx := hb (b, x, y) (by simp)
      by_cases e : nd b (txA s (m.map fun x => (x.1, x.2.1))).2 x = nd b (txA t (m.map fun x => (x.1, x.2.2))).2 y
      · have b1 := (txA_snd_b s (m.map fun x => (x.1, x.2.1))).1
        have b2 := (txA_snd_b t (m.map fun x => (x.1, x.2.2))).1
        have e2 : (txA s (m.map fun x => (x.1, x.2.1))).2 = (txA t (m.map fun x => (x.1, x.2.2))).2 := by
          unfold nd at e
          cases b with
          | true => exact (node_inj b1 hx.1 b2 hx.2 e).1
          | false => exact (node_inj hx.1 b1 hx.2 b2 e).2
        obtain ⟨a', b', q1, q2⟩ := ih m (by simpa using hn) (fun z hz => hb z (by simp [hz])) e2
        refine ⟨a', b', ?_, q2⟩
        show (if _ = _ then fcL _ _ else _) = _
        rw [if_pos e]
        exact q1
      · refine ⟨_, _, ?_, e, h⟩
        show (if _ = _ then fcL _ _ else _) = _
        rw [if_neg e]
/-- texts of one fold have one digest, whatever stands ahead and behind -/
theorem dgF_app (f : Int) (a b : Str) : dgF f (a ++ b) = dgF (dgF f a) b := by
  unfold dgF
  rw [app_toList, List.foldl_append]
end K85

set_option Elab.async false
set_option linter.all false
set_option pp.maxSteps 300
set_option maxRecDepth 100000
set_option maxHeartbeats 2000000
/-! A4: k85: walks: numbers, digests, parts, roots, paths, turns (the program's and the law's) -/
namespace K85
open PySem PySem.Spec PyProof.Rows L2 DL
theorem nT {P : Prop} (z : false = true) : P := Bool.noConfusion z
theorem nF {P : Prop} (z : true = false) : P := Bool.noConfusion z
theorem sz {n : Nat} (h : n ≤ 10000) : n ≤ sizeLine := Nat.le_trans h (by decide)
abbrev tS (l : List Str) : D := .tup (l.map D.str)
abbrev tI (l : List Int) : D := .tup (l.map D.int)
def isI : D → Bool
  | .int _ => true
  | _ => false
/-- entries: short texts -/
def Sz (l : List Str) : Prop := ∀ s ∈ l, s.length ≤ 200
theorem Sz.take {l : List Str} (h : Sz l) (n : Nat) : Sz (l.take n) := fun s hs => h s (List.mem_of_mem_take hs)
theorem Sz.drop {l : List Str} (h : Sz l) (n : Nat) : Sz (l.drop n) := fun s hs => h s (List.mem_of_mem_drop hs)
theorem cT_take {α : Type} (f : α → D) (l : List α) (n : Nat) : cutD (l.map f) none (some (n : Int)) = (l.take n).map f := by rw [cutD_map, cutG_take]
theorem cT_drop {α : Type} (f : α → D) (l : List α) (n : Nat) : cutD (l.map f) (some (n : Int)) none = (l.drop n).map f := by rw [cutD_map, cutG_drop]
theorem aLen {α : Type} (f : α → D) (l : List α) : [Sl.im (.int ((l.map f).length : Nat))] = [Sl.im (.int (l.length : Nat))] := by rw [List.length_map]
theorem aTup {l m : List D} (h : l = m) : [Sl.im (.tup l)] = [Sl.im (.tup m)] := by rw [h]
theorem leafT_len {s : Str} (h : s.length ≤ 200) : (leafT s).length ≤ 205 := by
  rw [slen_app]
  have : ("leaf " : Str).length = 5 := by decide +kernel
  omega
section
variable {R : Rn} (m : Mc R.mg) (d : Ds R)
include m d
theorem p_int : Pr false B0 R 1 "is_integer" 1 (fun _ : D => True) (fun x => [.im x]) fun x r => r = .im (.bl (isI x)) := by
  refine pr_mk d.dIsInteger scIsInteger rfl m.fr ckIsInteger (fun _ _ => ⟨rfl, rfl⟩) fun X c hX hB x _ => ?_
  cases x with
  | int i => exact ⟨true, rfl, fun _ => ⟨false, rfl, rfl, rfl⟩, (fun z => by cases z)⟩
  | bl b => exact ⟨true, rfl, fun _ => ⟨true, rfl, rfl, rfl⟩, (fun z => by cases z)⟩
  | _ => exact ⟨false, rfl, (fun z => by cases z), fun _ => ⟨rfl, rfl⟩⟩
theorem p_lint : Pr false B0 R 1 "_law_is_int" 1 (fun _ : D => True) (fun x => [.im x]) fun x r => r = .im (.bl (isI x)) := by
  refine pr_mk d.dLIsInt scLIsInt rfl m.fr ckLIsInt (fun _ _ => ⟨rfl, rfl⟩) fun X c hX hB x _ => ?_
  cases x with
  | int i => exact ⟨true, rfl, fun _ => ⟨false, rfl, rfl, rfl⟩, (fun z => by cases z)⟩
  | bl b => exact ⟨true, rfl, fun _ => ⟨true, rfl, rfl, rfl⟩, (fun z => by cases z)⟩
  | _ => exact ⟨false, rfl, (fun z => by cases z), fun _ => ⟨rfl, rfl⟩⟩
theorem p_within : Pr false B0 R 2 "is_within" 3 (fun t : Int × Int × Int => t.2.1 ≤ t.1 ∧ t.1 ≤ t.2.2) (fun t => [.im (.int t.1), .im (.int t.2.1), .im (.int t.2.2)]) fun _ r => r = .im (.bl true) := by
  refine pr_mk d.dIsWithin scIsWithin rfl m.fr ckIsWithin (fun _ _ => ⟨rfl, rfl⟩) fun X c hX hB t ht => ?_
  refine ⟨_, prm (p_int m d) hX fun _ _ => trivial, .int t.1, trivial, rfl, fun r _ hr => ?_⟩
  subst hr
  refine ⟨fun _ => ⟨_, _, rfl, rfl, fun _ => ⟨rfl, ?_⟩, fun z => ?_⟩, (fun z => by cases z)⟩
  · show Sl.im (.bl (decide (t.1 ≤ t.2.2))) = _
    rw [decide_eq_true ht.2]
  · rw [decide_eq_true ht.1] at z
    cases z
theorem p_dig : Pr false B0 R 1 "digest" 1 (fun _ : Str => True) (fun s => [.im (.str s)]) fun s r => r = .im (.int (dg s)) := by
  refine pr_mk d.dDigest scDigest rfl m.fr ckDigest (fun _ _ => ⟨rfl, rfl⟩) fun X c hX hB s _ => ?_
  refine hX.gi m.first ?_
  refine ⟨fun i Γ => ∃ s2, Γ = [.im (.str s), .im (.int ((s.cps.toList.take i).foldl stp 7)), s2], ⟨_, rfl⟩, fun F i Γ hi hj => ?_, fun Γ hj => ?_⟩
  · obtain ⟨s2, rfl⟩ := hj
    refine ⟨_, rfl, ?_⟩
    refine hX.gi m.times ⟨.inr ⟨by decide, by decide⟩, rfl, hX.gi m.below ⟨by decide, ?_⟩⟩
    exact ⟨_, by rw [take_foldl hi]; rfl⟩
  · obtain ⟨s2, rfl⟩ := hj
    refine ⟨rfl, ?_⟩
    rw [show s.length = s.cps.toList.length from by simp [Str.length], List.take_length]
    rfl
theorem p_ldig : Pr false B0 R 1 "_law_digest" 1 (fun _ : Str => True) (fun s => [.im (.str s)]) fun s r => r = .im (.int (dg s)) := by
  refine pr_mk d.dLDigest scLDigest rfl m.fr ckLDigest (fun _ _ => ⟨rfl, rfl⟩) fun X c hX hB s _ => ?_
  refine ⟨fun i Γ => ∃ s2, Γ = [.im (.str s), .im (.int ((s.cps.toList.take i).foldl stp 7)), s2], ⟨_, rfl⟩, fun F i Γ hi hj => ?_, fun Γ hj => ?_⟩
  · obtain ⟨s2, rfl⟩ := hj
    refine ⟨_, rfl, ?_⟩
    refine ⟨.inr ⟨by decide, by decide⟩, rfl, by decide, ?_⟩
    exact ⟨_, by rw [take_foldl hi]; rfl⟩
  · obtain ⟨s2, rfl⟩ := hj
    refine ⟨rfl, ?_⟩
    rw [show s.length = s.cps.toList.length from by simp [Str.length], List.take_length]
    rfl
theorem p_leaf : Pr false B0 R 1 "leaf_text" 1 (fun s : Str => s.length ≤ 200) (fun s => [.im (.str s)]) fun s r => r = .im (.str (leafT s)) := by
  refine pr_mk d.dLeafText scLeafText rfl m.fr ckLeafText (fun _ _ => ⟨rfl, rfl⟩) fun X c hX hB s hs => ?_
  have : ("leaf " : Str).length = 5 := by decide +kernel
  exact ⟨sz (by omega), rfl, rfl⟩
theorem node_lens {a b : Int} (ha : BI a) (hb : BI b) : ("node " : Str).length + (iT a).length ≤ sizeLine ∧ (("node " : Str) ++ iT a).length + (" " : Str).length ≤ sizeLine ∧ (("node " : Str) ++ iT a ++ (" " : Str)).length + (iT b).length ≤ sizeLine := by
  have e1 : ("node " : Str).length = 5 := by decide +kernel
  have e2 : (" " : Str).length = 1 := by decide +kernel
  have h1 := iT_len ha
  have h2 := iT_len hb
  have e3 := slen_app ("node " : Str) (iT a)
  have e4 := slen_app (("node " : Str) ++ iT a) (" " : Str)
  rw [e1] at e3 ⊢
  rw [e2] at e4 ⊢
  exact ⟨sz (by omega), sz (by omega), sz (by omega)⟩
theorem p_node : Pr false B0 R 1 "node_text" 2 (fun t : Int × Int => BI t.1 ∧ BI t.2) (fun t => [.im (.int t.1), .im (.int t.2)]) fun t r => r = .im (.str (nodeT t.1 t.2)) := by
  refine pr_mk d.dNodeText scNodeText rfl m.fr ckNodeText (fun _ _ => ⟨rfl, rfl⟩) fun X c hX hB t ht => ?_
  obtain ⟨h1, h2, h3⟩ := node_lens m d ht.1 ht.2
  exact ⟨ht.1.log, h1, h2, ht.2.log, h3, rfl, rfl⟩
theorem p_lnode : Pr false B0 R 2 "_law_node" 2 (fun t : Int × Int => BI t.1 ∧ BI t.2) (fun t => [.im (.int t.1), .im (.int t.2)]) fun t r => r = .im (.int (dg (nodeT t.1 t.2))) := by
  refine pr_mk d.dLNode scLNode rfl m.fr ckLNode (fun _ _ => ⟨rfl, rfl⟩) fun X c hX hB t ht => ?_
  obtain ⟨h1, h2, h3⟩ := node_lens m d ht.1 ht.2
  exact ⟨_, prm (p_ldig m d) hX fun _ _ => trivial, ht.1.log, h1, h2, ht.2.log, h3, nodeT t.1 t.2, trivial, rfl, fun r hg hr => ⟨hg, hr⟩⟩
/-- a while that doubles -/
theorem p_left : Pr false B0 R 1 "left_part" 1 (fun n : Nat => 2 ≤ n) (fun n => [.im (.int (n : Nat))]) fun n r => r = .im (.int (lp n : Nat)) := by
  refine pr_mk d.dLeftPart scLeftPart rfl m.fr ckLeftPart (fun _ _ => ⟨rfl, rfl⟩) fun X c hX hB n hn => ?_
  refine ⟨fun u Γ => ∃ f : Nat, Γ = [.im (.int (n : Nat)), .im (.int (f : Nat))] ∧ 1 ≤ f ∧ f < n ∧ n ≤ u + f ∧ lpF u n f = lp n, n, ⟨1, rfl, by decide, by omega, by omega, rfl⟩, fun u Γ hj => ?_⟩
  obtain ⟨f, rfl, h1, h2, h3, h4⟩ := hj
  cases u with
  | zero => omega
  | succ u =>
    refine ⟨.inl ⟨by decide, by decide⟩, fun z => ?_, fun z => ?_⟩
    · have z := of_decide_eq_true z
      have e : 2 * f < n := by omega
      refine ⟨.inl ⟨by decide, by decide⟩, u, Nat.lt_succ_self _, 2 * f, ?_, by omega, e, by omega, ?_⟩
      · show _ = [_, Sl.im (.int ((2 * f : Nat) : Int))]
        rw [Int.natCast_mul]
        rfl
      · unfold lpF at h4
        rw [if_pos e] at h4
        exact h4
    · have z := of_decide_eq_false z
      have e : ¬ 2 * f < n := by omega
      unfold lpF at h4
      rw [if_neg e] at h4
      exact ⟨rfl, by rw [h4]⟩
theorem p_cut : Pr false B0 R 1 "_law_cut" 1 (fun n : Nat => 2 ≤ n) (fun n => [.im (.int (n : Nat))]) fun n r => r = .im (.int (lp n : Nat)) := by
  refine pr_mk d.dLCut scLCut rfl m.fr ckLCut (fun _ _ => ⟨rfl, rfl⟩) fun X c hX hB n hn => ?_
  refine ⟨fun u Γ => ∃ f : Nat, Γ = [.im (.int (n : Nat)), .im (.int (f : Nat))] ∧ 1 ≤ f ∧ f < n ∧ n ≤ u + f ∧ lpF u n f = lp n, n, ⟨1, rfl, by decide, by omega, by omega, rfl⟩, fun u Γ hj => ?_⟩
  obtain ⟨f, rfl, h1, h2, h3, h4⟩ := hj
  cases u with
  | zero => omega
  | succ u =>
    refine ⟨.inr ⟨by decide, by decide⟩, fun z => ?_, fun z => ?_⟩
    · have z := of_decide_eq_true z
      have e : 2 * f < n := by omega
      refine ⟨.inr ⟨by decide, by decide⟩, u, Nat.lt_succ_self _, 2 * f, ?_, by omega, e, by omega, ?_⟩
      · show _ = [_, Sl.im (.int ((2 * f : Nat) : Int))]
        rw [Int.natCast_mul, Int.mul_comm]
        rfl
      · unfold lpF at h4
        rw [if_pos e] at h4
        exact h4
    · have z := of_decide_eq_false z
      have e : ¬ 2 * f < n := by omega
      unfold lpF at h4
      rw [if_neg e] at h4
      exact ⟨rfl, by rw [h4]⟩
/-- halves of entries -/
theorem halves {l : List Str} {e : Nat} (h2 : 2 ≤ l.length) (h : l.length ≤ 2 ^ e) : ∃ e', e = e' + 1 ∧ (l.take (lp l.length)).length ≤ 2 ^ e' ∧ (l.drop (lp l.length)).length ≤ 2 ^ e' := by
  cases e with
  | zero =>
    have : l.length ≤ 1 := h
    omega
  | succ e =>
    obtain ⟨g1, g2⟩ := lp_pow h2 h
    refine ⟨e, rfl, ?_, ?_⟩
    · rw [List.length_take]
      omega
    · rw [List.length_drop]
      exact g2
theorem p_root : ∀ e : Nat, Pr false B0 R (e + 2) "root_of" 1 (fun l : List Str => l.length ≤ 2 ^ e ∧ Sz l) (fun l => [.im (tS l)]) fun l r => r = .im (.int (root l)) := by
  intro e
  induction e with
  | zero =>
    refine pr_mk d.dRootOf scRootOf rfl m.fr ckRootOf (fun _ _ => ⟨rfl, rfl⟩) fun X c hX hB l hl => ?_
    obtain ⟨hl, hs⟩ := hl
    match l, hl, hs with
    | [], _, _ =>
      refine ⟨fun _ => ⟨_, prm (p_dig m d) hX fun _ _ => trivial, "empty", trivial, rfl, fun r hg hr => ⟨hg, ?_⟩⟩, (fun z => by cases z)⟩
      rw [root_0]
      exact hr
    | [s], _, hs =>
      have hs : s.length ≤ 200 := hs s (by simp)
      refine ⟨(fun z => by cases z), fun _ => ⟨fun _ => ?_, (fun z => by cases z)⟩⟩
      refine ⟨_, prm (p_dig m d) hX fun _ _ => trivial, _, prm (p_leaf m d) hX fun _ _ => trivial, .str s, rfl, s, hs, rfl, fun r _ hr => ?_⟩
      subst hr
      refine ⟨leafT s, trivial, rfl, fun r hg hr => ⟨hg, ?_⟩⟩
      rw [root_1]
      exact hr
    | s :: t :: r, hl, _ => exact absurd (show r.length + 1 + 1 ≤ 1 from hl) (by omega)
  | succ e ih =>
    refine pr_mk d.dRootOf scRootOf rfl m.fr ckRootOf (fun _ _ => ⟨rfl, rfl⟩) fun X c hX hB l hl => ?_
    obtain ⟨hl, hs⟩ := hl
    by_cases h2 : 2 ≤ l.length
    · obtain ⟨e', he, g1, g2⟩ := halves m d h2 hl
      cases he
      refine ⟨fun z => ?_, fun _ => ⟨fun z => ?_, fun _ => ?_⟩⟩
      · have z := of_decide_eq_true z
        rw [List.length_map] at z
        omega
      · have z := of_decide_eq_true z
        rw [List.length_map] at z
        omega
      refine ⟨_, prm (p_left m d) hX (fun _ _ => trivial) (by omega), l.length, h2, aLen _ _, fun r _ hr => ?_⟩
      subst hr
      refine ⟨_, prm (p_dig m d) hX (fun _ _ => trivial) (by omega), _, prm (p_node m d) hX (fun _ _ => trivial) (by omega), _, prm ih hX (fun _ _ => trivial) (by omega), l.take (lp l.length), ⟨g1, hs.take _⟩, aTup (cT_take _ _ _), fun r _ hr => ?_⟩
      subst hr
      refine ⟨_, prm ih hX (fun _ _ => trivial) (by omega), l.drop (lp l.length), ⟨g2, hs.drop _⟩, aTup (cT_drop _ _ _), fun r _ hr => ?_⟩
      subst hr
      refine ⟨(root (l.take (lp l.length)), root (l.drop (lp l.length))), ⟨(root_b _).bi, (root_b _).bi⟩, rfl, fun r _ hr => ?_⟩
      subst hr
      refine ⟨_, trivial, rfl, fun r hg hr => ⟨hg, ?_⟩⟩
      rw [root_2 h2]
      exact hr
    · match l, h2, hs with
      | [], _, _ =>
        refine ⟨fun _ => ⟨_, prm (p_dig m d) hX (fun _ _ => trivial) (by omega), "empty", trivial, rfl, fun r hg hr => ⟨hg, ?_⟩⟩, (fun z => by cases z)⟩
        rw [root_0]
        exact hr
      | [s], _, hs =>
        have hs : s.length ≤ 200 := hs s (by simp)
        refine ⟨(fun z => by cases z), fun _ => ⟨fun _ => ?_, (fun z => by cases z)⟩⟩
        refine ⟨_, prm (p_dig m d) hX (fun _ _ => trivial) (by omega), _, prm (p_leaf m d) hX (fun _ _ => trivial) (by omega), .str s, rfl, s, hs, rfl, fun r _ hr => ?_⟩
        subst hr
        refine ⟨leafT s, trivial, rfl, fun r hg hr => ⟨hg, ?_⟩⟩
        rw [root_1]
        exact hr
      | s :: t :: r, h2, _ => exact absurd (show 2 ≤ r.length + 1 + 1 by omega) h2
end
end K85

set_option Elab.async false
set_option linter.all false
set_option pp.maxSteps 300
set_option maxRecDepth 100000
set_option maxHeartbeats 2000000
/-! A5: k85: walks: paths, turns, the law's root and proof, checks -/
namespace K85
open PySem PySem.Spec PyProof.Rows L2 DL
theorem aLenD {α : Type} (f : α → D) (l : List α) : Sl.im (.int ((l.map f).length : Nat)) = Sl.im (.int (l.length : Nat)) := by rw [List.length_map]
theorem aSub {a b : Nat} (h : b ≤ a) : ((a : Int) - (b : Int)) = ((a - b : Nat) : Int) := by omega
theorem snocM {α : Type} {l : List α} {f : α → D} {acc : List D} {i : Nat} (hi : i < l.length) (hJ : acc = (l.take i).map f) : acc ++ [f l[i]] = (l.take (i + 1)).map f := by
  rw [hJ, List.take_succ_eq_append_getElem hi, List.map_append]
  rfl
section
variable {R : Rn} (m : Mc R.mg) (d : Ds R)
include m d
theorem p_lroot : ∀ e : Nat, Pr false B0 R (e + 3) "_law_root" 1 (fun l : List Str => l.length ≤ 2 ^ e ∧ Sz l) (fun l => [.im (tS l)]) fun l r => r = .im (.int (root l)) := by
  have base : ∀ (k : Nat) (X : Cx) (c : C0), In X R (k + 1) false → ∀ l : List Str, l.length < 2 → Sz l → ∀ E : DEnds, (∀ r, good r = true → r = .im (.int (root l)) → E.rt r) → vS X c rLRoot (defBody sLRoot) [.im (tS l), .any] E := by
    intro k X c hX l h2 hs E hE
    match l, h2, hs with
    | [], _, _ =>
      refine ⟨fun _ => ⟨_, prm (p_ldig m d) hX (fun _ _ => trivial) (by omega), (fun z => by cases z), fun _ => ⟨"empty", trivial, rfl, fun r hg hr => hE r hg ?_⟩⟩, (fun z => by cases z)⟩
      rw [root_0]
      exact hr
    | [s], _, hs =>
      have hs : s.length ≤ 200 := hs s (by simp)
      have e5 : ("leaf " : Str).length = 5 := by decide +kernel
      refine ⟨fun _ => ⟨_, prm (p_ldig m d) hX (fun _ _ => trivial) (by omega), fun _ => ⟨.str s, rfl, sz (by omega), leafT s, trivial, rfl, fun r hg hr => hE r hg ?_⟩, (fun z => by cases z)⟩, (fun z => by cases z)⟩
      rw [root_1]
      exact hr
    | s :: t :: r, h2, _ => exact absurd (show r.length + 1 + 1 < 2 from h2) (by omega)
  intro e
  induction e with
  | zero =>
    refine pr_mk d.dLRoot scLRoot rfl m.fr ckLRoot (fun _ _ => ⟨rfl, rfl⟩) fun X c hX hB l hl => ?_
    exact base 1 X c hX l (Nat.lt_of_le_of_lt hl.1 (by decide)) hl.2 _ fun r hg hr => ⟨hg, hr⟩
  | succ e ih =>
    refine pr_mk d.dLRoot scLRoot rfl m.fr ckLRoot (fun _ _ => ⟨rfl, rfl⟩) fun X c hX hB l hl => ?_
    obtain ⟨hl, hs⟩ := hl
    by_cases h2 : 2 ≤ l.length
    · obtain ⟨e', he, g1, g2⟩ := halves m d h2 hl
      cases he
      refine ⟨fun z => ?_, fun _ => ?_⟩
      · have z := of_decide_eq_true z
        rw [List.length_map] at z
        omega
      refine ⟨_, prm (p_cut m d) hX (fun _ _ => trivial) (by omega), l.length, h2, aLen _ _, fun r _ hr => ?_⟩
      subst hr
      refine ⟨_, prm (p_lnode m d) hX (fun _ _ => trivial) (by omega), _, prm ih hX (fun _ _ => trivial) (by omega), l.take (lp l.length), ⟨g1, hs.take _⟩, aTup (cT_take _ _ _), fun r _ hr => ?_⟩
      subst hr
      refine ⟨_, prm ih hX (fun _ _ => trivial) (by omega), l.drop (lp l.length), ⟨g2, hs.drop _⟩, aTup (cT_drop _ _ _), fun r _ hr => ?_⟩
      subst hr
      refine ⟨(root (l.take (lp l.length)), root (l.drop (lp l.length))), ⟨(root_b _).bi, (root_b _).bi⟩, rfl, fun r hg hr => ⟨hg, ?_⟩⟩
      rw [root_2 h2]
      exact hr
    · exact base (e + 2) X c hX l (by omega) hs _ fun r hg hr => ⟨hg, hr⟩
theorem path_le {e : Nat} {l : List Str} {p : Nat} (h : l.length ≤ 2 ^ e) : (path l p).length ≤ e := by
  rw [path_len _ l p (Nat.le_refl _)]
  exact turns_len e _ p h
/-- path_of: levels e + 3 -/
theorem p_path : ∀ e : Nat, e ≤ 100 → Pr false B0 R (e + 3) "path_of" 2 (fun t : List Str × Nat => t.1.length ≤ 2 ^ e ∧ Sz t.1 ∧ t.2 < t.1.length) (fun t => [.im (tS t.1), .im (.int (t.2 : Nat))]) fun t r => r = .own (.lst ((path t.1 t.2).map D.int)) := by
  have base : ∀ (X : Cx) (c : C0) (l : List Str) (p : Nat), l.length = 1 → ∀ E : DEnds, (∀ r, good r = true → r = .own (.lst ((path l p).map D.int)) → E.rt r) → vS X c rPathOf (defBody sPathOf) [.im (tS l), .im (.int (p : Nat)), .any] E := by
    intro X c l p h1 E hE
    refine ⟨fun _ => hE _ rfl ?_, fun z => ?_⟩
    · rw [path_1 (by omega)]
      rfl
    · have z := of_decide_eq_false z
      rw [List.length_map] at z
      omega
  intro e he
  induction e with
  | zero =>
    refine pr_mk d.dPathOf scPathOf rfl m.fr ckPathOf (fun _ _ => ⟨rfl, rfl⟩) fun X c hX hB t ht => ?_
    obtain ⟨h1, h2, h3⟩ := ht
    have : t.1.length ≤ 1 := h1
    exact base X c t.1 t.2 (by omega) _ fun r hg hr => ⟨hg, hr⟩
  | succ e ih =>
    have ih := ih (by omega)
    refine pr_mk d.dPathOf scPathOf rfl m.fr ckPathOf (fun _ _ => ⟨rfl, rfl⟩) fun X c hX hB t ht => ?_
    obtain ⟨l, p⟩ := t
    obtain ⟨h1, hs, h3⟩ := ht
    dsimp only at h1 hs h3
    show vS X c rPathOf (defBody sPathOf) [.im (tS l), .im (.int (p : Nat)), .any] _
    by_cases h2 : 2 ≤ l.length
    · obtain ⟨e', he, g1, g2⟩ := halves m d h2 h1
      cases he
      obtain ⟨q1, q2, q3, _⟩ := lp_ok h2
      have lt : (l.take (lp l.length)).length = lp l.length := by rw [List.length_take]; omega
      have ld : (l.drop (lp l.length)).length = l.length - lp l.length := List.length_drop
      refine ⟨fun z => ?_, fun _ => ?_⟩
      · have z := of_decide_eq_true z
        rw [List.length_map] at z
        omega
      refine ⟨_, prm (p_left m d) hX (fun _ _ => trivial) (by omega), l.length, h2, aLen _ _, fun r _ hr => ?_⟩
      subst hr
      refine ⟨fun z => ?_, fun z => ?_⟩
      · have z := of_decide_eq_true z
        have hp : p < lp l.length := by omega
        refine ⟨_, prm ih hX (fun _ _ => trivial) (by omega), (l.take (lp l.length), p), ⟨g1, hs.take _, by rw [lt]; exact hp⟩, ?_, fun r _ hr => ?_⟩
        · exact congrArg (fun x => [Sl.im (.tup x), Sl.im (.int (p : Nat))]) (cT_take _ _ _)
        subst hr
        refine ⟨_, prm (p_root m d e) hX (fun _ _ => trivial) (by omega), l.drop (lp l.length), ⟨g2, hs.drop _⟩, aTup (cT_drop _ _ _), fun r _ hr => ?_⟩
        subst hr
        refine ⟨?_, rfl, ?_⟩
        · rw [List.length_map]
          have := path_le m d (p := p) g1
          exact sz (Nat.le_trans (Nat.add_le_add_right this 1) (by omega))
        · show _ = Sl.own (.lst ((path l p).map D.int))
          rw [path_2 h2, if_pos hp, List.map_append]
          rfl
      · have z := of_decide_eq_false z
        have hp : ¬ p < lp l.length := by omega
        refine ⟨_, prm ih hX (fun _ _ => trivial) (by omega), (l.drop (lp l.length), p - lp l.length), ⟨g2, hs.drop _, by rw [ld]; omega⟩, ?_, fun r _ hr => ?_⟩
        · exact (congrArg (fun x => [Sl.im (.tup x), Sl.im (.int ((p : Int) - (lp l.length : Int)))]) (cT_drop _ _ _)).trans (congrArg (fun y => [Sl.im (tS (l.drop (lp l.length))), Sl.im (.int y)]) (aSub (by omega)))
        subst hr
        refine ⟨_, prm (p_root m d e) hX (fun _ _ => trivial) (by omega), l.take (lp l.length), ⟨g1, hs.take _⟩, aTup (cT_take _ _ _), fun r _ hr => ?_⟩
        subst hr
        refine ⟨?_, rfl, ?_⟩
        · rw [List.length_map]
          have := path_le m d (p := p - lp l.length) g2
          exact sz (Nat.le_trans (Nat.add_le_add_right this 1) (by omega))
        · show _ = Sl.own (.lst ((path l p).map D.int))
          rw [path_2 h2, if_neg hp, List.map_append]
          rfl
    · exact base X c l p (by omega) _ fun r hg hr => ⟨hg, hr⟩
theorem p_lproof : ∀ e : Nat, e ≤ 100 → Pr false B0 R (e + 4) "_law_proof" 2 (fun t : List Str × Nat => t.1.length ≤ 2 ^ e ∧ Sz t.1 ∧ t.2 < t.1.length) (fun t => [.im (tS t.1), .im (.int (t.2 : Nat))]) fun t r => r = .im (tI (path t.1 t.2)) := by
  have base : ∀ (X : Cx) (c : C0) (l : List Str) (p : Nat), l.length = 1 → ∀ E : DEnds, (∀ r, good r = true → r = .im (tI (path l p)) → E.rt r) → vS X c rLProof (defBody sLProof) [.im (tS l), .im (.int (p : Nat)), .any] E := by
    intro X c l p h1 E hE
    refine ⟨fun _ => hE _ rfl ?_, fun z => ?_⟩
    · rw [path_1 (by omega)]
      rfl
    · have z := of_decide_eq_false z
      rw [List.length_map] at z
      omega
  intro e he
  induction e with
  | zero =>
    refine pr_mk d.dLProof scLProof rfl m.fr ckLProof (fun _ _ => ⟨rfl, rfl⟩) fun X c hX hB t ht => ?_
    obtain ⟨h1, h2, h3⟩ := ht
    have : t.1.length ≤ 1 := h1
    exact base X c t.1 t.2 (by omega) _ fun r hg hr => ⟨hg, hr⟩
  | succ e ih =>
    have ih := ih (by omega)
    refine pr_mk d.dLProof scLProof rfl m.fr ckLProof (fun _ _ => ⟨rfl, rfl⟩) fun X c hX hB t ht => ?_
    obtain ⟨l, p⟩ := t
    obtain ⟨h1, hs, h3⟩ := ht
    dsimp only at h1 hs h3
    show vS X c rLProof (defBody sLProof) [.im (tS l), .im (.int (p : Nat)), .any] _
    by_cases h2 : 2 ≤ l.length
    · obtain ⟨e', he, g1, g2⟩ := halves m d h2 h1
      cases he
      obtain ⟨q1, q2, q3, _⟩ := lp_ok h2
      have lt : (l.take (lp l.length)).length = lp l.length := by rw [List.length_take]; omega
      have ld : (l.drop (lp l.length)).length = l.length - lp l.length := List.length_drop
      refine ⟨fun z => ?_, fun _ => ?_⟩
      · have z := of_decide_eq_true z
        rw [List.length_map] at z
        omega
      refine ⟨_, prm (p_cut m d) hX (fun _ _ => trivial) (by omega), l.length, h2, aLen _ _, fun r _ hr => ?_⟩
      subst hr
      refine ⟨fun z => ?_, fun z => ?_⟩
      · have z := of_decide_eq_true z
        have hp : p < lp l.length := by omega
        refine ⟨_, prm ih hX (fun _ _ => trivial) (by omega), (l.take (lp l.length), p), ⟨g1, hs.take _, by rw [lt]; exact hp⟩, ?_, fun r _ hr => ?_⟩
        · exact congrArg (fun x => [Sl.im (.tup x), Sl.im (.int (p : Nat))]) (cT_take _ _ _)
        subst hr
        refine ⟨_, prm (p_lroot m d e) hX (fun _ _ => trivial) (by omega), l.drop (lp l.length), ⟨g2, hs.drop _⟩, aTup (cT_drop _ _ _), fun r _ hr => ?_⟩
        subst hr
        refine ⟨?_, rfl, ?_⟩
        · rw [List.length_map]
          have := path_le m d (p := p) g1
          exact sz (Nat.le_trans (Nat.add_le_add_right this 1) (by omega))
        · show _ = Sl.im (.tup ((path l p).map D.int))
          rw [path_2 h2, if_pos hp, List.map_append]
          rfl
      · have z := of_decide_eq_false z
        have hp : ¬ p < lp l.length := by omega
        refine ⟨_, prm ih hX (fun _ _ => trivial) (by omega), (l.drop (lp l.length), p - lp l.length), ⟨g2, hs.drop _, by rw [ld]; omega⟩, ?_, fun r _ hr => ?_⟩
        · exact (congrArg (fun x => [Sl.im (.tup x), Sl.im (.int ((p : Int) - (lp l.length : Int)))]) (cT_drop _ _ _)).trans (congrArg (fun y => [Sl.im (tS (l.drop (lp l.length))), Sl.im (.int y)]) (aSub (by omega)))
        subst hr
        refine ⟨_, prm (p_lroot m d e) hX (fun _ _ => trivial) (by omega), l.take (lp l.length), ⟨g1, hs.take _⟩, aTup (cT_take _ _ _), fun r _ hr => ?_⟩
        subst hr
        refine ⟨?_, rfl, ?_⟩
        · rw [List.length_map]
          have := path_le m d (p := p - lp l.length) g2
          exact sz (Nat.le_trans (Nat.add_le_add_right this 1) (by omega))
        · show _ = Sl.im (.tup ((path l p).map D.int))
          rw [path_2 h2, if_neg hp, List.map_append]
          rfl
    · exact base X c l p (by omega) _ fun r hg hr => ⟨hg, hr⟩
theorem p_turns : ∀ e : Nat, e ≤ 100 → Pr false B0 R (e + 2) "turns_of" 2 (fun t : Nat × Nat => 1 ≤ t.1 ∧ t.1 ≤ 2 ^ e ∧ t.2 < t.1) (fun t => [.im (.int (t.1 : Nat)), .im (.int (t.2 : Nat))]) fun t r => r = .own (.lst ((turns t.1 t.2).map D.bl)) := by
  have base : ∀ (X : Cx) (c : C0) (n p : Nat), n = 1 → ∀ E : DEnds, (∀ r, good r = true → r = .own (.lst ((turns n p).map D.bl)) → E.rt r) → vS X c rTurnsOf (defBody sTurnsOf) [.im (.int (n : Nat)), .im (.int (p : Nat)), .any] E := by
    intro X c n p h1 E hE
    refine ⟨fun _ => hE _ rfl ?_, fun z => ?_⟩
    · rw [turns_1 (by omega)]
      rfl
    · have z := of_decide_eq_false z
      omega
  intro e he
  induction e with
  | zero =>
    refine pr_mk d.dTurnsOf scTurnsOf rfl m.fr ckTurnsOf (fun _ _ => ⟨rfl, rfl⟩) fun X c hX hB t ht => ?_
    obtain ⟨h1, h2, h3⟩ := ht
    have : t.1 ≤ 1 := h2
    exact base X c t.1 t.2 (by omega) _ fun r hg hr => ⟨hg, hr⟩
  | succ e ih =>
    have ih := ih (by omega)
    refine pr_mk d.dTurnsOf scTurnsOf rfl m.fr ckTurnsOf (fun _ _ => ⟨rfl, rfl⟩) fun X c hX hB t ht => ?_
    obtain ⟨n, p⟩ := t
    obtain ⟨h0, h1, h3⟩ := ht
    dsimp only at h0 h1 h3
    show vS X c rTurnsOf (defBody sTurnsOf) [.im (.int (n : Nat)), .im (.int (p : Nat)), .any] _
    by_cases h2 : 2 ≤ n
    · obtain ⟨g1, g2⟩ := lp_pow h2 h1
      obtain ⟨q1, q2, q3, _⟩ := lp_ok h2
      refine ⟨fun z => ?_, fun _ => ?_⟩
      · have z := of_decide_eq_true z
        omega
      refine ⟨_, prm (p_left m d) hX (fun _ _ => trivial) (by omega), n, h2, rfl, fun r _ hr => ?_⟩
      subst hr
      refine ⟨fun z => ?_, fun z => ?_⟩
      · have z := of_decide_eq_true z
        have hp : p < lp n := by omega
        refine ⟨_, prm ih hX (fun _ _ => trivial) (by omega), (lp n, p), ⟨q1, g1, hp⟩, rfl, fun r _ hr => ?_⟩
        subst hr
        refine ⟨?_, rfl, ?_⟩
        · rw [List.length_map]
          have := turns_len e (lp n) p g1
          exact sz (Nat.le_trans (Nat.add_le_add_right this 1) (by omega))
        · show _ = Sl.own (.lst ((turns n p).map D.bl))
          rw [turns_2 h2, if_pos hp, List.map_append]
          rfl
      · have z := of_decide_eq_false z
        have hp : ¬ p < lp n := by omega
        refine ⟨_, prm ih hX (fun _ _ => trivial) (by omega), (n - lp n, p - lp n), ⟨by omega, g2, by omega⟩, ?_, fun r _ hr => ?_⟩
        · show [Sl.im (.int ((n : Int) - (lp n : Int))), Sl.im (.int ((p : Int) - (lp n : Int)))] = _
          rw [aSub (show lp n ≤ n by omega), aSub (show lp n ≤ p by omega)]
        subst hr
        refine ⟨?_, rfl, ?_⟩
        · rw [List.length_map]
          have := turns_len e (n - lp n) (p - lp n) g2
          exact sz (Nat.le_trans (Nat.add_le_add_right this 1) (by omega))
        · show _ = Sl.own (.lst ((turns n p).map D.bl))
          rw [turns_2 h2, if_neg hp, List.map_append]
          rfl
    · exact base X c n p (by omega) _ fun r hg hr => ⟨hg, hr⟩
/-! ### checks -/
def En (l : List Str) : Prop := l.length ≤ 256 ∧ Sz l
theorem all_true {l : List D} {f : D → Bool} (h : ∀ x ∈ l, f x = true) : (l.map fun x => D.bl (f x)) = (List.replicate l.length true).map D.bl := by
  rw [List.map_replicate]
  exact List.map_eq_replicate_iff.mpr fun x hx => by rw [h x hx]
theorem p_areEn : Pr false B0 R 1 "are_entries" 1 (fun l : List Str => En l) (fun l => [.im (tS l)]) fun _ r => r = .im (.bl true) := by
  refine pr_mk d.dAreEntries scAreEntries rfl m.fr ckAreEntries (fun _ _ => ⟨rfl, rfl⟩) fun X c hX hB l hl => ?_
  refine ⟨true, rfl, fun _ => hX.gi m.most ⟨fun _ => ?_, fun z => ?_⟩, (fun z => by cases z)⟩
  · refine ⟨sz (by rw [List.length_map]; have := hl.1; omega), fun i acc => acc = (l.take i).map fun _ => D.bl true, rfl, fun i acc hi hJ F1 H1 => ?_, fun acc hJ => ?_⟩
    · have hi : i < l.length := by simpa using hi
      exact ⟨.str l[i], getD_mapD D.str l hi, fun Y hY => ⟨fun _ Y hY => ⟨true, rfl, snocM (f := fun _ => D.bl true) hi hJ⟩, (fun z => by cases z)⟩⟩
    rw [List.length_map, List.take_length] at hJ
    subst hJ
    refine ⟨l.map fun _ => true, by rw [List.map_map]; rfl, rfl, ?_⟩
    simp
  · have z := of_decide_eq_false z
    rw [List.length_map] at z
    have := hl.1
    omega
theorem p_chkEn : Pr false B0 R 2 "check_entries" 1 (fun l : List Str => En l) (fun l => [.im (tS l)]) fun _ r => r = .im .non := by
  refine pr_mk d.dCheckEntries scCheckEntries rfl m.fr ckCheckEntries (fun _ _ => ⟨rfl, rfl⟩) fun X c hX hB l hl => ?_
  refine ⟨_, prm (p_areEn m d) hX fun _ _ => trivial, l, hl, rfl, fun r _ hr => ?_⟩
  subst hr
  exact ⟨(fun z => by cases z), fun _ => rfl⟩
theorem p_logroot : Pr false B0 R 12 "log_root" 1 (fun l : List Str => En l) (fun l => [.im (tS l)]) fun l r => r = .im (.int (root l)) := by
  refine pr_mk d.dLogRoot scLogRoot rfl m.fr ckLogRoot (fun _ _ => ⟨rfl, rfl⟩) fun X c hX hB l hl => ?_
  refine ⟨_, prm (p_chkEn m d) hX fun _ _ => trivial, l, hl, rfl, fun r _ hr => ?_⟩
  exact ⟨_, prm (p_root m d 8) hX fun _ _ => trivial, l, hl, rfl, fun r hg hr => ⟨hg, hr⟩⟩
theorem p_chkPl : Pr false B0 R 3 "check_place" 2 (fun t : List Str × Nat => En t.1 ∧ t.2 < t.1.length) (fun t => [.im (tS t.1), .im (.int (t.2 : Nat))]) fun _ r => r = .im .non := by
  refine pr_mk d.dCheckPlace scCheckPlace rfl m.fr ckCheckPlace (fun _ _ => ⟨rfl, rfl⟩) fun X c hX hB t ht => ?_
  refine ⟨_, prm (p_chkEn m d) hX fun _ _ => trivial, t.1, ht.1, rfl, fun r _ hr => ?_⟩
  refine ⟨_, prm (p_within m d) hX fun _ _ => trivial, ((t.2 : Int), 0, (t.1.length : Int) - 1), ⟨by show (0 : Int) ≤ (t.2 : Int); omega, by have := ht.2; show (t.2 : Int) ≤ (t.1.length : Int) - 1; omega⟩, ?_, fun r _ hr => ?_⟩
  · exact congrArg (fun n : Nat => [Sl.im (.int (t.2 : Nat)), Sl.im (.int 0), Sl.im (.int ((n : Int) - 1))]) (List.length_map ..)
  subst hr
  exact ⟨(fun z => by cases z), fun _ => rfl⟩
theorem p_proofIn : Pr false B0 R 12 "proof_in" 2 (fun t : List Str × Nat => En t.1 ∧ t.2 < t.1.length) (fun t => [.im (tS t.1), .im (.int (t.2 : Nat))]) fun t r => r = .im (tI (path t.1 t.2)) := by
  refine pr_mk d.dProofIn scProofIn rfl m.fr ckProofIn (fun _ _ => ⟨rfl, rfl⟩) fun X c hX hB t ht => ?_
  refine ⟨_, prm (p_chkPl m d) hX fun _ _ => trivial, t, ht, rfl, fun r _ hr => ?_⟩
  refine ⟨_, prm (p_path m d 8 (by decide)) hX fun _ _ => trivial, t, ⟨ht.1.1, ht.1.2, ht.2⟩, rfl, fun r hg hr => ?_⟩
  subst hr
  exact ⟨rfl, rfl⟩
end
end K85

set_option Elab.async false
set_option linter.all false
set_option pp.maxSteps 300
set_option maxRecDepth 100000
set_option maxHeartbeats 2000000
/-! A6: k85: walks: is_proof, texts_up, is_in, the law's up and is_in -/
namespace K85
open PySem PySem.Spec PyProof.Rows L2 DL
def isNat : D → Bool
  | .int i => decide (0 ≤ i)
  | _ => false
def toI : D → Int
  | .int i => i
  | _ => 0
def isP : D → Bool
  | .tup l => decide (l.length ≤ 40) && l.all isNat
  | _ => false
/-- what may be handed in as a proof: not too long, no great numbers -/
def Fit (d : D) : Prop := ∀ l, d = .tup l → l.length ≤ 10000 ∧ ∀ i, .int i ∈ l → i < 100000000000000000000
theorem nats_eq {l : List D} (h : l.all isNat = true) : l = (l.map toI).map D.int ∧ ∀ x ∈ l.map toI, 0 ≤ x ∧ D.int x ∈ l := by
  have h := List.all_eq_true.mp h
  have key : ∀ x ∈ l, x = D.int (toI x) ∧ 0 ≤ toI x := fun x hx => by
    have := h x hx
    cases x with
    | int i => exact ⟨rfl, of_decide_eq_true this⟩
    | _ => cases this
  refine ⟨?_, fun y hy => ?_⟩
  · rw [List.map_map]
    exact (List.map_congr_left (f := id) fun x hx => (key x hx).1).symm ▸ (List.map_id l).symm
  · obtain ⟨x, hx, rfl⟩ := List.mem_map.mp hy
    exact ⟨(key x hx).2, (key x hx).1 ▸ hx⟩
/-- is the text in, by such a proof -/
def inP (rt : Int) (n p : Nat) (t : Str) (pf : List Int) : Bool := decide (pf.length = (turns n p).length) && decide ((txA t ((turns n p).zip pf)).2 = rt)
def inB (rt : Int) (n p : Nat) (t : Str) : D → Bool
  | .tup l => l.all isNat && inP rt n p t (l.map toI)
  | _ => false
structure IA where
  rt : Int
  n : Nat
  p : Nat
  t : Str
  d : D
def IA.ok (a : IA) : Prop := 1 ≤ a.n ∧ a.n ≤ 256 ∧ a.p < a.n ∧ a.t.length ≤ 200 ∧ Fit a.d
structure UA where
  n : Nat
  p : Nat
  t : Str
  pf : List Int
def UA.ok (a : UA) : Prop := 1 ≤ a.n ∧ a.n ≤ 256 ∧ a.p < a.n ∧ a.t.length ≤ 200 ∧ ∀ x ∈ a.pf, BI x
theorem turns8 {n p : Nat} (h : n ≤ 256) : (turns n p).length ≤ 8 := turns_len 8 n p h
section
variable {R : Rn} (m : Mc R.mg) (d : Ds R)
include m d
theorem p_isProof : Pr false B0 R 2 "is_proof" 1 (fun x : D => ∀ l, x = .tup l → l.length ≤ 10000) (fun x => [.im x]) fun x r => r = .im (.bl (isP x)) := by
  refine pr_mk d.dIsProof scIsProof rfl m.fr ckIsProof (fun _ _ => ⟨rfl, rfl⟩) fun X c hX hB x hx => ?_
  cases x with
  | tup l =>
    have hl := hx l rfl
    refine ⟨true, rfl, fun _ => ⟨fun z => ?_, fun z => ⟨rfl, ?_⟩⟩, (fun z => by cases z)⟩
    · refine ⟨sz hl, fun i acc => acc = (l.take i).map fun y => D.bl (isNat y), rfl, fun i acc hi hJ F1 H1 => ⟨l[i], by simp [hi], fun Y hY => ⟨fun _ Y hY => ⟨_, prm (p_int m d) (hX.blk hY) fun _ _ => trivial, l[i], trivial, rfl, fun r _ hr => ?_⟩, (fun z => by cases z)⟩⟩, fun acc hJ => ?_⟩
      · subst hr
        have hK := snocM (f := fun y => D.bl (isNat y)) hi hJ
        revert hK
        generalize l[i] = y
        intro hK
        cases y with
        | int j => exact ⟨fun _ => hK, (fun z => by cases z)⟩
        | _ => exact ⟨(fun z => by cases z), fun _ => hK⟩
      · obtain rfl : acc = l.map fun y => D.bl (isNat y) := by
          have e : acc = (l.take l.length).map fun y => D.bl (isNat y) := hJ
          rw [List.take_length] at e
          exact e
        refine ⟨l.map isNat, by rw [List.map_map]; rfl, rfl, ?_⟩
        have z := of_decide_eq_true z
        have z2 : l.length ≤ 40 := by omega
        show Sl.im (.bl ((l.map isNat).all id)) = Sl.im (.bl (decide (l.length ≤ 40) && l.all isNat))
        rw [decide_eq_true z2, List.all_map]
        rfl
    · have z := of_decide_eq_false z
      have z2 : ¬ l.length ≤ 40 := by omega
      show _ = Sl.im (.bl (decide (l.length ≤ 40) && l.all isNat))
      rw [decide_eq_false z2]
      rfl
  | _ => exact ⟨false, rfl, (fun z => by cases z), fun _ => ⟨rfl, rfl⟩⟩
theorem p_up : Pr false B0 R 12 "texts_up" 4 UA.ok (fun a => [.im (.int (a.n : Nat)), .im (.int (a.p : Nat)), .im (.str a.t), .im (tI a.pf)]) fun a r => r = .own (.lst ((txs a.t ((turns a.n a.p).zip a.pf)).map D.str)) := by
  refine pr_mk d.dTextsUp scTextsUp rfl m.fr ckTextsUp (fun _ _ => ⟨rfl, rfl⟩) fun X c hX hB a ha => ?_
  obtain ⟨n, p, t, pf⟩ := a
  obtain ⟨h1, h2, h3, h4, h5⟩ := ha
  dsimp only at h1 h2 h3 h4 h5
  show vS X c rTextsUp (defBody sTextsUp) [.im (.int (n : Nat)), .im (.int (p : Nat)), .im (.str t), .im (tI pf), .any, .any, .any, .any] _
  refine ⟨_, prm (p_leaf m d) hX fun _ _ => trivial, t, h4, rfl, fun r _ hr => ?_⟩
  subst hr
  refine ⟨_, prm (p_dig m d) hX fun _ _ => trivial, _, prm (p_leaf m d) hX fun _ _ => trivial, t, h4, rfl, fun r _ hr => ?_⟩
  subst hr
  refine ⟨leafT t, trivial, rfl, fun r _ hr => ?_⟩
  subst hr
  refine ⟨rfl, rfl, ?_⟩
  refine ⟨_, prm (p_turns m d 8 (by decide)) hX fun _ _ => trivial, (n, p), ⟨h1, h2, h3⟩, rfl, fun r _ hr => ?_⟩
  subst hr
  have ht := turns8 (n := n) (p := p) h2
  have hz : ((turns n p).zip pf).length = min (turns n p).length pf.length := List.length_zip
  refine ⟨fun i Γ => ∃ s6 s7, Γ = [.im (.int (n : Nat)), .im (.int (p : Nat)), .im (.str t), .im (tI pf), .own (.lst ((txA t (((turns n p).zip pf).take i)).1.map D.str)), .im (.int (txA t (((turns n p).zip pf).take i)).2), s6, s7], ⟨_, _, rfl⟩, fun F i Γ hi hj => ?_, fun Γ hj => ?_⟩
  · obtain ⟨s6, s7, rfl⟩ := hj
    have hi : i < ((turns n p).zip pf).length := by
      rw [hz]
      simpa using hi
    have hi1 : i < (turns n p).length := by omega
    have hi2 : i < pf.length := by omega
    have eg : ((turns n p).zip pf)[i] = ((turns n p)[i], pf[i]) := List.getElem_zip
    have hA : ∀ (b : Bool) (x : Int), ((turns n p).zip pf)[i] = (b, x) → txA t (((turns n p).zip pf).take (i + 1)) = ((txA t (((turns n p).zip pf).take i)).1 ++ [nd b (txA t (((turns n p).zip pf).take i)).2 x], dg (nd b (txA t (((turns n p).zip pf).take i)).2 x)) := fun b x e => by
      rw [List.take_succ_eq_append_getElem hi, e, txA_snoc]
    have hA := hA _ _ eg
    have hb := (txA_snd_b t (((turns n p).zip pf).take i)).bi
    have hx : BI pf[i] := h5 _ (List.getElem_mem ..)
    have hlen : ∀ l : List (Bool × Int), (txA t l).1.length ≤ l.length + 1 := fun l => by
      generalize hn : l.length = k
      induction k generalizing l with
      | zero => rw [List.length_eq_zero_iff.mp hn]; exact Nat.le_refl 1
      | succ k ih =>
        rcases List.eq_nil_or_concat l with rfl | ⟨q, ⟨b, x⟩, rfl⟩
        · cases hn
        · rw [List.concat_eq_append] at hn ⊢
          rw [txA_snoc, List.length_append, List.length_singleton]
          have := ih q (by simpa using hn)
          omega
    have hl := hlen (((turns n p).zip pf).take i)
    rw [List.length_take] at hl
    refine ⟨.tup [.bl (turns n p)[i], .int pf[i]], by show D.tup [((turns n p).map D.bl).getD i .non, (pf.map D.int).getD i .non] = _; rw [getD_mapD D.bl _ hi1, getD_mapD D.int _ hi2], ?_⟩
    revert hA hx
    generalize (turns n p)[i] = b
    generalize pf[i] = x
    generalize txA t (((turns n p).zip pf).take i) = A at hb hl ⊢
    intro hA hx
    obtain ⟨L, h⟩ := A
    dsimp only at hA hb hl
    refine ⟨by rw [List.length_map]; exact Nat.lt_of_le_of_lt hl (Nat.lt_of_le_of_lt (show _ ≤ 1000 by omega) (by decide)), ?_⟩
    cases b with
    | true =>
      refine ⟨fun _ => ⟨_, prm (p_node m d) hX fun _ _ => trivial, (h, x), ⟨hb, hx⟩, rfl, fun r _ hr => ?_⟩, (fun z => by cases z)⟩
      subst hr
      refine ⟨_, prm (p_dig m d) hX fun _ _ => trivial, .str (nodeT h x), atI_last _ _, nodeT h x, trivial, rfl, fun r _ hr => ?_⟩
      subst hr
      exact ⟨_, _, by rw [hA, List.map_append]; rfl⟩
    | false =>
      refine ⟨(fun z => by cases z), fun _ => ⟨_, prm (p_node m d) hX fun _ _ => trivial, (x, h), ⟨hx, hb⟩, rfl, fun r _ hr => ?_⟩⟩
      subst hr
      refine ⟨_, prm (p_dig m d) hX fun _ _ => trivial, .str (nodeT x h), atI_last _ _, nodeT x h, trivial, rfl, fun r _ hr => ?_⟩
      subst hr
      exact ⟨_, _, by rw [hA, List.map_append]; rfl⟩
  · obtain ⟨s6, s7, rfl⟩ := hj
    refine ⟨rfl, ?_⟩
    have e : ((turns n p).zip pf).take (min ((turns n p).map D.bl).length (pf.map D.int).length) = (turns n p).zip pf := List.take_of_length_le (by rw [List.length_map, List.length_map, hz]; exact Nat.le_refl _)
    show Sl.own (.lst ((txA t (((turns n p).zip pf).take (min ((turns n p).map D.bl).length (pf.map D.int).length))).1.map D.str)) = _
    rw [e]
    rfl
/-- is_in: anything may be handed in -/
theorem p_isIn : Pr false B0 R 13 "is_in" 5 IA.ok (fun a => [.im (.int a.rt), .im (.int (a.n : Nat)), .im (.int (a.p : Nat)), .im (.str a.t), .im a.d]) fun a r => r = .im (.bl (inB a.rt a.n a.p a.t a.d)) := by
  refine pr_mk d.dIsIn scIsIn rfl m.fr ckIsIn (fun _ _ => ⟨rfl, rfl⟩) fun X c hX hB a ha => ?_
  obtain ⟨rt, n, p, t, y⟩ := a
  obtain ⟨h1, h2, h3, h4, h5⟩ := ha
  dsimp only at h1 h2 h3 h4 h5
  show vS X c rIsIn (defBody sIsIn) [.im (.int rt), .im (.int (n : Nat)), .im (.int (p : Nat)), .im (.str t), .im y] _
  refine ⟨fun x => x = false, ⟨_, prm (p_within m d) hX fun _ _ => trivial, hX.gi m.most ⟨((n : Int), 1, 256), ⟨by show (1 : Int) ≤ n; omega, by show (n : Int) ≤ 256; omega⟩, rfl, fun r _ hr => ?_⟩⟩, fun x hx => ?_⟩
  · subst hr
    refine ⟨fun _ => ⟨_, prm (p_within m d) hX fun _ _ => trivial, ((p : Int), 0, (n : Int) - 1), ⟨by show (0 : Int) ≤ p; omega, by show (p : Int) ≤ (n : Int) - 1; omega⟩, rfl, fun r _ hr => ?_⟩, (fun z => by cases z)⟩
    subst hr
    exact rfl
  subst hx
  refine ⟨(fun z => by cases z), fun _ => ?_⟩
  refine ⟨fun x => x = !(isP y && match y with
    | .tup l => decide (l.length = (turns n p).length)
    | _ => true), ⟨_, prm (p_isProof m d) hX fun _ _ => trivial, y, fun l e => (h5 l e).1, rfl, fun r _ hr => ?_⟩, fun x hx => ?_⟩
  · subst hr
    cases hy : isP y with
    | false => exact ⟨(fun z => by cases z), fun _ => rfl⟩
    | true =>
      refine ⟨fun _ => ?_, (fun z => by cases z)⟩
      cases y with
      | tup l =>
        refine ⟨_, prm (p_turns m d 8 (by decide)) hX fun _ _ => trivial, (n, p), ⟨h1, h2, h3⟩, rfl, fun r _ hr => ?_⟩
        subst hr
        show (!decide ((l.length : Int) = (((turns n p).map D.bl).length : Nat))) = !(true && decide (l.length = (turns n p).length))
        rw [List.length_map]
        by_cases e : l.length = (turns n p).length
        · rw [decide_eq_true e, decide_eq_true (by omega)]
          rfl
        · rw [decide_eq_false e, decide_eq_false (by omega)]
          rfl
      | _ => cases hy
  subst hx
  have ht := turns8 (n := n) (p := p) h2
  refine ⟨fun z => ?_, fun z => ?_⟩
  · refine ⟨rfl, ?_⟩
    show Sl.im (.bl false) = .im (.bl (inB rt n p t y))
    cases y with
    | tup l =>
      have z : (!((decide (l.length ≤ 40) && l.all isNat) && decide (l.length = (turns n p).length))) = true := z
      show _ = Sl.im (.bl (l.all isNat && (decide ((l.map toI).length = (turns n p).length) && _)))
      rw [List.length_map]
      cases ha : l.all isNat with
      | false => rfl
      | true =>
        by_cases e : l.length = (turns n p).length
        · rw [ha, decide_eq_true e, decide_eq_true (by omega)] at z
          cases z
        · rw [decide_eq_false e]
          rfl
    | _ => rfl
  · cases y with
    | tup l =>
      have z : (!((decide (l.length ≤ 40) && l.all isNat) && decide (l.length = (turns n p).length))) = false := z
      simp only [Bool.not_eq_false', Bool.and_eq_true, decide_eq_true_eq] at z
      obtain ⟨⟨z1, z2⟩, z3⟩ := z
      obtain ⟨e1, e2⟩ := nats_eq z2
      obtain ⟨L, s, e3, e4⟩ := txA_last t ((turns n p).zip (l.map toI))
      refine ⟨_, prm (p_dig m d) hX fun _ _ => trivial, _, prm (p_up m d) hX fun _ _ => trivial, ⟨n, p, t, l.map toI⟩, ⟨h1, h2, h3, h4, fun x hx => ⟨(e2 x hx).1, (h5 l rfl).2 x (e2 x hx).2⟩⟩, ?_, fun r _ hr => ?_⟩
      · exact congrArg (fun q => [Sl.im (.int (n : Nat)), Sl.im (.int (p : Nat)), Sl.im (.str t), Sl.im (.tup q)]) e1
      have hr : r = .own (.lst ((txA t ((turns n p).zip (l.map toI))).1.map D.str)) := hr
      rw [e3, List.map_append] at hr
      subst hr
      refine ⟨.str s, atI_last _ _, s, trivial, rfl, fun r _ hr => ?_⟩
      subst hr
      refine ⟨rfl, ?_⟩
      show Sl.im (.bl (decide (dg s = rt))) = Sl.im (.bl (l.all isNat && (decide ((l.map toI).length = (turns n p).length) && decide ((txA t ((turns n p).zip (l.map toI))).2 = rt))))
      rw [z2, List.length_map, decide_eq_true z3, e4]
      rfl
    | _ => cases z
end
end K85

set_option Elab.async false
set_option linter.all false
set_option pp.maxSteps 300
set_option maxRecDepth 100000
set_option maxHeartbeats 2000000
/-! A7: k85: walks: clash_of, is_clash, the law's up, is_in, is_clash -/
namespace K85
open PySem PySem.Spec PyProof.Rows L2 DL
structure CA where
  l : List Str
  p : Nat
  t : Str
  y : D
def CA.ok (a : CA) : Prop := En a.l ∧ a.p < a.l.length ∧ a.t.length ≤ 200 ∧ Fit a.y
def CA.ia (a : CA) : IA := ⟨root a.l, a.l.length, a.p, a.t, a.y⟩
theorem CA.ok.ia {a : CA} (h : a.ok) : a.ia.ok := ⟨by have := h.2.1; show 1 ≤ a.l.length; omega, h.1.1, h.2.1, h.2.2.1, h.2.2.2⟩
abbrev CA.inB (a : CA) : Bool := K85.inB (root a.l) a.l.length a.p a.t a.y
theorem fcL_cons {a b : Str} {l m : List Str} : fcL (a :: l) (b :: m) = if a = b then fcL l m else some (a, b) := rfl
theorem fcL_nil {l m : List Str} (h : l = [] ∨ m = []) : fcL l m = none := by
  rcases h with rfl | rfl
  · rfl
  · cases l <;> rfl
theorem inP_pf {l : List Str} {p : Nat} (hp : p < l.length) {t : Str} {pf : List Int} (h : inP (root l) l.length p t pf = true) (hb : ∀ x ∈ pf, 0 ≤ x) (ht : l.getD p "" ≠ t) :
    Clash (fcL (txs t ((turns l.length p).zip pf)).reverse (txs (l.getD p "") ((turns l.length p).zip (path l p))).reverse) := by
  unfold inP at h
  rw [Bool.and_eq_true] at h
  have h1 := of_decide_eq_true h.1
  have h2 := of_decide_eq_true h.2
  have h3 := tx_path _ l p (Nat.le_refl _) hp
  have hl := path_len _ l p (Nat.le_refl _)
  have hpb := path_b _ l p (Nat.le_refl _)
  have key : ∀ (bs : List Bool) (xs ys : List Int), xs.length = bs.length → ys.length = bs.length → (((bs.zip (xs.zip ys)).map fun z => (z.1, z.2.1)) = bs.zip xs ∧ ((bs.zip (xs.zip ys)).map fun z => (z.1, z.2.2)) = bs.zip ys) := by
    intro bs
    induction bs with
    | nil => intro xs ys _ _; exact ⟨rfl, rfl⟩
    | cons b bs ih =>
      intro xs ys e1 e2
      cases xs with
      | nil => cases e1
      | cons x xs =>
        cases ys with
        | nil => cases e2
        | cons y ys =>
          obtain ⟨g1, g2⟩ := ih xs ys (Nat.succ.inj e1) (Nat.succ.inj e2)
          exact ⟨congrArg ((b, x) :: ·) g1, congrArg ((b, y) :: ·) g2⟩
  obtain ⟨k1, k2⟩ := key (turns l.length p) pf (path l p) h1 hl
  have := clash_ok (s := t) (t := l.getD p "") (fun e => ht e.symm) ((turns l.length p).zip (pf.zip (path l p))) (fun z hz => by
    have hz2 := (List.of_mem_zip hz).2
    obtain ⟨q1, q2⟩ := List.of_mem_zip (a := z.2.1) (b := z.2.2) hz2
    exact ⟨hb _ q1, (hpb _ q2).1⟩) (by rw [k1, k2, h2, h3])
  rw [k1, k2] at this
  exact this
section
variable {R : Rn} (m : Mc R.mg) (d : Ds R)
include m d
theorem getS {l : List Str} {p : Nat} (h : p < l.length) : atI (l.map D.str) (p : Int) = some (.str (l.getD p "")) := atI_map D.str (by simp [h])
/-- clash_of, where the proof holds -/
theorem p_clash : Pr false B0 R 14 "clash_of" 4 (fun a : CA => a.ok ∧ a.inB = true) (fun a => [.im (tS a.l), .im (.int (a.p : Nat)), .im (.str a.t), .im a.y]) fun a r => (a.l.getD a.p "" = a.t ∧ r = .im .non) ∨ (a.l.getD a.p "" ≠ a.t ∧ ∃ x y, r = .im (.tup [.str x, .str y]) ∧ x ≠ y ∧ dg x = dg y) := by
  refine pr_mk d.dClashOf scClashOf rfl m.fr ckClashOf (fun _ _ => ⟨rfl, rfl⟩) fun X c hX hB a ha => ?_
  obtain ⟨l, p, t, y⟩ := a
  obtain ⟨ho, hin⟩ := ha
  have hia := ho.ia
  obtain ⟨h1, h2, h3, h4⟩ := ho
  dsimp only at h1 h2 h3 h4
  show vS X c rClashOf (defBody sClashOf) [.im (tS l), .im (.int (p : Nat)), .im (.str t), .im y, .any, .any, .any, .any] _
  refine ⟨_, prm (p_chkPl m d) hX fun _ _ => trivial, (l, p), ⟨h1, h2⟩, rfl, fun r _ hr => ?_⟩
  refine ⟨_, prm (p_isIn m d) hX fun _ _ => trivial, _, prm (p_root m d 8) hX fun _ _ => trivial, l, h1, rfl, fun r _ hr => ?_⟩
  subst hr
  refine ⟨⟨root l, l.length, p, t, y⟩, hia, ?_, fun r _ hr => ?_⟩
  · exact congrArg (fun n : Nat => [Sl.im (.int (root l)), Sl.im (.int (n : Int)), Sl.im (.int (p : Int)), Sl.im (.str t), Sl.im y]) (List.length_map ..)
  subst hr
  have hin : K85.inB (root l) l.length p t y = true := hin
  show (((!K85.inB (root l) l.length p t y) = true → _) ∧ _)
  rw [hin]
  refine ⟨(fun z => by cases z), fun _ => ?_⟩
  refine ⟨_, getS m d h2, fun z => ?_, fun z => ?_⟩
  · exact ⟨rfl, .inl ⟨of_decide_eq_true z, rfl⟩⟩
  have hne : l.getD p "" ≠ t := of_decide_eq_false z
  cases y with
  | tup q =>
    have hin : (q.all isNat && inP (root l) l.length p t (q.map toI)) = true := hin
    rw [Bool.and_eq_true] at hin
    obtain ⟨e1, e2⟩ := nats_eq hin.1
    have hC := inP_pf h2 hin.2 (fun x hx => (e2 x hx).1) hne
    generalize q.map toI = pf at e1 e2 hC
    subst e1
    have hfit : ∀ x ∈ pf, BI x := fun x hx => ⟨(e2 x hx).1, (h4 _ rfl).2 x (e2 x hx).2⟩
    refine ⟨_, prm (p_up m d) hX fun _ _ => trivial, ⟨l.length, p, t, pf⟩, ⟨by show 1 ≤ l.length; omega, h1.1, h2, h3, hfit⟩, ?_, fun r _ hr => ?_⟩
    · exact congrArg (fun n : Nat => [Sl.im (.int (n : Int)), Sl.im (.int (p : Int)), Sl.im (.str t), Sl.im (tI pf)]) (List.length_map ..)
    subst hr
    refine ⟨_, prm (p_up m d) hX fun _ _ => trivial, _, getS m d h2, _, prm (p_path m d 8 (by decide)) hX fun _ _ => trivial, (l, p), ⟨h1.1, h1.2, h2⟩, rfl, fun r _ hr => ?_⟩
    subst hr
    have hs : (l.getD p "").length ≤ 200 := h1.2 _ (by
      have e : l.getD p "" = l[p] := by simp [h2]
      rw [e]
      exact List.getElem_mem _)
    refine ⟨⟨l.length, p, l.getD p "", path l p⟩, ⟨by show 1 ≤ l.length; omega, h1.1, h2, hs, fun x hx => (path_b _ l p (Nat.le_refl _) x hx).bi⟩, ?_, fun r _ hr => ?_⟩
    · exact congrArg (fun n : Nat => [Sl.im (.int (n : Int)), Sl.im (.int (p : Int)), Sl.im (.str (l.getD p "")), Sl.im (tI (path l p))]) (List.length_map ..)
    subst hr
    dsimp only
    revert hC
    generalize txs t ((turns l.length p).zip pf) = A
    generalize txs (l.getD p "") ((turns l.length p).zip (path l p)) = A2
    intro hC
    have er : ∀ B : List Str, (B.map D.str).reverse = B.reverse.map D.str := fun B => List.map_reverse.symm
    refine ⟨fun i Γ => fcL A.reverse A2.reverse = fcL (A.reverse.drop i) (A2.reverse.drop i) ∧ ∃ s6 s7, Γ = [.im (tS l), .im (.int (p : Nat)), .im (.str t), .im (tI pf), .own (.lst (A.map D.str)), .own (.lst (A2.map D.str)), s6, s7], ⟨rfl, _, _, rfl⟩, fun F i Γ hi hj => ?_, fun Γ hj => ?_⟩
    · obtain ⟨hf, s6, s7, rfl⟩ := hj
      rw [er, er, List.length_map, List.length_map] at hi
      have i1 : i < A.reverse.length := by omega
      have i2 : i < A2.reverse.length := by omega
      refine ⟨.tup [.str A.reverse[i], .str A2.reverse[i]], by show D.tup [((A.map D.str).reverse).getD i .non, ((A2.map D.str).reverse).getD i .non] = _; rw [er, er, getD_mapD D.str _ i1, getD_mapD D.str _ i2], ?_⟩
      rw [List.drop_eq_getElem_cons i1, List.drop_eq_getElem_cons i2, fcL_cons] at hf
      revert hf
      generalize A.reverse[i] = u
      generalize A2.reverse[i] = v
      intro hf
      refine ⟨fun z => ?_, fun z => ?_⟩
      · have z : (!decide (u = v)) = true := z
        have huv : u ≠ v := by simpa using z
        rw [if_neg huv] at hf
        obtain ⟨x', y', c1, c2, c3⟩ := hC
        rw [hf] at c1
        cases c1
        exact ⟨rfl, .inr ⟨hne, _, _, rfl, c2, c3⟩⟩
      · have z : (!decide (u = v)) = false := z
        have huv : u = v := by simpa using z
        rw [if_pos huv] at hf
        exact ⟨hf, _, _, rfl⟩
    · obtain ⟨hf, s6, s7, rfl⟩ := hj
      rw [er, er, List.length_map, List.length_map] at hf
      obtain ⟨x', y', c1, c2, c3⟩ := hC
      rw [hf, fcL_nil] at c1
      · cases c1
      · rcases Nat.le_total A.reverse.length A2.reverse.length with q | q
        · exact .inl (List.drop_eq_nil_iff.mpr (by omega))
        · exact .inr (List.drop_eq_nil_iff.mpr (by omega))
  | _ => cases hin
/-- clash_of, where the proof does not hold -/
theorem p_clashE {N : Addr} (O : OwnE R.K R.mg "NoProof" N) : PrE R 14 "clash_of" 4 (fun a : CA => a.ok ∧ a.inB = false) (fun a => [tS a.l, .int (a.p : Nat), .str a.t, a.y]) (.ref N) := by
  refine prE_mkO d.dClashOf scClashOf rfl m.fr ckClashOf (fun _ _ => rfl) fun X c hX ok hR a ha => ?_
  obtain ⟨l, p, t, y⟩ := a
  obtain ⟨ho, hin⟩ := ha
  have hia := ho.ia
  obtain ⟨h1, h2, h3, h4⟩ := ho
  dsimp only at h1 h2 h3 h4
  show vS X c rClashOf (defBody sClashOf) [.im (tS l), .im (.int (p : Nat)), .im (.str t), .im y, .any, .any, .any, .any] _
  refine ⟨_, prm (p_chkPl m d) hX fun _ _ => trivial, (l, p), ⟨h1, h2⟩, rfl, fun r _ hr => ?_⟩
  refine ⟨_, prm (p_isIn m d) hX fun _ _ => trivial, _, prm (p_root m d 8) hX fun _ _ => trivial, l, h1, rfl, fun r _ hr => ?_⟩
  subst hr
  refine ⟨⟨root l, l.length, p, t, y⟩, hia, ?_, fun r _ hr => ?_⟩
  · exact congrArg (fun n : Nat => [Sl.im (.int (root l)), Sl.im (.int (n : Int)), Sl.im (.int (p : Int)), Sl.im (.str t), Sl.im y]) (List.length_map ..)
  subst hr
  have hin : K85.inB (root l) l.length p t y = false := hin
  show (((!K85.inB (root l) l.length p t y) = true → _) ∧ _)
  rw [hin]
  refine ⟨fun _ => ?_, (fun z => by cases z)⟩
  have O2 : OwnE X.K X.mg "NoProof" N := by
    rw [hX.K, hX.mg]
    exact O
  exact wst_raise O2 hX.calm hR (ok.glo (by decide +kernel)).1
end
end K85

set_option Elab.async false
set_option linter.all false
set_option pp.maxSteps 300
set_option maxRecDepth 100000
set_option maxHeartbeats 2000000
/-! A8: k85: walks: is_clash (both), the law's up and is_in -/
namespace K85
open PySem PySem.Spec PyProof.Rows L2 DL
theorem getD_at {l : List D} {i : Nat} (h : i < l.length) : l.getD i .non = l[i] := by simp [h]
def isS : D → Bool
  | .str _ => true
  | _ => false
def clB : D → Bool
  | .tup [.str a, .str b] => (!decide (a = b)) && decide (dg a = dg b)
  | _ => false
def oD : Option Int → D
  | some i => .int i
  | none => .non
section
variable {R : Rn} (m : Mc R.mg) (d : Ds R)
include m d
theorem p_isClash : Pr false B0 R 2 "is_clash" 1 (fun _ : D => True) (fun x => [.im x]) fun x r => r = .im (.bl (clB x)) := by
  refine pr_mk d.dIsClash scIsClash rfl m.fr ckIsClash (fun _ _ => ⟨rfl, rfl⟩) fun X c hX hB x _ => ?_
  have no : ∀ y : D, isD .tup y = false → clB y = false := fun y h => by
    cases y with
    | tup l => cases h
    | _ => rfl
  cases x with
  | tup l =>
    match l with
    | [a, b] =>
      refine ⟨fun x => x = !(isS a && isS b), ⟨true, rfl, fun _ => ⟨fun _ => ?_, (fun z => by cases z)⟩, (fun z => by cases z)⟩, fun x hx => ?_⟩
      · refine ⟨sz (show 2 ≤ 10000 by decide), fun i acc => acc = ([a, b].take i).map fun y => D.bl (isS y), rfl, fun i acc hi hJ F1 H1 => ⟨[a, b][i], getD_at hi, fun Y hY => ⟨fun _ Y hY => ⟨isS [a, b][i], ?_, snocM (f := fun y => D.bl (isS y)) hi hJ⟩, (fun z => by cases z)⟩⟩, fun acc hJ => ?_⟩
        · generalize [a, b][i] = y
          cases y <;> rfl
        · have hJ : acc = ([a, b].map isS).map D.bl := hJ
          refine ⟨[a, b].map isS, hJ, ?_⟩
          show (!(isS a && (isS b && true))) = _
          rw [Bool.and_true]
      subst hx
      cases a with
      | str s =>
        cases b with
        | str t =>
          refine ⟨(fun z => by cases z), fun _ => ?_⟩
          refine ⟨.str s, rfl, .str t, rfl, fun z => ?_, fun z => ⟨rfl, ?_⟩⟩
          · refine ⟨_, prm (p_dig m d) hX fun _ _ => trivial, .str s, rfl, s, trivial, rfl, fun r _ hr => ?_⟩
            subst hr
            refine ⟨_, prm (p_dig m d) hX fun _ _ => trivial, .str t, rfl, t, trivial, rfl, fun r _ hr => ?_⟩
            subst hr
            refine ⟨rfl, ?_⟩
            show _ = Sl.im (.bl ((!decide (s = t)) && decide (dg s = dg t)))
            rw [show (!decide (s = t)) = true from z]
            rfl
          · show _ = Sl.im (.bl ((!decide (s = t)) && decide (dg s = dg t)))
            rw [show (!decide (s = t)) = false from z]
            rfl
        | _ => exact ⟨fun _ => ⟨rfl, rfl⟩, (fun z => by cases z)⟩
      | _ => exact ⟨fun _ => ⟨rfl, rfl⟩, (fun z => by cases z)⟩
    | [] => exact ⟨fun x => x = true, ⟨true, rfl, fun _ => ⟨(fun z => by cases z), fun _ => rfl⟩, (fun z => by cases z)⟩, fun x hx => by subst hx; exact ⟨fun _ => ⟨rfl, rfl⟩, (fun z => by cases z)⟩⟩
    | [a] => exact ⟨fun x => x = true, ⟨true, rfl, fun _ => ⟨(fun z => by cases z), fun _ => rfl⟩, (fun z => by cases z)⟩, fun x hx => by subst hx; exact ⟨fun _ => ⟨rfl, by cases a <;> rfl⟩, (fun z => by cases z)⟩⟩
    | a :: b :: e :: q =>
      have hne : decide (((a :: b :: e :: q).length : Int) = 2) = false := decide_eq_false (by
        show ¬ ((q.length + 1 + 1 + 1 : Nat) : Int) = 2
        omega)
      refine ⟨fun x => x = true, ⟨true, rfl, fun _ => ?_, (fun z => by cases z)⟩, fun x hx => ?_⟩
      · show ((!decide (((a :: b :: e :: q).length : Int) = 2)) = false → _) ∧ ((!decide (((a :: b :: e :: q).length : Int) = 2)) = !false → _)
        rw [hne]
        exact ⟨(fun z => by cases z), fun _ => rfl⟩
      · subst hx
        refine ⟨fun _ => ⟨rfl, ?_⟩, (fun z => by cases z)⟩
        cases a <;> first | rfl | (cases b <;> rfl)
  | _ => exact ⟨fun x => x = true, ⟨false, rfl, (fun z => by cases z), fun _ => rfl⟩, fun x hx => by subst hx; exact ⟨fun _ => ⟨rfl, rfl⟩, (fun z => by cases z)⟩⟩
theorem p_lisClash : Pr false B0 R 2 "_law_is_clash" 1 (fun _ : D => True) (fun x => [.im x]) fun x r => r = .im (.bl (clB x)) := by
  refine pr_mk d.dLIsClash scLIsClash rfl m.fr ckLIsClash (fun _ _ => ⟨rfl, rfl⟩) fun X c hX hB x _ => ?_
  cases x with
  | tup l =>
    match l with
    | [a, b] =>
      refine ⟨fun x => x = false, ⟨true, rfl, fun _ => rfl, (fun z => by cases z)⟩, fun x hx => ?_⟩
      subst hx
      refine ⟨(fun z => by cases z), fun _ => ?_⟩
      have body : ∀ (Q : Bool → Prop), (isS a = true → isS b = true → ∀ s t, a = .str s → b = .str t → Q (decide (s = t))) → ((isS a && isS b) = false → Q true) → vTs X c false [.nt (.val (.bi .all [.lc [("text", 1)] (.nm 1) (.seqT (.var 0)) none (.isi (.var 1) .str)])), .cmp .Eq (.ix (.var 0) (.int 0)) (.ix (.var 0) (.int 1))] (eA (sE ((defBody sLIsClash).tail.headD dS))) [.im (.tup [a, b]), .any] Q := by
        intro Q h1 h2
        refine ⟨sz (show 2 ≤ 10000 by decide), fun i acc => acc = ([a, b].take i).map fun y => D.bl (isS y), rfl, fun i acc hi hJ F1 H1 => ⟨[a, b][i], getD_at hi, fun Y hY => ⟨fun _ Y hY => ⟨isS [a, b][i], ?_, snocM (f := fun y => D.bl (isS y)) hi hJ⟩, (fun z => by cases z)⟩⟩, fun acc hJ => ?_⟩
        · generalize [a, b][i] = y
          cases y <;> rfl
        · have hJ : acc = ([a, b].map isS).map D.bl := hJ
          refine ⟨[a, b].map isS, hJ, ?_⟩
          show ((!(isS a && (isS b && true))) = false → _) ∧ ((!(isS a && (isS b && true))) = true → _)
          rw [Bool.and_true]
          cases a with
          | str s =>
            cases b with
            | str t => exact ⟨fun _ => ⟨.str s, rfl, .str t, rfl, h1 rfl rfl s t rfl rfl⟩, (fun z => by cases z)⟩
            | _ => exact ⟨(fun z => by cases z), fun _ => h2 rfl⟩
          | _ => exact ⟨(fun z => by cases z), fun _ => h2 rfl⟩
      refine ⟨fun x => (∃ s t, a = .str s ∧ b = .str t ∧ x = decide (s = t)) ∨ ((isS a && isS b) = false ∧ x = true), body _ (fun _ _ s t e1 e2 => .inl ⟨s, t, e1, e2, rfl⟩) (fun h => .inr ⟨h, rfl⟩), fun x hx => ?_⟩
      rcases hx with ⟨s, t, rfl, rfl, rfl⟩ | ⟨h, rfl⟩
      · refine ⟨fun z => ⟨rfl, ?_⟩, fun z => ?_⟩
        · show _ = Sl.im (.bl ((!decide (s = t)) && decide (dg s = dg t)))
          rw [z]
          rfl
        · refine ⟨_, prm (p_ldig m d) hX fun _ _ => trivial, .str s, rfl, s, trivial, rfl, fun r _ hr => ?_⟩
          subst hr
          refine ⟨_, prm (p_ldig m d) hX fun _ _ => trivial, .str t, rfl, t, trivial, rfl, fun r _ hr => ?_⟩
          subst hr
          refine ⟨rfl, ?_⟩
          show _ = Sl.im (.bl ((!decide (s = t)) && decide (dg s = dg t)))
          rw [z]
          rfl
      · refine ⟨fun _ => ⟨rfl, ?_⟩, (fun z => by cases z)⟩
        cases a with
        | str s =>
          cases b with
          | str t => cases h
          | _ => rfl
        | _ => rfl
    | [] => exact ⟨fun x => x = true, ⟨true, rfl, fun _ => rfl, (fun z => by cases z)⟩, fun x hx => by subst hx; exact ⟨fun _ => ⟨rfl, rfl⟩, (fun z => by cases z)⟩⟩
    | [a] => exact ⟨fun x => x = true, ⟨true, rfl, fun _ => rfl, (fun z => by cases z)⟩, fun x hx => by subst hx; exact ⟨fun _ => ⟨rfl, by cases a <;> rfl⟩, (fun z => by cases z)⟩⟩
    | a :: b :: e :: q =>
      have hne : decide (((a :: b :: e :: q).length : Int) = 2) = false := decide_eq_false (by
        show ¬ ((q.length + 1 + 1 + 1 : Nat) : Int) = 2
        omega)
      refine ⟨fun x => x = true, ⟨true, rfl, fun _ => ?_, (fun z => by cases z)⟩, fun x hx => ?_⟩
      · show (!decide (((a :: b :: e :: q).length : Int) = 2)) = true
        rw [hne]
        rfl
      · subst hx
        refine ⟨fun _ => ⟨rfl, ?_⟩, (fun z => by cases z)⟩
        cases a <;> first | rfl | (cases b <;> rfl)
  | _ => exact ⟨fun x => x = true, ⟨false, rfl, (fun z => by cases z), fun _ => rfl⟩, fun x hx => by subst hx; exact ⟨fun _ => ⟨rfl, rfl⟩, (fun z => by cases z)⟩⟩
/-! ### the law's way up -/
structure PA where
  n : Nat
  p : Nat
  h : Int
  pf : List Int
theorem up_b {h : Int} (hb : BI h) : ∀ (e n p : Nat) (pf : List Int), n ≤ e → ∀ x, up n p h pf = some x → BI x := by
  intro e
  induction e with
  | zero =>
    intro n p pf hn x hx
    rw [up, dif_pos (by omega)] at hx
    split at hx
    · cases hx
      exact hb
    · cases hx
  | succ e ih =>
    intro n p pf hn x hx
    rw [up] at hx
    split at hx
    · split at hx
      · cases hx
        exact hb
      · cases hx
    · split at hx
      · cases hx
      · split at hx
        · split at hx
          · cases hx
            exact (dg_b _).bi
          · cases hx
        · split at hx
          · cases hx
            exact (dg_b _).bi
          · cases hx
theorem p_lup : ∀ e : Nat, Pr false B0 R (e + 3) "_law_up" 4 (fun a : PA => 1 ≤ a.n ∧ a.n ≤ 2 ^ e ∧ a.p < a.n ∧ BI a.h ∧ ∀ x ∈ a.pf, BI x) (fun a => [.im (.int (a.n : Nat)), .im (.int (a.p : Nat)), .im (.int a.h), .im (tI a.pf)]) fun a r => r = .im (oD (up a.n a.p a.h a.pf)) := by
  have base : ∀ (X : Cx) (c : C0) (p : Nat) (h : Int) (pf : List Int), ∀ E : DEnds, (∀ r, good r = true → r = .im (oD (up 1 p h pf)) → E.rt r) → vS X c rLUp (defBody sLUp) [.im (.int ((1 : Nat) : Int)), .im (.int (p : Nat)), .im (.int h), .im (tI pf), .any, .any] E := by
    intro X c p h pf E hE
    cases pf with
    | nil =>
      refine ⟨fun _ => ⟨fun _ => hE _ rfl ?_, (fun z => by cases z)⟩, (fun z => by cases z)⟩
      rw [up, dif_pos (by decide), if_pos rfl]
      rfl
    | cons x pf =>
      refine ⟨fun _ => ⟨fun z => ?_, fun _ => hE _ rfl ?_⟩, (fun z => by cases z)⟩
      · have z := of_decide_eq_true z
        rw [List.length_map, List.length_cons] at z
        omega
      · rw [up, dif_pos (by decide), if_neg (by simp)]
        rfl
  intro e
  induction e with
  | zero =>
    refine pr_mk d.dLUp scLUp rfl m.fr ckLUp (fun _ _ => ⟨rfl, rfl⟩) fun X c hX hB a ha => ?_
    obtain ⟨n, p, h, pf⟩ := a
    obtain ⟨h1, h2, h3, h4, h5⟩ := ha
    dsimp only at h1 h2 h3 h4 h5
    have : n = 1 := by
      have : n ≤ 1 := h2
      omega
    subst this
    exact base X c p h pf _ fun r hg hr => ⟨hg, hr⟩
  | succ e ih =>
    refine pr_mk d.dLUp scLUp rfl m.fr ckLUp (fun _ _ => ⟨rfl, rfl⟩) fun X c hX hB a ha => ?_
    obtain ⟨n, p, h, pf⟩ := a
    obtain ⟨h1, h2, h3, h4, h5⟩ := ha
    dsimp only at h1 h2 h3 h4 h5
    show vS X c rLUp (defBody sLUp) [.im (.int (n : Nat)), .im (.int (p : Nat)), .im (.int h), .im (tI pf), .any, .any] _
    by_cases hn : n = 1
    · subst hn
      exact base X c p h pf _ fun r hg hr => ⟨hg, hr⟩
    have hn2 : 2 ≤ n := by omega
    obtain ⟨g1, g2⟩ := lp_pow hn2 h2
    obtain ⟨q1, q2, q3, _⟩ := lp_ok hn2
    refine ⟨fun z => ?_, fun _ => ?_⟩
    · have z := of_decide_eq_true z
      omega
    rcases List.eq_nil_or_concat pf with rfl | ⟨qf, x, rfl⟩
    · refine ⟨fun _ => ⟨rfl, ?_⟩, (fun z => by cases z)⟩
      show _ = Sl.im (oD (up n p h []))
      rw [up, dif_neg (by omega), if_pos rfl]
      rfl
    rw [List.concat_eq_append] at h5 ⊢
    refine ⟨fun z => ?_, fun _ => ?_⟩
    · have z := of_decide_eq_true z
      rw [List.length_map, List.length_append, List.length_singleton] at z
      omega
    refine ⟨_, prm (p_cut m d) hX (fun _ _ => trivial) (by omega), n, hn2, rfl, fun r _ hr => ?_⟩
    subst hr
    have ec : cutD ((qf ++ [x]).map D.int) none (some (-1)) = qf.map D.int := by rw [cutD_map, cutG_init, List.dropLast_concat]
    have el : atI ((qf ++ [x]).map D.int) (-1) = some (.int x) := by
      rw [List.map_append]
      exact atI_last _ _
    have hx : BI x := h5 x (by simp)
    have hq : ∀ y ∈ qf, BI y := fun y hy => h5 y (by simp [hy])
    have eu : up n p h (qf ++ [x]) = if p < lp n then (match up (lp n) p h qf with
        | some y => some (dg (nodeT y x))
        | none => none) else (match up (n - lp n) (p - lp n) h qf with
        | some y => some (dg (nodeT x y))
        | none => none) := by
      rw [up, dif_neg (by omega), if_neg (by simp), List.dropLast_concat, List.getLast?_concat]
      rfl
    refine ⟨fun z => ?_, fun z => ?_⟩
    · have z := of_decide_eq_true z
      have hp : p < lp n := by omega
      rw [if_pos hp] at eu
      refine ⟨_, prm ih hX (fun _ _ => trivial) (by omega), ⟨lp n, p, h, qf⟩, ⟨q1, g1, hp, h4, hq⟩, ?_, fun r _ hr => ?_⟩
      · exact congrArg (fun q => [Sl.im (.int (lp n : Nat)), Sl.im (.int (p : Nat)), Sl.im (.int h), Sl.im (.tup q)]) ec
      subst hr
      have hub := up_b m d h4 _ (lp n) p qf (Nat.le_refl _)
      dsimp only
      revert eu hub
      generalize up (lp n) p h qf = o
      intro eu hub
      cases o with
      | none =>
        refine ⟨fun _ => ⟨rfl, ?_⟩, (fun z => by cases z)⟩
        show _ = Sl.im (oD (up n p h (qf ++ [x])))
        rw [eu]
        rfl
      | some y =>
        refine ⟨(fun z => by cases z), fun _ => ⟨_, prm (p_lnode m d) hX (fun _ _ => trivial) (by omega), .int x, el, (y, x), ⟨hub y rfl, hx⟩, rfl, fun r hg hr => ⟨hg, ?_⟩⟩⟩
        show _ = Sl.im (oD (up n p h (qf ++ [x])))
        rw [eu]
        exact hr
    · have z := of_decide_eq_false z
      have hp : ¬ p < lp n := by omega
      rw [if_neg hp] at eu
      refine ⟨_, prm ih hX (fun _ _ => trivial) (by omega), ⟨n - lp n, p - lp n, h, qf⟩, ⟨by show 1 ≤ n - lp n; omega, g2, by show p - lp n < n - lp n; omega, h4, hq⟩, ?_, fun r _ hr => ?_⟩
      · show [Sl.im (.int ((n : Int) - (lp n : Int))), Sl.im (.int ((p : Int) - (lp n : Int))), Sl.im (.int h), Sl.im (.tup (cutD ((qf ++ [x]).map D.int) none (some (-1))))] = _
        rw [aSub (show lp n ≤ n by omega), aSub (show lp n ≤ p by omega), ec]
      subst hr
      have hub := up_b m d h4 _ (n - lp n) (p - lp n) qf (Nat.le_refl _)
      dsimp only
      revert eu hub
      generalize up (n - lp n) (p - lp n) h qf = o
      intro eu hub
      cases o with
      | none =>
        refine ⟨fun _ => ⟨rfl, ?_⟩, (fun z => by cases z)⟩
        show _ = Sl.im (oD (up n p h (qf ++ [x])))
        rw [eu]
        rfl
      | some y =>
        refine ⟨(fun z => by cases z), fun _ => ⟨_, prm (p_lnode m d) hX (fun _ _ => trivial) (by omega), .int x, el, (x, y), ⟨hx, hub y rfl⟩, rfl, fun r hg hr => ⟨hg, ?_⟩⟩⟩
        show _ = Sl.im (oD (up n p h (qf ++ [x])))
        rw [eu]
        exact hr
theorem p_lisIn : Pr false B0 R 12 "_law_is_in" 5 IA.ok (fun a => [.im (.int a.rt), .im (.int (a.n : Nat)), .im (.int (a.p : Nat)), .im (.str a.t), .im a.d]) fun a r => r = .im (.bl (inB a.rt a.n a.p a.t a.d)) := by
  refine pr_mk d.dLIsIn scLIsIn rfl m.fr ckLIsIn (fun _ _ => ⟨rfl, rfl⟩) fun X c hX hB a ha => ?_
  obtain ⟨rt, n, p, t, y⟩ := a
  obtain ⟨h1, h2, h3, h4, h5⟩ := ha
  dsimp only at h1 h2 h3 h4 h5
  show vS X c rLIsIn (defBody sLIsIn) [.im (.int rt), .im (.int (n : Nat)), .im (.int (p : Nat)), .im (.str t), .im y, .any] _
  have ht := turns8 (n := n) (p := p) h2
  cases y with
  | tup l =>
    obtain ⟨hl, hfit⟩ := h5 l rfl
    refine ⟨fun x => x = decide (20 < l.length), ⟨true, rfl, fun _ => ?_, (fun z => by cases z)⟩, fun x hx => ?_⟩
    · show decide ((20 : Int) < (l.length : Nat)) = decide (20 < l.length)
      by_cases e : 20 < l.length
      · rw [decide_eq_true e, decide_eq_true (by omega)]
      · rw [decide_eq_false e, decide_eq_false (by omega)]
    subst hx
    refine ⟨fun z => ⟨rfl, ?_⟩, fun z => ?_⟩
    · have z := of_decide_eq_true z
      show _ = Sl.im (.bl (l.all isNat && (decide ((l.map toI).length = (turns n p).length) && _)))
      rw [List.length_map, decide_eq_false (show ¬ l.length = (turns n p).length by omega), Bool.false_and, Bool.and_false]
    have z := of_decide_eq_false z
    refine ⟨sz hl, fun i acc => acc = (l.take i).map fun y => D.bl (isNat y), rfl, fun i acc hi hJ F1 H1 => ⟨l[i], getD_at hi, fun Y hY => ⟨fun _ Y hY => ⟨_, prm (p_lint m d) (hX.blk hY) (fun _ _ => trivial), l[i], trivial, rfl, fun r _ hr => ?_⟩, (fun z => by cases z)⟩⟩, fun acc hJ => ?_⟩
    · subst hr
      have hK := snocM (f := fun y => D.bl (isNat y)) hi hJ
      revert hK
      generalize l[i] = y
      intro hK
      cases y with
      | int j => exact ⟨fun _ => hK, (fun z => by cases z)⟩
      | _ => exact ⟨(fun z => by cases z), fun _ => hK⟩
    obtain rfl : acc = l.map fun y => D.bl (isNat y) := by
      have e : acc = (l.take l.length).map fun y => D.bl (isNat y) := hJ
      rw [List.take_length] at e
      exact e
    refine ⟨l.map isNat, by rw [List.map_map]; rfl, ?_⟩
    have ea : (l.map isNat).all id = l.all isNat := by rw [List.all_map]; rfl
    show ((!(l.map isNat).all id) = true → _) ∧ ((!(l.map isNat).all id) = false → _)
    rw [ea]
    cases hal : l.all isNat with
    | false =>
      refine ⟨fun _ => ⟨rfl, ?_⟩, (fun z => by cases z)⟩
      show _ = Sl.im (.bl (l.all isNat && _))
      rw [hal]
      rfl
    | true =>
      refine ⟨(fun z => by cases z), fun _ => ?_⟩
      obtain ⟨e1, e2⟩ := nats_eq hal
      have e5 : ("leaf " : Str).length = 5 := by decide +kernel
      refine ⟨_, prm (p_lup m d 8) hX (fun _ _ => trivial), _, prm (p_ldig m d) hX (fun _ _ => trivial), sz (by omega), leafT t, trivial, rfl, fun r _ hr => ?_⟩
      subst hr
      refine ⟨⟨n, p, dg (leafT t), l.map toI⟩, ⟨h1, h2, h3, (dg_b _).bi, fun x hx => ⟨(e2 x hx).1, hfit x (e2 x hx).2⟩⟩, ?_, fun r _ hr => ?_⟩
      · exact congrArg (fun q => [Sl.im (.int (n : Nat)), Sl.im (.int (p : Nat)), Sl.im (.int (dg (leafT t))), Sl.im (.tup q)]) e1
      subst hr
      dsimp only
      rw [up_ok t n n p (Nat.le_refl _) h1]
      have due : inB rt n p t (.tup l) = inP rt n p t (l.map toI) := by
        show (l.all isNat && _) = _
        rw [hal]
        rfl
      by_cases el : (l.map toI).length = (turns n p).length
      · rw [if_pos el]
        refine ⟨rfl, ?_⟩
        show _ = Sl.im (.bl (inB rt n p t (.tup l)))
        rw [due]
        unfold inP
        rw [decide_eq_true el]
        rfl
      · rw [if_neg el]
        have s1 : SeqAt.shaped (py .non) = true := rfl
        have s2 : SeqAt.shaped (py (.int rt)) = true := rfl
        refine od_eqD hX.un s1 s2 ⟨rfl, ?_⟩
        show _ = Sl.im (.bl (inB rt n p t (.tup l)))
        rw [due]
        unfold inP
        rw [decide_eq_false el]
        rfl
  | _ => exact ⟨fun x => x = true, ⟨false, rfl, (fun z => by cases z), fun _ => rfl⟩, fun x hx => by subst hx; exact ⟨fun _ => ⟨rfl, rfl⟩, (fun z => by cases z)⟩⟩
end
end K85

set_option Elab.async false
set_option linter.all false
set_option pp.maxSteps 300
set_option maxRecDepth 100000
set_option maxHeartbeats 2000000
/-! A9: k85: walks: with the hand: any, texts, like, bent -/
namespace K85
open PySem PySem.Spec PyProof.Rows L2 DL
theorem atB {F H : Hp} {c : C0} (h : HandC c) : ∀ F H, HandC (c.at F H) := fun F H => h.at F H
/-! ### like texts -/
def wgt (l : List Nat) : Int := l.foldl (fun (a : Int) (c : Nat) => a * 131 + (c : Int)) 0
theorem wgt_acc : ∀ (l : List Nat) (a : Int), l.foldl (fun (a : Int) (c : Nat) => a * 131 + (c : Int)) a = a * 131 ^ l.length + wgt l := by
  intro l
  induction l with
  | nil => intro a; simp [wgt]
  | cons c l ih =>
    intro a
    have e1 := ih (a * 131 + (c : Int))
    have e2 := ih (0 * 131 + (c : Int))
    show l.foldl _ (a * 131 + (c : Int)) = a * 131 ^ (l.length + 1) + l.foldl _ (0 * 131 + (c : Int))
    rw [e1, e2, Int.pow_succ, Int.zero_mul, Int.zero_add, Int.add_mul, Int.mul_assoc, Int.mul_comm 131 (131 ^ l.length)]
    omega
theorem fold_lin : ∀ (l : List Nat) (f : Int), (l.foldl stp f) % 2305843009213693951 = (f * 131 ^ l.length + wgt l) % 2305843009213693951 := by
  intro l
  induction l with
  | nil => intro f; simp [wgt]
  | cons c l ih =>
    intro f
    show (l.foldl stp (stp f c)) % _ = _
    have e : f * 131 ^ (c :: l).length + wgt (c :: l) = (f * 131 + (c : Int)) * 131 ^ l.length + wgt l := by
      rw [← wgt_acc, ← wgt_acc]
      rfl
    rw [ih, e]
    unfold stp
    rw [Int.add_emod, Int.mul_emod, Int.emod_emod_of_dvd _ (Int.dvd_refl _), ← Int.mul_emod, ← Int.add_emod]
/-- of one digest, whatever the start -/
def Like (a b : Str) : Prop := ∀ f, B61 f → dgF f a = dgF f b
theorem like_of {a b : Str} (h1 : a.cps.toList.length = b.cps.toList.length) (h2 : wgt a.cps.toList % 2305843009213693951 = wgt b.cps.toList % 2305843009213693951) : Like a b := fun f hf => by
  have e : ∀ s : Str, dgF f s = (f * 131 ^ s.cps.toList.length + wgt s.cps.toList) % 2305843009213693951 := fun s => by
    rw [← fold_lin, Int.emod_eq_of_lt (fold_b _ f hf).1 (fold_b _ f hf).2]
    rfl
  rw [e, e, h1, Int.add_emod, h2, ← Int.add_emod]
theorem Like.around {a b : Str} (h : Like a b) (x y : Str) : Like (x ++ a ++ y) (x ++ b ++ y) := fun f hf => by
  rw [dgF_app, dgF_app, dgF_app, dgF_app, h (dgF f x) (fold_b _ f hf)]
theorem Like.symm {a b : Str} (h : Like a b) : Like b a := fun f hf => (h f hf).symm
theorem Like.dg {a b : Str} (h : Like a b) : dg a = dg b := h 7 ⟨by decide, by decide⟩
theorem Like.leaf {a b : Str} (h : Like a b) : K85.dg (leafT a) = K85.dg (leafT b) := by
  unfold K85.dg
  rw [dgF_app, dgF_app, h (dgF 7 "leaf ") (fold_b _ 7 ⟨by decide, by decide⟩)]
structure Lk (a b : Str) : Prop where
  like : Like a b
  ne : a ≠ b
  la : a.length ≤ 60
  lb : b.length ≤ 60
theorem lk_1 : Lk "aaaadcadaeaaccaaaaac" "cebcaababaacaadddeda" := ⟨like_of (by decide +kernel) (by decide +kernel), by decide +kernel, by decide +kernel, by decide +kernel⟩
theorem lk_2 : Lk "aaadaacbeedaaaeaacab" "bdaaaeaaaaacccaacaaa" := ⟨like_of (by decide +kernel) (by decide +kernel), by decide +kernel, by decide +kernel, by decide +kernel⟩
theorem lk_3 : Lk "cbafcbfaacaaaeabcaca" "aafaaaacbabdbaeaaaaf" := ⟨like_of (by decide +kernel) (by decide +kernel), by decide +kernel, by decide +kernel, by decide +kernel⟩
theorem app_inj {x a b y : Str} (h : x ++ a ++ y = x ++ b ++ y) : a = b := by
  have h1 := congrArg (fun s : Str => s.cps.toList) h
  simp only [app_toList] at h1
  exact str_ext (List.append_cancel_left (List.append_cancel_right h1))
section
variable {R : Rn} (m : Mc R.mg) (d : Ds R)
include m d
theorem p_drw : Pr false HandC R 1 "_law_draw" 2 (fun n : Nat => 0 < n ∧ n < 1073741824) (fun n => [.hand, .im (.int (n : Nat))]) fun n r => ∃ j : Nat, j < n ∧ r = .im (.int (j : Nat)) := pr_drw m.toMb d.dDrw
theorem p_any : Pr false HandC R 2 "_law_any" 2 (fun l : List D => 0 < l.length ∧ l.length ≤ 10000) (fun l => [.hand, .im (.lst l)]) fun l r => ∃ x ∈ l, r = .im x := by
  refine pr_mk d.dLAny scLAny rfl m.fr ckLAny (fun _ _ => ⟨rfl, rfl⟩) fun X c hX hB l hl => ?_
  refine ⟨_, prm (p_drw m d) hX (fun F H => hB.at F H), l.length, ⟨hl.1, by have := hl.2; omega⟩, rfl, fun r _ hr => ?_⟩
  obtain ⟨j, hj, rfl⟩ := hr
  exact ⟨l[j], atI_nat (by simp [hj]), rfl, _, List.getElem_mem hj, rfl⟩
/-- texts for entries -/
theorem p_texts : Pr false HandC R 3 "_law_texts" 2 (fun n : Nat => n ≤ 40) (fun n => [.hand, .im (.int (n : Nat))]) fun n r => ∃ l : List Str, l.length ≤ n ∧ Sz l ∧ r = .im (tS l) := by
  refine pr_mk d.dLTexts scLTexts rfl m.fr ckLTexts (fun _ _ => ⟨rfl, rfl⟩) fun X c hX hB n hn => ?_
  have w1 : ∀ x ∈ ([.str "", .str "a", .str "b", .str "leaf a", .str "node 1 2", .str "empty", .str "put a 1.0.0", .str "a", .str "&~ \n"] : List D), ∃ s : Str, x = .str s ∧ s.length ≤ 100 := fun x hx => by
    simp only [List.mem_cons, List.not_mem_nil, or_false] at hx
    rcases hx with rfl | rfl | rfl | rfl | rfl | rfl | rfl | rfl | rfl <;> exact ⟨_, rfl, by decide +kernel⟩
  refine ⟨_, prm (p_drw m d) hX (fun F H => hB.at F H), n + 1, ⟨by omega, by omega⟩, rfl, fun r _ hr => ?_⟩
  obtain ⟨j, hj, rfl⟩ := hr
  refine ⟨⟨by omega, by omega⟩, fun i Γ => ∃ (l : List Str) (s4 : Sl), l.length = i ∧ Sz l ∧ Γ = [.hand, .im (.int (n : Nat)), .im (.lst [.str "", .str "a", .str "b", .str "leaf a", .str "node 1 2", .str "empty", .str "put a 1.0.0", .str "a", .str "&~ \n"]), .own (.lst (l.map D.str)), s4], ⟨[], _, rfl, (fun _ h => by cases h), rfl⟩, fun F i Γ hi hj2 => ?_, fun Γ hj2 => ?_⟩
  · obtain ⟨l, s4, hl, hs, rfl⟩ := hj2
    have hB2 : HandC (c.up F) := ⟨hB.ex⟩
    refine ⟨_, rfl, ?_⟩
    have hi : i < 100 := by omega
    refine ⟨by rw [List.length_map]; exact Nat.lt_of_le_of_lt (show l.length ≤ 1000 by omega) (by decide), ?_⟩
    refine ⟨_, prm (p_any m d) hX (fun F H => hB2.at F H), _, ⟨by decide, by decide⟩, rfl, fun r _ hr => ?_⟩
    obtain ⟨x, hx, rfl⟩ := hr
    obtain ⟨s, rfl, hsl⟩ := w1 x hx
    have hi0 : BI (0 + (i : Int)) := ⟨by omega, by omega⟩
    refine ⟨_, prm (p_any m d) hX (fun F H => hB2.at F H), hi0.log, [.str "", .str "", .str (iT (0 + i))], ⟨(show 0 < 3 by decide), (show 3 ≤ 10000 by decide)⟩, rfl, fun r _ hr => ?_⟩
    obtain ⟨y, hy, rfl⟩ := hr
    obtain ⟨t, rfl, htl⟩ : ∃ t : Str, y = .str t ∧ t.length ≤ 100 := by
      simp only [List.mem_cons, List.not_mem_nil, or_false] at hy
      rcases hy with rfl | rfl | rfl
      · exact ⟨_, rfl, by decide +kernel⟩
      · exact ⟨_, rfl, by decide +kernel⟩
      · exact ⟨_, rfl, Nat.le_trans (iT_len hi0) (by decide)⟩
    refine ⟨sz (by omega), l ++ [s ++ t], .im (.int (0 + (i : Int))), by simp [hl], fun u hu => ?_, ?_⟩
    · rcases List.mem_append.mp hu with q | q
      · exact hs u q
      · rw [List.mem_singleton.mp q, slen_app]
        omega
    · rw [List.map_append]
      rfl
  · obtain ⟨l, s4, hl, hs, rfl⟩ := hj2
    refine ⟨rfl, l, ?_, hs, rfl⟩
    have : l.length = (j : Int).toNat := hl
    omega
theorem p_like : Pr false HandC R 3 "_law_are_like" 1 (fun _ : Unit => True) (fun _ => [.hand]) fun _ r => ∃ a b, Lk a b ∧ r = .im (.tup [.str a, .str b]) := by
  refine pr_mk d.dLAreLike scLAreLike rfl m.fr ckLAreLike (fun _ _ => ⟨rfl, rfl⟩) fun X c hX hB _ _ => ?_
  refine ⟨by decide, by decide, ?_⟩
  refine ⟨_, prm (p_any m d) hX (fun F H => hB.at F H), _, ⟨by decide, by decide⟩, rfl, fun r _ hr => ?_⟩
  obtain ⟨x, hx, rfl⟩ := hr
  obtain ⟨a, b, rfl, hl, la, lb⟩ : ∃ a b : Str, x = .tup [.str a, .str b] ∧ Lk a b ∧ a.length ≤ 30 ∧ b.length ≤ 30 := by
    have hx : x ∈ [D.tup [.str "aaaadcadaeaaccaaaaac", .str "cebcaababaacaadddeda"], D.tup [.str "aaadaacbeedaaaeaacab", .str "bdaaaeaaaaacccaacaaa"], D.tup [.str "cbafcbfaacaaaeabcaca", .str "aafaaaacbabdbaeaaaaf"]] := hx
    simp only [List.mem_cons, List.not_mem_nil, or_false] at hx
    rcases hx with rfl | rfl | rfl
    · exact ⟨_, _, rfl, lk_1, by decide +kernel, by decide +kernel⟩
    · exact ⟨_, _, rfl, lk_2, by decide +kernel, by decide +kernel⟩
    · exact ⟨_, _, rfl, lk_3, by decide +kernel, by decide +kernel⟩
  refine ⟨_, rfl, ?_⟩
  refine ⟨_, prm (p_any m d) hX (fun F H => hB.at F H), [.str "", .str "x", .str "leaf "], ⟨by decide, by decide⟩, rfl, fun r _ hr => ?_⟩
  obtain ⟨x, hx, rfl⟩ := hr
  obtain ⟨u, rfl, lu⟩ : ∃ u : Str, x = .str u ∧ u.length ≤ 10 := by
    simp only [List.mem_cons, List.not_mem_nil, or_false] at hx
    rcases hx with rfl | rfl | rfl <;> exact ⟨_, rfl, by decide +kernel⟩
  refine ⟨_, prm (p_any m d) hX (fun F H => hB.at F H), [.str "", .str "y", .str " 1 2"], ⟨by decide, by decide⟩, rfl, fun r _ hr => ?_⟩
  obtain ⟨x, hx, rfl⟩ := hr
  obtain ⟨v, rfl, lv⟩ : ∃ v : Str, x = .str v ∧ v.length ≤ 10 := by
    simp only [List.mem_cons, List.not_mem_nil, or_false] at hx
    rcases hx with rfl | rfl | rfl <;> exact ⟨_, rfl, by decide +kernel⟩
  refine ⟨rfl, rfl, ?_⟩
  have L1 := slen_app u a
  have L2 := slen_app u b
  have L3 := slen_app (u ++ a) v
  have L4 := slen_app (u ++ b) v
  have hk : Lk (u ++ a ++ v) (u ++ b ++ v) := ⟨hl.like.around u v, fun z => hl.ne (app_inj z), by omega, by omega⟩
  refine ⟨sz (by omega), sz (by omega), sz (by omega), sz (by omega), ?_⟩
  refine ⟨_, prm (p_drw m d) hX (fun F H => hB.at F H), 2, ⟨by decide, by decide⟩, rfl, fun r _ hr => ?_⟩
  obtain ⟨j, hj, rfl⟩ := hr
  exact ⟨fun _ => ⟨rfl, _, _, hk, rfl⟩, fun _ => ⟨rfl, _, _, ⟨hk.like.symm, fun z => hk.ne z.symm, hk.lb, hk.la⟩, rfl⟩⟩
end
end K85

set_option Elab.async false
set_option linter.all false
set_option pp.maxSteps 300
set_option maxRecDepth 100000
set_option maxHeartbeats 2000000
/-! A10: k85: walks: _law_bent -/
namespace K85
open PySem PySem.Spec PyProof.Rows L2 DL
/-- what may be handed in and shown -/
def OkT (y : D) : Prop := Fit y ∧ Sh y
/-- items of such -/
def It (x : D) : Prop := Rp 300 1 x ∧ ∀ i, x = .int i → i < 100000000000000000000
theorem okT_tup {l : List D} (hl : l.length ≤ 40) (h : ∀ x ∈ l, It x) : OkT (.tup l) :=
  ⟨fun q e => by cases e; exact ⟨by omega, fun i hi => (h _ hi).2 i rfl⟩, (rp_tup fun x hx => (h x hx).1).sh (sz' hl) (by decide) fun _ _ e => by cases e⟩
where sz' {n : Nat} (h : n ≤ 40) : n * (300 + 2) + 2 ≤ sizeLine := Nat.le_trans (show _ ≤ 20000 by omega) (by decide)
theorem it_int {i : Int} (h0 : 0 ≤ i) (h : i < 100000000000000000000) : It (.int i) := ⟨(rp_int h0 h).mono (by decide) (by decide), fun j e => by cases e; exact h⟩
theorem it_b {i : Int} (h : B61 i) : It (.int i) := it_int h.bi.1 h.bi.2
theorem it_tup {l : List Int} (hl : l.length ≤ 8) (h : ∀ i ∈ l, B61 i) : It (tI l) :=
  ⟨(rp_tup (n := 22) (dp := 0) fun x hx => by
    obtain ⟨i, hi, rfl⟩ := List.mem_map.mp hx
    exact rp_int (h i hi).bi.1 (h i hi).bi.2).mono (by rw [List.length_map]; omega) (by decide), fun j e => by cases e⟩
theorem fit_no {y : D} (h : ∀ l, y ≠ .tup l) : Fit y := fun l e => absurd e (h l)
section
variable {R : Rn} (m : Mc R.mg) (d : Ds R)
include m d
theorem p_bent : Pr false HandC R 3 "_law_bent" 2 (fun pf : List Int => pf.length ≤ 8 ∧ ∀ i ∈ pf, B61 i) (fun pf => [.hand, .im (tI pf)]) fun pf r => ∃ y, OkT y ∧ r = .im y := by
  refine pr_mk d.dLBent scLBent rfl m.fr ckLBent (fun _ _ => ⟨rfl, rfl⟩) fun X c hX hB pf hp => ?_
  obtain ⟨hl, hb⟩ := hp
  have ii : ∀ x ∈ pf.map D.int, It x := fun x hx => by
    obtain ⟨i, hi, rfl⟩ := List.mem_map.mp hx
    exact it_b (hb i hi)
  have ll : (pf.map D.int).length ≤ 8 := by rw [List.length_map]; exact hl
  refine ⟨_, prm (p_drw m d) hX (fun F H => hB.at F H), (pf.map D.int).length + 1, ⟨by omega, by omega⟩, rfl, fun r _ hr => ?_⟩
  obtain ⟨a, ha, rfl⟩ := hr
  refine ⟨_, prm (p_drw m d) hX (fun F H => hB.at F H), 6, ⟨by decide, by decide⟩, rfl, fun r _ hr => ?_⟩
  obtain ⟨w, hw, rfl⟩ := hr
  refine ⟨rfl, rfl, ?_⟩
  have tk : ∀ n : Nat, cutD (pf.map D.int) none (some (n : Int)) = (pf.map D.int).take n := fun n => by rw [cT_take, List.map_take]
  have dr : ∀ n : Nat, cutD (pf.map D.int) (some (n : Int)) none = (pf.map D.int).drop n := fun n => by rw [cT_drop, List.map_drop]
  have it : ∀ n, ∀ x ∈ (pf.map D.int).take n, It x := fun n x hx => ii x (List.mem_of_mem_take hx)
  have id : ∀ n, ∀ x ∈ (pf.map D.int).drop n, It x := fun n x hx => ii x (List.mem_of_mem_drop hx)
  have lt : ∀ n, ((pf.map D.int).take n).length ≤ 8 := fun n => by rw [List.length_take]; omega
  have ld : ∀ n, ((pf.map D.int).drop n).length ≤ 8 := fun n => by rw [List.length_drop]; omega
  have three : ∀ (n k : Nat) (x : D), It x → OkT (.tup ((pf.map D.int).take n ++ [x] ++ (pf.map D.int).drop k)) := fun n k x hx => okT_tup (by
    have h1 := lt n
    have h2 := ld k
    rw [List.length_append, List.length_append, List.length_singleton]
    omega) fun y hy => by
      rcases List.mem_append.mp hy with hy | hy
      · rcases List.mem_append.mp hy with hy | hy
        · exact it n y hy
        · rw [List.mem_singleton.mp hy]
          exact hx
      · exact id k y hy
  refine ⟨fun _ => ?_, fun _ => ⟨fun _ => ?_, fun _ => ?_⟩⟩
  · -- something else
    refine ⟨_, prm (p_any m d) hX (fun F H => hB.at F H), ⟨by decide, by decide, by omega⟩, sz (show 7 + 1 ≤ 10000 by decide), [D.lst (pf.map D.int), .non, .tup [], .tup (pf.map D.int).reverse, .str "proof", .dct [] [], .tup [tI pf], .tup (List.replicate (2 : Int).toNat (pf.map D.int)).flatten], ⟨(show 0 < 8 by decide), (show 8 ≤ 10000 by decide)⟩, rfl, fun r _ hr => ?_⟩
    obtain ⟨y, hy, rfl⟩ := hr
    refine ⟨rfl, y, ?_, rfl⟩
    have hy : y ∈ [D.lst (pf.map D.int), .non, .tup [], .tup (pf.map D.int).reverse, .str "proof", .dct [] [], .tup [tI pf], .tup (List.replicate (2 : Int).toNat (pf.map D.int)).flatten] := hy
    simp only [List.mem_cons, List.not_mem_nil, or_false] at hy
    rcases hy with rfl | rfl | rfl | rfl | rfl | rfl | rfl | rfl
    · exact ⟨fit_no (fun l e => by cases e), (rp_lst fun x hx => (ii x hx).1).sh (Nat.le_trans (show _ ≤ 20000 by omega) (by decide)) (by decide) fun _ _ e => by cases e⟩
    · exact ⟨fit_no (fun l e => by cases e), trivial⟩
    · exact okT_tup (by decide) fun x hx => by cases hx
    · exact okT_tup (by rw [List.length_reverse]; omega) fun x hx => ii x (List.mem_reverse.mp hx)
    · exact ⟨fit_no (fun l e => by cases e), (by decide +kernel : (reprText ("proof" : Str)).length ≤ sizeLine)⟩
    · exact ⟨fit_no (fun l e => by cases e), rfl, rfl⟩
    · exact okT_tup (show 1 ≤ 40 by decide) fun x hx => by rw [List.mem_singleton.mp hx]; exact it_tup hl hb
    · refine okT_tup (l := pf.map D.int ++ (pf.map D.int ++ [])) (by rw [List.append_nil, List.length_append]; omega) fun x hx => ?_
      rw [List.append_nil] at hx
      exact ii x (by rcases List.mem_append.mp hx with z | z <;> exact z)
  · -- one more
    have e10 : (10 : Int) ^ (9 : Int).toNat = ((1000000000 : Nat) : Int) := by decide
    refine ⟨_, prm (p_drw m d) hX (fun F H => hB.at F H), od_pow ⟨by decide, by decide, by decide⟩ ⟨1000000000, ⟨by decide, by decide⟩, ?_, fun r _ hr => ?_⟩⟩
    · exact congrArg (fun i => [Sl.hand, Sl.im (.int i)]) e10
    obtain ⟨j, hj, rfl⟩ := hr
    have l1 := lt a
    have l2 := ld a
    refine ⟨?_, ?_, rfl, _, three a a (.int (j : Nat)) (it_int (by omega) (by omega)), ?_⟩
    · rw [tk]
      exact sz (by show _ + 1 ≤ _; omega)
    · rw [tk, dr, List.length_append]
      exact sz (by show _ + 1 + _ ≤ _; omega)
    · rw [tk, dr]
  refine ⟨fun x => x = (decide (w = 2) || decide (a = pf.length)), ⟨fun z => ?_, fun z => ?_⟩, fun x hx => ?_⟩
  · have z := of_decide_eq_false z
    show decide ((a : Int) = ((pf.map D.int).length : Nat)) = _
    rw [List.length_map, decide_eq_false (show ¬ w = 2 by omega), Bool.false_or]
    by_cases e : a = pf.length
    · rw [decide_eq_true e, decide_eq_true (by omega)]
    · rw [decide_eq_false e, decide_eq_false (by omega)]
  · have z := of_decide_eq_true z
    show true = _
    rw [decide_eq_true (show w = 2 by omega)]
    rfl
  subst hx
  have e1 : (a : Int) + 1 = ((a + 1 : Nat) : Int) := rfl
  refine ⟨fun _ => ?_, fun z => ?_⟩
  · have l1 := lt a
    have l2 := ld (a + 1)
    refine ⟨?_, rfl, _, okT_tup (l := (pf.map D.int).take a ++ (pf.map D.int).drop (a + 1)) (by rw [List.length_append]; omega) (fun y hy => ?_), ?_⟩
    · rw [tk, e1, dr]
      exact sz (by omega)
    · rcases List.mem_append.mp hy with hy | hy
      · exact it _ y hy
      · exact id _ y hy
    · rw [tk, e1, dr]
  · rw [Bool.or_eq_false_iff] at z
    have z2 := of_decide_eq_false z.2
    have ha : a < pf.length + 1 := by rw [List.length_map] at ha; exact ha
    have hlt : a < pf.length := by omega
    refine ⟨_, atI_map D.int (List.getElem?_eq_getElem hlt), ?_⟩
    have hx : B61 pf[a] := hb _ (List.getElem_mem _)
    revert hx
    generalize pf[a] = o
    intro hx
    refine ⟨_, prm (p_any m d) hX (fun F H => hB.at F H), hx.bi.log, [D.int (o + 1), .int (-1), .non, .bl true, .str (iT o), .tup [.int o], .int 0, .int (o - 1)], ⟨(show 0 < 8 by decide), (show 8 ≤ 10000 by decide)⟩, rfl, fun r _ hr => ?_⟩
    obtain ⟨y, hy, rfl⟩ := hr
    have hIt : It y := by
      have hy : y ∈ [D.int (o + 1), .int (-1), .non, .bl true, .str (iT o), .tup [.int o], .int 0, .int (o - 1)] := hy
      have h1 := hx.1
      have h2 := hx.2
      simp only [List.mem_cons, List.not_mem_nil, or_false] at hy
      rcases hy with rfl | rfl | rfl | rfl | rfl | rfl | rfl | rfl
      · exact it_int (by omega) (by omega)
      · exact ⟨rp_neg.mono (by decide) (by decide), fun i e => by cases e; decide⟩
      · exact ⟨rp_non.mono (by decide) (by decide), fun i e => by cases e⟩
      · exact ⟨(rp_bl true).mono (by decide) (by decide), fun i e => by cases e⟩
      · obtain ⟨n, rfl⟩ := Int.eq_ofNat_of_zero_le h1
        exact ⟨(rp_str (k := 20) (chs_nat n) (iT_len hx.bi)).mono (by decide) (by decide), fun i e => by cases e⟩
      · exact it_tup (l := [o]) (show 1 ≤ 8 by decide) fun i hi => by rw [List.mem_singleton.mp hi]; exact hx
      · exact it_int (by decide) (by decide)
      · by_cases h0 : o = 0
        · subst h0
          exact ⟨rp_neg.mono (by decide) (by decide), fun i e => by cases e; decide⟩
        · exact it_int (by omega) (by omega)
    have l1 := lt a
    have l2 := ld (a + 1)
    refine ⟨?_, ?_, rfl, _, three a (a + 1) y hIt, ?_⟩
    · rw [tk]
      exact sz (by show _ + 1 ≤ _; omega)
    · rw [tk, e1, dr, List.length_append]
      exact sz (by show _ + 1 + _ ≤ _; omega)
    · rw [tk, e1, dr]
end
end K85

set_option Elab.async false
set_option linter.all false
set_option pp.maxSteps 300
set_option maxRecDepth 100000
set_option maxHeartbeats 2000000
/-! A11: k85: walks: _law_told, _law_is_held -/
namespace K85
open PySem PySem.Spec PyProof.Rows L2 DL
/-- the facts that the walk of _law_told wants -/
structure TldM (K : PySem.W.Frag) (mg : Str → Option Value) (L N : Addr) : Prop where
  l : mg "LockError" = some (.ref L)
  n : mg "NoProof" = some (.ref N)
  i : mg "isinstance" = none
  v : mg "ValueError" = none
  x : PySem.W.exmOne K (.ref N) (.ref L) = some true
  k1 : PySem.W.kitOne K (.ref N) (.ref N) = some true
  k2 : PySem.W.kitOne K (.ref N) (.type "ValueError") = some true
  c : ExcC K N
theorem told_ok {X : Cx} {q : Str} {g : Addr} {cdg : Value} {L N : Addr} (t : TldM X.K X.mg L N) : LamX.GivesTo X ["call", "e"] "_law_told" (defScope sLTold) g cdg (defBody sLTold) "call" q (TTd (.ref N) "told" "proof") := by
  intro f c' s H Q tl act hc h
  refine ⟨_, pss_one (ps_try_as (X := (cxOf C8.CX0 X.prog X.w X.K X.mg X.base ["call", "e"] "_law_told" (defScope sLTold) g cdg X.A X.stack s H C8.E0).nox) (i := 1) (c := .ref L) (Wout := fun _ _ _ _ => False)
      (tb := fun W D σ H => ∃ Ech : XK, (∀ cls d σ' H', Ech cls d H' → W cls d σ' H') ∧ σ[0]? = some (some (.ref f)) ∧ H c' = some (LamX.CodeO c' q) ∧ tl Ech H fun v H' => ∀ p, H' p = none → D.rt (.ref p) (upd H' p (.tup [.str "told", v])))
      (ts := fun a cls d D σ H => (1 < σ.length → σ[1]? = some (some (.ref a))) ∧ cls = .ref N ∧ d = none ∧ ∀ p, H p = none → D.rt (.ref p) (upd H p (.tup [.str "proof"])))
      rfl rfl scLTold.nd rfl rfl ⟨rfl, by decide, .inl t.l⟩ LamX.takes0 (fun W pn xe tk _ => ?_) (fun a oe cls d pn hz hf => ?_)), ?_⟩
  · refine ⟨fun pins s' σ H' D I h' => ?_⟩
    obtain ⟨Ech, hW, h1, h2, h3⟩ := h'
    refine PSs.run (pss_one (ps_ret (pe_tup (pa_cons pe_str (pa_cons (act W pn xe Ech _ _ tk hW) pa_nil))))) pins s' σ H' D I ?_
    refine ⟨h1, h2, ?_⟩
    exact cast (congrArg (tl Ech H') (funext fun v => funext fun H1 => propext ⟨fun h => ⟨(show 2 ≤ sizeLine by decide), h⟩, fun h => h.2⟩)) h3
  · refine ⟨fun pins s' σ H' D I h' => ?_⟩
    obtain ⟨h1, rfl, rfl, h2⟩ := h'
    have hl : 1 < σ.length := by
      rw [I.len]
      exact (by decide : 1 < 2)
    have h3 := h1 hl
    have hi : CallR ((cxOf C8.CX0 X.prog X.w X.K X.mg X.base ["call", "e"] "_law_told" (defScope sLTold) g cdg X.A X.stack s H C8.E0).nox.suite a ((a, oe) :: pn)) (.builtin "isinstance") (rIsE X.K N a) := call_isE (X := (cxOf C8.CX0 X.prog X.w X.K X.mg X.base ["call", "e"] "_law_told" (defScope sLTold) g cdg X.A X.stack s H C8.E0).nox) t.c hz hf
    refine PSs.run (pss_one (ps_ret (pe_ifExp (PW.pt (pw_and (pt_val (pe_callB hi (by rfl) t.i PyProof.Rows.boot_isinstance (pa_cons (pe_var (i := 1) (by rfl) (by exact Or.inl rfl)) (pa_cons (pe_glob (v := .ref N) (by rfl) t.n rfl) pa_nil)))) (pw_and1 (pt_val (pe_callB hi (by rfl) t.i PyProof.Rows.boot_isinstance (pa_cons (pe_var (i := 1) (by rfl) (by exact Or.inl rfl)) (pa_cons (pe_bltn (v := .ty "ValueError") (by rfl) t.v (by rfl) rfl) pa_nil))))))) (pe_tup (pa_cons pe_str pa_nil)) (pe_tup (pa_cons pe_str pa_nil))))) pins s' σ H' D I ?_
    refine ⟨.ref a, h3, .ref N, .ref N, true, rfl, fun u hu => hu, t.k1, true, rfl, ?_⟩
    refine Eq.mpr (if_pos rfl) ?_
    refine ⟨.ref a, h3, .ty "ValueError", .type "ValueError", true, rfl, fun u hu => hu, t.k2, true, rfl, ?_⟩
    refine Eq.mpr (if_pos rfl) ?_
    exact ⟨by decide, h2⟩
  · refine ⟨fun cls d H' => cls = .ref N ∧ d = none ∧ ∀ p, H' p = none → Q (.ref p) (upd H' p (.tup [.str "proof"])), fun cls d σ' H' e => ?_, rfl, hc, h⟩
    obtain ⟨rfl, rfl, e⟩ := e
    exact ⟨true, t.x, fun _ a ha => ⟨fun hl => List.getElem?_set_self (by simpa using hl), rfl, rfl, e⟩, fun z => by cases z⟩
end K85

set_option Elab.async false
set_option linter.all false
set_option pp.maxSteps 300
set_option maxRecDepth 100000
set_option maxHeartbeats 2000000
/-! A12: k85: walks: _law_is_held -/
namespace K85
open PySem PySem.Spec PyProof.Rows L2 DL
abbrev lamQ : Str := "_law_is_held.<locals>.<lambda>"
def BTab (P : Addr) (c : C0) : Prop := TabC c P lamQ
theorem env_qual : ∀ (a : Nat) (f : Addr) (cdv : Value), (PyProof.Rows.envOfC "_law_is_held" (defScope sLIsHeld) a f cdv).qual = "_law_is_held.<locals>." := fun _ _ _ => by rfl
theorem shT {l : List D} {n : Nat} (h : ∀ d ∈ l, Rp n 0 d) : SeqAt.shaped (py (.tup l)) = true := shaped_rp (rp_tup h) (by decide)
theorem sh_proof : SeqAt.shaped (py (.tup [.str "proof"])) = true := by decide +kernel
theorem sh_tnon : SeqAt.shaped (py (.tup [.str "told", .non])) = true := by decide +kernel
section
variable {R : Rn} (m : Mc R.mg) (d : Ds R)
include m d
theorem p_held {L N f cd Pt : Addr} {fd : FuncData} (t : TldM R.K R.mg L N) (O : OwnE R.K R.mg "NoProof" N) (Fc : FunC R.K "_law_is_held" sLIsHeld f fd cd) (hm : R.mg "_law_is_held" = some (.ref f)) (hbd : Binds R.K fd ["entries", "place", "text", "proof"] []) (TB : LamX.TabB R.base R.mg cd Pt) :
    Pr true (BTab Pt) R 17 "_law_is_held" 4 CA.ok (fun a => [.im (tS a.l), .im (.int (a.p : Nat)), .im (.str a.t), .im a.y]) fun _ r => r = .im (.bl true) := by
  obtain ⟨g, gd, Fg, hmg, hbg⟩ := d.dLTold.ex
  refine prT_mk Fc hm hbd scLIsHeld rfl m.fr ckLIsHeld env_qual (fun _ _ => ⟨rfl, rfl⟩) fun X c hX ok hcode hq hB a ha => ?_
  have hia := ha.ia
  obtain ⟨h1, h2, h3, h4⟩ := ha
  obtain ⟨l, p, s, y⟩ := a
  dsimp only at h1 h2 h3 h4
  show vS X c rLIsHeld (defBody sLIsHeld) [.im (tS l), .im (.int (p : Nat)), .im (.str s), .im y, .any, .any, .any, .any, .any] _
  refine ⟨_, prm (p_lroot m d 8) hX fun _ _ => trivial, l, h1, rfl, fun r _ hr => ?_⟩
  subst hr
  refine ⟨rfl, rfl, ?_⟩
  have ea : ∀ a : Int, [Sl.im (.int a), Sl.im (.int ((l.map D.str).length : Nat)), Sl.im (.int (p : Nat)), Sl.im (.str s), Sl.im y] = [Sl.im (.int a), Sl.im (.int (l.length : Nat)), Sl.im (.int (p : Nat)), Sl.im (.str s), Sl.im y] := fun a => by rw [List.length_map]
  refine ⟨_, prm (p_lisIn m d) hX fun _ _ => trivial, ⟨root l, l.length, p, s, y⟩, hia, ea _, fun r _ hr => ?_⟩
  subst hr
  refine ⟨_, prm (p_isIn m d) hX fun _ _ => trivial, ⟨root l, l.length, p, s, y⟩, hia, ea _, fun r _ hr => ?_⟩
  subst hr
  dsimp only
  cases hin : inB (root l) l.length p s y with
  | false =>
    refine ⟨fun x => x = false, ⟨true, rfl, fun _ => od_neD hX.un rfl rfl rfl, (fun z => by cases z)⟩, fun x hx => ?_⟩
    subst hx
    refine ⟨(fun z => by cases z), fun _ => ?_⟩
    refine told_v (k := 14) (N := nLIsHeld) (fr := BN) (core := .fn "clash_of" [.var 0, .var 1, .var 2, .var 3]) hX (by rw [hq]; exact hB) Fg scLTold rfl hmg hbg (fun _ => told_ok (by rw [hX.K, hX.mg]; exact t)) TB hcode (.inl rfl) (by rw [ok.hs]; exact LamX.lamS_by (by rfl)) ok.hN ok.nd m.fr (by decide +kernel) ?_ (ok.glo (by decide +kernel)).1
    refine .inr ⟨?_, fun Y F0 H0 hY hR => ?_⟩
    · refine ⟨fun _ => ?_, (fun z => by cases z)⟩
      refine od_eqD hX.un sh_proof sh_proof ⟨rfl, ?_⟩
      exact congrArg (fun b => Sl.im (.bl b)) (eqv_tup_self fun x hx => by rw [List.mem_singleton.mp hx]; exact eqv_str_self _)
    · exact ⟨_, prmE (p_clashE m d O) hY hR, ⟨l, p, s, y⟩, ⟨⟨h1, h2, h3, h4⟩, hin⟩, rfl⟩
  | true =>
    refine ⟨fun x => x = false, ⟨true, rfl, fun _ => od_neD hX.un rfl rfl rfl, (fun z => by cases z)⟩, fun x hx => ?_⟩
    subst hx
    refine ⟨(fun z => by cases z), fun _ => ?_⟩
    refine told_v (k := 14) (N := nLIsHeld) (fr := BN) (core := .fn "clash_of" [.var 0, .var 1, .var 2, .var 3]) hX (by rw [hq]; exact hB) Fg scLTold rfl hmg hbg (fun _ => told_ok (by rw [hX.K, hX.mg]; exact t)) TB hcode (.inl rfl) (by rw [ok.hs]; exact LamX.lamS_by (by rfl)) ok.hN ok.nd m.fr (by decide +kernel) ?_ (ok.glo (by decide +kernel)).1
    refine .inl fun Y F0 H0 hY => ⟨_, prm (p_clash m d) hY fun _ _ => trivial, ⟨l, p, s, y⟩, ⟨⟨h1, h2, h3, h4⟩, hin⟩, rfl, fun r _ hr => ?_⟩
    rcases hr with ⟨e, rfl⟩ | ⟨e, u, v, rfl, huv, hdg⟩
    · refine ⟨.non, rfl, ?_⟩
      refine ⟨(fun z => by cases z), fun _ => ⟨_, getS m d h2, fun _ => ?_, fun z => absurd e (of_decide_eq_false z)⟩⟩
      refine od_eqD hX.un sh_tnon sh_tnon ⟨rfl, ?_⟩
      exact congrArg (fun b => Sl.im (.bl b)) (by decide +kernel : PyData.eqv (py (.tup [.str "told", .non])) (py (.tup [.str "told", .non])) = true)
    · refine ⟨.tup [.str u, .str v], rfl, ?_⟩
      have hcl : clB (.tup [.str u, .str v]) = true := by
        show ((!decide (u = v)) && decide (dg u = dg v)) = true
        rw [decide_eq_false huv, decide_eq_true hdg]
        rfl
      refine ⟨(fun z => by cases z), fun _ => ⟨_, getS m d h2, fun z => absurd (of_decide_eq_true z) e, fun _ => ?_⟩⟩
      refine ⟨fun _ => ⟨_, prm (p_lisClash m d) hX fun _ _ => trivial, .tup [.str u, .str v], rfl, .tup [.str u, .str v], trivial, rfl, fun r _ hr => ?_⟩, (fun z => by cases z)⟩
      have hr : r = .im (.bl (clB (.tup [.str u, .str v]))) := hr
      rw [hcl] at hr
      subst hr
      refine ⟨fun _ => ⟨_, prm (p_isClash m d) hX fun _ _ => trivial, .tup [.str u, .str v], rfl, .tup [.str u, .str v], trivial, rfl, fun r _ hr => ?_⟩, (fun z => by cases z)⟩
      have hr : r = .im (.bl (clB (.tup [.str u, .str v]))) := hr
      rw [hcl] at hr
      subst hr
      exact od_isB ⟨rfl, rfl⟩
end
end K85

set_option Elab.async false
set_option linter.all false
set_option pp.maxSteps 300
set_option maxRecDepth 100000
set_option maxHeartbeats 2000000
/-! A13: k85: walks: _law_place_right, _law_clash_right -/
namespace K85
open PySem PySem.Spec PyProof.Rows L2 DL
/-- kinds of surroundings of the law: a hand, one table -/
structure Knd (B : C0 → Prop) (P : Addr) : Prop where
  at_ : ∀ {c : C0} (F H : Hp), B c → B (c.at F H)
  up : ∀ {c : C0} (F : Hp), B c → B (c.up F)
  hand : ∀ {c : C0}, B c → HandC c
  tab : ∀ {c : C0}, B c → BTab P c
/-- the root lies in the digests of the leaves -/
theorem root_congr : ∀ (n : Nat) (l q : List Str), l.length ≤ n → l.map (fun s => dg (leafT s)) = q.map (fun s => dg (leafT s)) → root l = root q := by
  intro n
  induction n with
  | zero =>
    intro l q hn h
    have e : l = [] := List.length_eq_zero_iff.mp (by omega)
    subst e
    have : q = [] := by
      cases q with
      | nil => rfl
      | cons a q => cases h
    rw [this]
  | succ n ih =>
    intro l q hn h
    have hl : l.length = q.length := by simpa using congrArg List.length h
    by_cases h2 : 2 ≤ l.length
    · obtain ⟨g1, g2, g3, _⟩ := lp_ok h2
      rw [root_2 h2, root_2 (l := q) (by omega), ← hl]
      rw [ih (l.take (lp l.length)) (q.take (lp l.length)) (by rw [List.length_take]; omega) (by rw [List.map_take, List.map_take, h]), ih (l.drop (lp l.length)) (q.drop (lp l.length)) (by rw [List.length_drop]; omega) (by rw [List.map_drop, List.map_drop, h])]
    · cases l with
      | nil =>
        have : q = [] := List.length_eq_zero_iff.mp hl.symm
        rw [this]
      | cons a l =>
        have e : l = [] := List.length_eq_zero_iff.mp (by rw [List.length_cons] at h2; omega)
        subst e
        obtain ⟨b, rfl⟩ : ∃ b, q = [b] := List.length_eq_one_iff.mp hl.symm
        rw [root_1, root_1]
        exact (List.cons.inj h).1
theorem sh_path {pf : List Int} (hl : pf.length ≤ 8) (h : ∀ i ∈ pf, B61 i) : OkT (tI pf) := okT_tup (by rw [List.length_map]; omega) fun x hx => by
  obtain ⟨i, hi, rfl⟩ := List.mem_map.mp hx
  exact it_b (h i hi)
section
variable {R : Rn} (m : Mc R.mg) (d : Ds R) {B : C0 → Prop} {Pt : Addr}
include m d
theorem p_place (hK : Knd B Pt) (G : Pr true (BTab Pt) R 17 "_law_is_held" 4 CA.ok (fun a => [.im (tS a.l), .im (.int (a.p : Nat)), .im (.str a.t), .im a.y]) fun _ r => r = .im (.bl true)) :
    Pr true B R 18 "_law_place_right" 2 (fun l : List Str => En l ∧ 0 < l.length) (fun l => [.hand, .im (tS l)]) fun _ r => r = .im (.bl true) := by
  refine pr_mk d.dLPlaceRight scLPlaceRight rfl m.fr ckLPlaceRight (fun _ _ => ⟨rfl, rfl⟩) fun X c hX hB l hl => ?_
  obtain ⟨he, h0⟩ := hl
  have hh : ∀ F H, HandC (c.at F H) := fun F H => hK.hand (hK.at_ F H hB)
  have hgd : X.A.guards = some [] := hX.gd rfl
  refine ⟨_, prm (p_drw m d) hX hh, (l.map D.str).length, ⟨by rw [List.length_map]; exact h0, by rw [List.length_map]; have := he.1; omega⟩, rfl, fun r _ hr => ?_⟩
  obtain ⟨p, hp, rfl⟩ := hr
  refine ⟨_, prm (p_drw m d) hX hh, (l.map D.str).length, ⟨by rw [List.length_map]; exact h0, by rw [List.length_map]; have := he.1; omega⟩, rfl, fun r _ hr => ?_⟩
  obtain ⟨o, ho, rfl⟩ := hr
  rw [List.length_map] at hp ho
  refine ⟨rfl, rfl, ?_⟩
  refine ⟨_, prm (p_proofIn m d) hX fun _ _ => trivial, (l, p), ⟨he, hp⟩, rfl, fun r _ hr => ?_⟩
  subst hr
  refine ⟨_, prm (p_lroot m d 8) hX fun _ _ => trivial, l, he, rfl, fun r _ hr => ?_⟩
  subst hr
  refine ⟨rfl, rfl, ?_⟩
  have pl : ∀ q, (path l q).length ≤ 8 := fun q => path_le m d (e := 8) he.1
  have pb : ∀ q, ∀ x ∈ path l q, B61 x := fun q => path_b _ l q (Nat.le_refl _)
  have okp : ∀ q, OkT (tI (path l q)) := fun q => sh_path (pl q) (pb q)
  refine cd_reprA hgd hX.un (okp p).2 ⟨_, prm (p_lproof m d 8 (by decide)) hX fun _ _ => trivial, (l, p), ⟨he.1, he.2, hp⟩, rfl, fun r _ hr => ?_⟩
  subst hr
  refine cd_reprA hgd hX.un (okp p).2 ⟨fun z => ?_, fun _ => ?_⟩
  · have z : (!decide (shw (tI (path l p)) = shw (tI (path l p)))) = true := z
    rw [decide_eq_true rfl] at z
    cases z
  have gs : ∀ q, q < l.length → (l.getD q "").length ≤ 200 := fun q hq => he.2 _ (by
    have e : l.getD q "" = l[q] := by simp [hq]
    rw [e]
    exact List.getElem_mem _)
  refine ⟨_, getS m d hp, _, getS m d hp, _, getS m d ho, ?_⟩
  refine ⟨(show 4 < sizeLine by decide), ?_⟩
  refine ⟨_, prm (p_like m d) hX hh, (), trivial, rfl, fun r _ hr => ?_⟩
  obtain ⟨u, v, huv, rfl⟩ := hr
  refine ⟨.str u, rfl, ?_⟩
  refine ⟨⟨by decide, by decide⟩, sz (by decide), fun i acc => acc.length = i ∧ ∀ y ∈ acc, OkT y, ⟨rfl, fun _ h => by cases h⟩, fun i acc hi hJ F1 H1 => ⟨_, rfl, fun Y hY => ⟨fun _ Y hY => ⟨_, prm (p_bent m d) (hX.blk hY) (fun F H => hK.hand (hK.at_ F H (hK.at_ F1 H1 hB))), path l p, ⟨pl p, pb p⟩, rfl, fun r _ hr => ?_⟩, (fun z => by cases z)⟩⟩, fun acc hJ => ?_⟩
  · obtain ⟨y, hy, rfl⟩ := hr
    refine ⟨by simp [hJ.1], fun x hx => ?_⟩
    rcases List.mem_append.mp hx with z | z
    · exact hJ.2 x z
    · rw [List.mem_singleton.mp z]
      exact hy
  obtain ⟨ha1, ha2⟩ := hJ
  have ha1 : acc.length = 5 := ha1
  refine ⟨_, prm (p_lproof m d 8 (by decide)) hX fun _ _ => trivial, (l, o), ⟨he.1, he.2, ho⟩, rfl, fun r _ hr => ?_⟩
  subst hr
  refine ⟨sz (by rw [ha1]; exact (show 5 + 2 ≤ 10000 by decide)), ?_⟩
  have texts : ∀ x ∈ [D.str (l.getD p ""), .str (l.getD p ""), .str (l.getD o ""), .str "other", .str u], ∃ w : Str, x = .str w ∧ w.length ≤ 200 := fun x hx => by
    simp only [List.mem_cons, List.not_mem_nil, or_false] at hx
    rcases hx with rfl | rfl | rfl | rfl | rfl
    · exact ⟨_, rfl, gs p hp⟩
    · exact ⟨_, rfl, gs p hp⟩
    · exact ⟨_, rfl, gs o ho⟩
    · exact ⟨_, rfl, by decide +kernel⟩
    · exact ⟨_, rfl, Nat.le_trans huv.la (by decide)⟩
  have things : ∀ x ∈ acc ++ [tI (path l p), tI (path l o)], OkT x := fun x hx => by
    rcases List.mem_append.mp hx with z | z
    · exact ha2 x z
    · simp only [List.mem_cons, List.not_mem_nil, or_false] at z
      rcases z with rfl | rfl
      · exact okp p
      · exact okp o
  refine ⟨fun i Γ => ∃ s8 s9 s10, Γ = [.hand, .im (tS l), .im (.int (p : Nat)), .im (.int (o : Nat)), .im (tI (path l p)), .im (.int (root l)), .im (.lst [D.str (l.getD p ""), .str (l.getD p ""), .str (l.getD o ""), .str "other", .str u]), .own (.lst acc), s8, s9, s10, .any, .any, .any, .any, .any], ⟨_, _, _, rfl⟩, fun F i Γ hi hj => ?_, fun Γ hj => ?_⟩
  · obtain ⟨s8, s9, s10, rfl⟩ := hj
    have hB2 := hK.up F hB
    have hh2 : ∀ F1 H1, HandC ((c.up F).at F1 H1) := fun F1 H1 => hK.hand (hK.at_ F1 H1 hB2)
    have hT2 : ∀ F1 H1, BTab Pt ((c.up F).at F1 H1) := fun F1 H1 => hK.tab (hK.at_ F1 H1 hB2)
    have hy := things _ (List.getElem_mem hi)
    refine ⟨_, getD_at hi, ?_⟩
    revert hy
    generalize (acc ++ [tI (path l p), tI (path l o)])[i] = y
    intro hy
    refine cd_reprA hgd hX.un hy.2 ⟨_, prm (p_any m d) hX hh2, [D.str (l.getD p ""), .str (l.getD p ""), .str (l.getD o ""), .str "other", .str u], ⟨(show 0 < 5 by decide), (show 5 ≤ 10000 by decide)⟩, rfl, fun r _ hr => ?_⟩
    obtain ⟨x, hx, rfl⟩ := hr
    obtain ⟨w, rfl, hw⟩ := texts x hx
    refine ⟨rfl, rfl, ?_⟩
    refine ⟨fun x => x = false, ⟨_, prm G hX hT2, ⟨l, p, w, y⟩, ⟨he, hp, hw, hy.1⟩, rfl, fun r _ hr => ?_⟩, fun x hx => ?_⟩
    · subst hr
      refine ⟨fun _ => cd_reprA hgd hX.un hy.2 ?_, (fun z => by cases z)⟩
      show (!decide (shw y = shw y)) = false
      rw [decide_eq_true rfl]
      rfl
    subst hx
    exact ⟨(fun z => by cases z), fun _ => ⟨_, _, _, rfl⟩⟩
  obtain ⟨s8, s9, s10, rfl⟩ := hj
  refine ⟨_, prm (p_drw m d) hX hh, 60, ⟨by decide, by decide⟩, rfl, fun r _ hr => ?_⟩
  obtain ⟨n, hn, rfl⟩ := hr
  have e1 : (1 : Int) + (n : Int) = ((n + 1 : Nat) : Int) := by omega
  refine ⟨_, prm (p_drw m d) hX hh, n + 1, ⟨by omega, by omega⟩, ?_, fun r _ hr => ?_⟩
  · exact congrArg (fun i => [Sl.hand, Sl.im (.int i)]) e1
  obtain ⟨q, hq, rfl⟩ := hr
  refine ⟨_, prm (p_any m d) hX hh, [D.int (root l), .int (root l + 1), .int 0, .int 7], ⟨(show 0 < 4 by decide), (show 4 ≤ 10000 by decide)⟩, rfl, fun r _ hr => ?_⟩
  obtain ⟨x, hx, rfl⟩ := hr
  obtain ⟨rt, rfl⟩ : ∃ rt : Int, x = .int rt := by
    simp only [List.mem_cons, List.not_mem_nil, or_false] at hx
    rcases hx with rfl | rfl | rfl | rfl <;> exact ⟨_, rfl⟩
  refine ⟨rfl, rfl, ?_⟩
  have hia : IA.ok ⟨rt, n + 1, q, l.getD p "", tI (path l p)⟩ := ⟨by show 1 ≤ n + 1; omega, by show n + 1 ≤ 256; omega, hq, gs p hp, (okp p).1⟩
  have ea : [Sl.im (.int rt), Sl.im (.int (1 + (n : Int))), Sl.im (.int (q : Nat)), Sl.im (.str (l.getD p "")), Sl.im (tI (path l p))] = [Sl.im (.int rt), Sl.im (.int ((n + 1 : Nat) : Int)), Sl.im (.int (q : Nat)), Sl.im (.str (l.getD p "")), Sl.im (tI (path l p))] := by rw [e1]
  refine ⟨_, prm (p_lisIn m d) hX fun _ _ => trivial, _, getS m d hp, ⟨rt, n + 1, q, l.getD p "", tI (path l p)⟩, hia, ea, fun r _ hr => ?_⟩
  subst hr
  refine ⟨_, prm (p_isIn m d) hX fun _ _ => trivial, _, getS m d hp, ⟨rt, n + 1, q, l.getD p "", tI (path l p)⟩, hia, ea, fun r _ hr => ?_⟩
  subst hr
  refine cd_reprA hgd hX.un trivial <| cd_reprA hgd hX.un trivial ⟨rfl, ?_⟩
  exact congrArg (fun b => Sl.im (.bl b)) (decide_eq_true rfl)
end
end K85

set_option Elab.async false
set_option linter.all false
set_option pp.maxSteps 300
set_option maxRecDepth 100000
set_option maxHeartbeats 2000000
/-! A14: k85: walks: _law_clash_right, law -/
namespace K85
open PySem PySem.Spec PyProof.Rows L2 DL
section
variable {R : Rn} (m : Mc R.mg) (d : Ds R) {B : C0 → Prop} {Pt : Addr}
include m d
theorem p_cright (hK : Knd B Pt) (G : Pr true (BTab Pt) R 17 "_law_is_held" 4 CA.ok (fun a => [.im (tS a.l), .im (.int (a.p : Nat)), .im (.str a.t), .im a.y]) fun _ r => r = .im (.bl true)) :
    Pr true B R 18 "_law_clash_right" 2 (fun l : List Str => l.length ≤ 40 ∧ Sz l) (fun l => [.hand, .im (tS l)]) fun _ r => r = .im (.bl true) := by
  refine pr_mk d.dLClashRight scLClashRight rfl m.fr ckLClashRight (fun _ _ => ⟨rfl, rfl⟩) fun X c hX hB l hl => ?_
  obtain ⟨hl, hs⟩ := hl
  have hh : ∀ F H, HandC (c.at F H) := fun F H => hK.hand (hK.at_ F H hB)
  have hT : ∀ F H, BTab Pt (c.at F H) := fun F H => hK.tab (hK.at_ F H hB)
  have hgd : X.A.guards = some [] := hX.gd rfl
  refine ⟨_, prm (p_like m d) hX hh, (), trivial, rfl, fun r _ hr => ?_⟩
  obtain ⟨a, b, hk, rfl⟩ := hr
  refine ⟨_, rfl, ?_⟩
  have hcl : clB (.tup [.str a, .str b]) = true := by
    show ((!decide (a = b)) && decide (dg a = dg b)) = true
    rw [decide_eq_false hk.ne, decide_eq_true hk.like.dg]
    rfl
  refine ⟨fun x => x = false, ⟨_, prm (p_lisClash m d) hX fun _ _ => trivial, .tup [.str a, .str b], trivial, rfl, fun r _ hr => ?_⟩, fun x hx => ?_⟩
  · have hr : r = .im (.bl (clB (.tup [.str a, .str b]))) := hr
    rw [hcl] at hr
    subst hr
    refine ⟨fun _ => ⟨_, prm (p_isClash m d) hX fun _ _ => trivial, .tup [.str a, .str b], trivial, rfl, fun r _ hr => ?_⟩, (fun z => by cases z)⟩
    have hr : r = .im (.bl (clB (.tup [.str a, .str b]))) := hr
    rw [hcl] at hr
    subst hr
    exact rfl
  subst hx
  refine ⟨(fun z => by cases z), fun _ => ?_⟩
  refine ⟨_, prm (p_drw m d) hX hh, (l.map D.str).length + 1, ⟨by omega, by rw [List.length_map]; omega⟩, rfl, fun r _ hr => ?_⟩
  obtain ⟨p, hp, rfl⟩ := hr
  rw [List.length_map] at hp
  have wi : ∀ x : Str, cutD (l.map D.str) none (some (p : Int)) ++ [D.str x] ++ cutD (l.map D.str) (some (p : Int)) none = (l.take p ++ [x] ++ l.drop p).map D.str := fun x => by rw [cT_take, cT_drop, List.map_append, List.map_append]; rfl
  have l1 : (cutD (l.map D.str) none (some (p : Int))).length ≤ 40 := by rw [cT_take, List.length_map, List.length_take]; omega
  have l2 : (cutD (l.map D.str) (some (p : Int)) none).length ≤ 40 := by rw [cT_drop, List.length_map, List.length_drop]; omega
  have en : ∀ x : Str, x.length ≤ 60 → En (l.take p ++ [x] ++ l.drop p) := fun x hx => ⟨by rw [List.length_append, List.length_append, List.length_take, List.length_drop, List.length_singleton]; omega, fun s hs' => by
    rcases List.mem_append.mp hs' with hs' | hs'
    · rcases List.mem_append.mp hs' with hs' | hs'
      · exact hs s (List.mem_of_mem_take hs')
      · rw [List.mem_singleton.mp hs']
        omega
    · exact hs s (List.mem_of_mem_drop hs')⟩
  have len : ∀ x : Str, (l.take p ++ [x] ++ l.drop p).length = l.length + 1 := fun x => by rw [List.length_append, List.length_append, List.length_take, List.length_drop, List.length_singleton]; omega
  have s1 : ∀ n k : Nat, n ≤ 40 → k ≤ 40 → n + 1 ≤ sizeLine ∧ n + 1 + k ≤ sizeLine := fun n k h1 h2 => ⟨sz (by omega), sz (by omega)⟩
  refine ⟨(s1 _ _ l1 l2).1, by rw [List.length_append]; exact (s1 _ _ l1 l2).2, ?_⟩
  refine ⟨(s1 _ _ l1 l2).1, by rw [List.length_append]; exact (s1 _ _ l1 l2).2, ?_⟩
  rw [wi a, wi b]
  refine ⟨_, prm (p_logroot m d) hX fun _ _ => trivial, _, en a hk.la, rfl, fun r _ hr => ?_⟩
  subst hr
  refine ⟨_, prm (p_logroot m d) hX fun _ _ => trivial, _, en b hk.lb, rfl, fun r _ hr => ?_⟩
  subst hr
  have er : root (l.take p ++ [a] ++ l.drop p) = root (l.take p ++ [b] ++ l.drop p) := root_congr _ _ _ (Nat.le_refl _) (by simp only [List.map_append, List.map_cons, List.map_nil, hk.like.leaf])
  refine ⟨fun z => ?_, fun _ => ?_⟩
  · have z : (!decide (root (l.take p ++ [a] ++ l.drop p) = root (l.take p ++ [b] ++ l.drop p))) = true := z
    rw [decide_eq_true er] at z
    cases z
  have hpl : p < (l.take p ++ [a] ++ l.drop p).length := by rw [len]; omega
  refine ⟨_, prm (p_proofIn m d) hX fun _ _ => trivial, (l.take p ++ [a] ++ l.drop p, p), ⟨en a hk.la, hpl⟩, rfl, fun r _ hr => ?_⟩
  subst hr
  have pl := path_le m d (e := 8) (p := p) (en a hk.la).1
  have okp : OkT (tI (path (l.take p ++ [a] ++ l.drop p) p)) := sh_path pl (path_b _ _ p (Nat.le_refl _))
  refine ⟨fun i Γ => ∃ s8, Γ = [.hand, .im (tS l), .im (.str a), .im (.str b), .im (.int (p : Nat)), .im (tS (l.take p ++ [a] ++ l.drop p)), .im (tS (l.take p ++ [b] ++ l.drop p)), .im (tI (path (l.take p ++ [a] ++ l.drop p) p)), s8, .any, .any], ⟨_, rfl⟩, fun F i Γ hi hj => ?_, fun Γ hj => ?_⟩
  · obtain ⟨s8, rfl⟩ := hj
    have hB2 := hK.up F hB
    have hT2 : ∀ F1 H1, BTab Pt ((c.up F).at F1 H1) := fun F1 H1 => hK.tab (hK.at_ F1 H1 hB2)
    have hw : ∃ w : Str, [D.str a, .str b][i] = .str w ∧ w.length ≤ 60 := by
      have hi : i < 2 := hi
      match i, hi with
      | 0, _ => exact ⟨a, rfl, hk.la⟩
      | 1, _ => exact ⟨b, rfl, hk.lb⟩
    obtain ⟨w, ew, hw⟩ := hw
    refine ⟨.str w, (getD_at hi).trans ew, ?_⟩
    refine ⟨_, prm G hX hT2, ⟨l.take p ++ [a] ++ l.drop p, p, w, tI (path (l.take p ++ [a] ++ l.drop p) p)⟩, ⟨en a hk.la, hpl, by show w.length ≤ 200; omega, okp.1⟩, rfl, fun r _ hr => ?_⟩
    subst hr
    exact ⟨(fun z => by cases z), fun _ => ⟨_, rfl⟩⟩
  obtain ⟨s8, rfl⟩ := hj
  have e5 : ("leaf " : Str).length = 5 := by decide +kernel
  have ea : ("a" : Str).length = 1 := by decide +kernel
  have la := hk.la
  have lb := hk.lb
  refine ⟨(show 4 + 6 ≤ sizeLine by decide), ?_⟩
  refine ⟨sz (by omega), sz (by omega), sz (by omega), (show 10 + 3 ≤ sizeLine by decide), ?_⟩
  refine ⟨(show 13 ≤ sizeLine by decide), fun i acc => acc = List.replicate i (D.bl true), rfl, fun i acc hi hJ F1 H1 => ⟨_, getD_at hi, fun Y hY => ⟨fun _ Y hY => ⟨_, prm (p_isClash m d) (hX.blk hY) fun _ _ => trivial, _, trivial, rfl, fun r _ hr => ?_⟩, (fun z => by cases z)⟩⟩, fun acc hJ => ?_⟩
  · subst hr
    have hgd2 : Y.A.guards = some [] := (hX.blk hY).gd rfl
    refine cd_reprA hgd2 (hX.blk hY).un trivial ⟨_, prm (p_lisClash m d) (hX.blk hY) fun _ _ => trivial, _, trivial, rfl, fun r _ hr => ?_⟩
    subst hr
    refine cd_reprA hgd2 (hX.blk hY).un trivial ?_
    show acc ++ [D.bl (decide (_ = _))] = List.replicate (i + 1) (D.bl true)
    rw [decide_eq_true rfl, show acc = _ from hJ, List.replicate_succ']
  · have hJ : acc = List.replicate 13 (D.bl true) := hJ
    exact ⟨List.replicate 13 true, by rw [hJ]; rfl, rfl, rfl⟩
end
/-! ### law -/
theorem knd_T {Pt : Addr} : Knd (BT [(Pt, lamQ)]) Pt := ⟨fun F H h => (bkT _).at_ F H h, fun F h => (bkT _).up F h, fun h => h.1, fun h => h.2 _ (List.mem_singleton_self _)⟩
theorem root_ab : root ["a", "b"] = dg (nodeT (dg "leaf a") (dg "leaf b")) := by
  have e1 : leafT "a" = "leaf a" := by decide +kernel
  have e2 : leafT "b" = "leaf b" := by decide +kernel
  rw [root_2 (by decide)]
  show dg (nodeT (root ((["a", "b"] : List Str).take (lp 2))) (root ((["a", "b"] : List Str).drop (lp 2)))) = _
  rw [show lp 2 = 1 by decide]
  show dg (nodeT (root ["a"]) (root ["b"])) = _
  rw [root_1, root_1, e1, e2]
section
variable {R : Rn} (m : Mc R.mg) (d : Ds R) {B : C0 → Prop} {Pt : Addr}
include m d
theorem v_law (hK : Knd B Pt) (Gp : Pr true B R 18 "_law_place_right" 2 (fun l : List Str => En l ∧ 0 < l.length) (fun l => [.hand, .im (tS l)]) fun _ r => r = .im (.bl true)) (Gc : Pr true B R 18 "_law_clash_right" 2 (fun l : List Str => l.length ≤ 40 ∧ Sz l) (fun l => [.hand, .im (tS l)]) fun _ r => r = .im (.bl true))
    {X : Cx} {c : C0} (hX : In X R 18 true) (hB : B c) : vS X c (rLaw.drop 1) ((defBody sLaw).drop 1) [.any, .hand, .any, .any] { nx := fun _ => False, rt := fun r => r = .im (.bl true) } := by
  have hh : ∀ F H, HandC (c.at F H) := fun F H => hK.hand (hK.at_ F H hB)
  have e1 : leafT "a" = "leaf a" := by decide +kernel
  have en0 : En [] := ⟨by decide, fun _ h => by cases h⟩
  have ena : En ["a"] := ⟨by decide, fun s h => by rw [List.mem_singleton.mp h]; decide +kernel⟩
  have enab : En ["a", "b"] := ⟨by decide, fun s h => by
    simp only [List.mem_cons, List.not_mem_nil, or_false] at h
    rcases h with rfl | rfl <;> decide +kernel⟩
  refine ⟨fun x => x = false, ⟨_, prm (p_logroot m d) hX fun _ _ => trivial, [], en0, rfl, fun r _ hr => ?_⟩, fun x hx => ?_⟩
  · subst hr
    refine ⟨_, prm (p_ldig m d) hX fun _ _ => trivial, "empty", trivial, rfl, fun r _ hr => ?_⟩
    subst hr
    refine ⟨fun _ => ?_, fun z => ?_⟩
    · refine ⟨_, prm (p_logroot m d) hX fun _ _ => trivial, ["a"], ena, rfl, fun r _ hr => ?_⟩
      subst hr
      refine ⟨_, prm (p_ldig m d) hX fun _ _ => trivial, "leaf a", trivial, rfl, fun r _ hr => ?_⟩
      subst hr
      show (!decide (root ["a"] = dg "leaf a")) = false
      rw [root_1, e1, decide_eq_true rfl]
      rfl
    · have z : (!decide (root [] = dg "empty")) = true := z
      rw [root_0, decide_eq_true rfl] at z
      cases z
  subst hx
  refine ⟨(fun z => by cases z), fun _ => ?_⟩
  refine ⟨_, prm (p_logroot m d) hX fun _ _ => trivial, ["a", "b"], enab, rfl, fun r _ hr => ?_⟩
  subst hr
  refine ⟨_, prm (p_lnode m d) hX fun _ _ => trivial, _, prm (p_ldig m d) hX fun _ _ => trivial, "leaf a", trivial, rfl, fun r _ hr => ?_⟩
  subst hr
  refine ⟨_, prm (p_ldig m d) hX fun _ _ => trivial, "leaf b", trivial, rfl, fun r _ hr => ?_⟩
  subst hr
  refine ⟨(dg "leaf a", dg "leaf b"), ⟨(dg_b _).bi, (dg_b _).bi⟩, rfl, fun r _ hr => ?_⟩
  subst hr
  refine ⟨fun z => ?_, fun _ => ?_⟩
  · have z : (!decide (root ["a", "b"] = dg (nodeT (dg "leaf a") (dg "leaf b")))) = true := z
    rw [root_ab, decide_eq_true rfl] at z
    cases z
  refine ⟨⟨by decide, by decide⟩, fun i Γ => ∃ s2 s3, Γ = [.any, .hand, s2, s3], ⟨_, _, rfl⟩, fun F i Γ hi hj => ?_, fun Γ hj => ?_⟩
  · obtain ⟨s2, s3, rfl⟩ := hj
    have hB2 := hK.up F hB
    have hh2 : ∀ F1 H1, HandC ((c.up F).at F1 H1) := fun F1 H1 => hK.hand (hK.at_ F1 H1 hB2)
    have hb2 : ∀ F1 H1, B ((c.up F).at F1 H1) := fun F1 H1 => hK.at_ F1 H1 hB2
    refine ⟨_, rfl, ?_⟩
    refine ⟨_, prm (p_texts m d) hX hh2, _, prm (p_any m d) hX hh2, [.int 3, .int 9, .int 17, .int 40], ⟨by decide, by decide⟩, rfl, fun r _ hr => ?_⟩
    obtain ⟨x, hx, rfl⟩ := hr
    obtain ⟨n, hn, rfl⟩ : ∃ n : Nat, n ≤ 40 ∧ x = .int (n : Nat) := by
      simp only [List.mem_cons, List.not_mem_nil, or_false] at hx
      rcases hx with rfl | rfl | rfl | rfl
      · exact ⟨3, by decide, rfl⟩
      · exact ⟨9, by decide, rfl⟩
      · exact ⟨17, by decide, rfl⟩
      · exact ⟨40, by decide, rfl⟩
    refine ⟨n, hn, rfl, fun r _ hr => ?_⟩
    obtain ⟨l, hl, hs, rfl⟩ := hr
    have el : En l := ⟨by omega, hs⟩
    refine ⟨fun x => x = false, ⟨_, prm (p_lint m d) hX fun _ _ => trivial, _, prm (p_logroot m d) hX fun _ _ => trivial, l, el, rfl, fun r _ hr => ?_⟩, fun x hx => ?_⟩
    · subst hr
      refine ⟨.int (root l), trivial, rfl, fun r _ hr => ?_⟩
      subst hr
      refine ⟨fun _ => ⟨_, prm (p_logroot m d) hX fun _ _ => trivial, l, el, rfl, fun r _ hr => ?_⟩, (fun z => by cases z)⟩
      subst hr
      refine ⟨_, prm (p_lroot m d 8) hX fun _ _ => trivial, l, el, rfl, fun r _ hr => ?_⟩
      subst hr
      show (!decide (root l = root l)) = false
      rw [decide_eq_true rfl]
      rfl
    subst hx
    refine ⟨(fun z => by cases z), fun _ => ?_⟩
    refine ⟨fun x => x = false, ⟨fun z => ?_, fun z => ?_⟩, fun x hx => ?_⟩
    · have z := of_decide_eq_true z
      rw [List.length_map] at z
      refine ⟨_, prm Gp hX hb2, l, ⟨el, by omega⟩, rfl, fun r _ hr => ?_⟩
      subst hr
      exact rfl
    · exact rfl
    subst hx
    refine ⟨(fun z => by cases z), fun _ => ?_⟩
    refine ⟨_, prm Gc hX hb2, l, ⟨by omega, hs⟩, rfl, fun r _ hr => ?_⟩
    subst hr
    exact ⟨(fun z => by cases z), fun _ => ⟨_, _, rfl⟩⟩
  · exact rfl
end
end K85

set_option Elab.async false
set_option linter.all false
set_option pp.maxSteps 300
set_option maxRecDepth 100000
set_option maxHeartbeats 2000000
/-! J1: k85: all that stands behind the top (printed by genjoin.py) -/
namespace K85
open PySem PySem.Spec PyProof.Rows L2 DL
/-- an error class, as it stands behind the top -/
structure ErS (K : PySem.W.Frag) (x : Str) (bm : List Value) (newId : String) (N : Addr) : Prop where
  n : PySem.W.nsIn K mainGlobals x = some (some (.ref N))
  c : ExcC K N
  q : PySem.W.excIn K N bm newId = true
  k : PySem.W.keepIn K (.ref N) = true
  r1 : PySem.W.subIn K (.ref N) (.type "BaseException") = some true
  r2 : PySem.W.typeIn K (.ref N) = some (.type "type")
structure Sts (K : PySem.W.Frag) (f1 c1 P1 N0 L : Addr) : Prop where
  d0 : At K "is_integer" sIsInteger
  d1 : At K "is_within" sIsWithin
  d2 : At K "digest" sDigest
  d3 : At K "are_entries" sAreEntries
  d4 : At K "check_entries" sCheckEntries
  d5 : At K "leaf_text" sLeafText
  d6 : At K "node_text" sNodeText
  d7 : At K "left_part" sLeftPart
  d8 : At K "root_of" sRootOf
  d9 : At K "log_root" sLogRoot
  d10 : At K "path_of" sPathOf
  d11 : At K "check_place" sCheckPlace
  d12 : At K "proof_in" sProofIn
  d13 : At K "turns_of" sTurnsOf
  d14 : At K "is_proof" sIsProof
  d15 : At K "texts_up" sTextsUp
  d16 : At K "is_in" sIsIn
  d17 : At K "clash_of" sClashOf
  d18 : At K "is_clash" sIsClash
  d19 : At K "_law_hand" sHnd
  d20 : At K "_law_draw" sDrw
  d21 : At K "_law_any" sLAny
  d22 : At K "_law_is_int" sLIsInt
  d23 : At K "_law_digest" sLDigest
  d24 : At K "_law_node" sLNode
  d25 : At K "_law_cut" sLCut
  d26 : At K "_law_root" sLRoot
  d27 : At K "_law_texts" sLTexts
  d28 : At K "_law_proof" sLProof
  d29 : At K "_law_up" sLUp
  d30 : At K "_law_is_in" sLIsIn
  d31 : At K "_law_bent" sLBent
  d32 : At K "_law_are_like" sLAreLike
  d33 : At K "_law_is_clash" sLIsClash
  d34 : At K "_law_told" sLTold
  d35 : At K "_law_place_right" sLPlaceRight
  d36 : At K "_law_clash_right" sLClashRight
  la : At K "law" sLaw
  z0 : PySem.W.nsIn K mainGlobals "isinstance" = some none
  z1 : PySem.W.nsIn K mainGlobals "tuple" = some none
  z2 : PySem.W.nsIn K mainGlobals "str" = some none
  z3 : PySem.W.nsIn K mainGlobals "int" = some none
  z4 : PySem.W.nsIn K mainGlobals "bool" = some none
  z5 : PySem.W.nsIn K mainGlobals "len" = some none
  z6 : PySem.W.nsIn K mainGlobals "all" = some none
  z7 : PySem.W.nsIn K mainGlobals "any" = some none
  z8 : PySem.W.nsIn K mainGlobals "sum" = some none
  z9 : PySem.W.nsIn K mainGlobals "min" = some none
  z10 : PySem.W.nsIn K mainGlobals "max" = some none
  z11 : PySem.W.nsIn K mainGlobals "list" = some none
  z12 : PySem.W.nsIn K mainGlobals "dict" = some none
  z13 : PySem.W.nsIn K mainGlobals "set" = some none
  z14 : PySem.W.nsIn K mainGlobals "range" = some none
  z15 : PySem.W.nsIn K mainGlobals "enumerate" = some none
  z16 : PySem.W.nsIn K mainGlobals "zip" = some none
  z17 : PySem.W.nsIn K mainGlobals "sorted" = some none
  z18 : PySem.W.nsIn K mainGlobals "repr" = some none
  z19 : PySem.W.nsIn K mainGlobals "abs" = some none
  z20 : PySem.W.nsIn K mainGlobals "ord" = some none
  z21 : PySem.W.nsIn K mainGlobals "ValueError" = some none
  z22 : PySem.W.nsIn K mainGlobals "KeyError" = some none
  g0 : Cni K "FIRST" (7)
  g1 : Cni K "TIMES" (131)
  g2 : Cni K "BELOW" (2305843009213693951)
  g3 : Cni K "MOST_ENTRIES" (256)
  a1 : AtT K "_law_is_held" sLIsHeld f1 c1 P1
  e0 : ErS K "NoProof" [.type "ValueError", .type "Exception", .type "BaseException", .type "object"] "ValueError.__new__" N0
  x0 : PySem.W.exmOne K (.ref N0) (.ref L) = some true
  y0 : PySem.W.kitOne K (.ref N0) (.ref N0) = some true
  v0 : PySem.W.kitOne K (.ref N0) (.type "ValueError") = some true
  le : PySem.W.nsIn K mainGlobals "LockError" = some (some (.ref L))
section
variable {K : PySem.W.Frag} {h : Heap} {mg : Str → Option Value} {f1 c1 P1 N0 L : Addr}
theorem Sts.m (S : Sts K f1 c1 P1 N0 L) (X : K.In h) (G : h.Ns mainGlobals mg) : Mc mg where
  isi := PySem.W.mg_none_of X G S.z0
  tup := PySem.W.mg_none_of X G S.z1
  str := PySem.W.mg_none_of X G S.z2
  int := PySem.W.mg_none_of X G S.z3
  bool := PySem.W.mg_none_of X G S.z4
  len := PySem.W.mg_none_of X G S.z5
  all := PySem.W.mg_none_of X G S.z6
  any := PySem.W.mg_none_of X G S.z7
  sum := PySem.W.mg_none_of X G S.z8
  min := PySem.W.mg_none_of X G S.z9
  max := PySem.W.mg_none_of X G S.z10
  list := PySem.W.mg_none_of X G S.z11
  dict := PySem.W.mg_none_of X G S.z12
  set := PySem.W.mg_none_of X G S.z13
  range := PySem.W.mg_none_of X G S.z14
  enum := PySem.W.mg_none_of X G S.z15
  zip := PySem.W.mg_none_of X G S.z16
  sorted := PySem.W.mg_none_of X G S.z17
  repr := PySem.W.mg_none_of X G S.z18
  abs := PySem.W.mg_none_of X G S.z19
  ord := PySem.W.mg_none_of X G S.z20
  ve := PySem.W.mg_none_of X G S.z21
  ke := PySem.W.mg_none_of X G S.z22
  first := let ⟨t, a⟩ := S.g0.ex; ⟨t, PySem.W.mg_of X G a⟩
  times := let ⟨t, a⟩ := S.g1.ex; ⟨t, PySem.W.mg_of X G a⟩
  below := let ⟨t, a⟩ := S.g2.ex; ⟨t, PySem.W.mg_of X G a⟩
  most := let ⟨t, a⟩ := S.g3.ex; ⟨t, PySem.W.mg_of X G a⟩
theorem Sts.own0 (S : Sts K f1 c1 P1 N0 L) (X : K.In h) (G : h.Ns mainGlobals mg) : OwnE K mg "NoProof" N0 := ⟨⟨_, _, _, _, PySem.F.excBase_ValueError, S.e0.q⟩, PySem.W.mg_of X G S.e0.n, S.e0.k, S.e0.r1, S.e0.r2⟩
theorem Sts.tld0 (S : Sts K f1 c1 P1 N0 L) (X : K.In h) (G : h.Ns mainGlobals mg) : TldM K mg L N0 := ⟨PySem.W.mg_of X G S.le, PySem.W.mg_of X G S.e0.n, PySem.W.mg_none_of X G S.z0, PySem.W.mg_none_of X G S.z21, S.x0, S.y0, S.v0, S.e0.c⟩
theorem Sts.ds (S : Sts K f1 c1 P1 N0 L) (X : K.In h) (G : h.Ns mainGlobals mg) (P : Program) (w : World) (base : Heap) : Ds ⟨P, w, K, mg, base⟩ where
  dIsInteger := S.d0.df X G fun _ _ _ _ _ _ us hl => match us, hl with | [_], _ => rfl
  dIsWithin := S.d1.df X G fun _ _ _ _ _ _ us hl => match us, hl with | [_, _, _], _ => rfl
  dDigest := S.d2.df X G fun _ _ _ _ _ _ us hl => match us, hl with | [_], _ => rfl
  dAreEntries := S.d3.df X G fun _ _ _ _ _ _ us hl => match us, hl with | [_], _ => rfl
  dCheckEntries := S.d4.df X G fun _ _ _ _ _ _ us hl => match us, hl with | [_], _ => rfl
  dLeafText := S.d5.df X G fun _ _ _ _ _ _ us hl => match us, hl with | [_], _ => rfl
  dNodeText := S.d6.df X G fun _ _ _ _ _ _ us hl => match us, hl with | [_, _], _ => rfl
  dLeftPart := S.d7.df X G fun _ _ _ _ _ _ us hl => match us, hl with | [_], _ => rfl
  dRootOf := S.d8.df X G fun _ _ _ _ _ _ us hl => match us, hl with | [_], _ => rfl
  dLogRoot := S.d9.df X G fun _ _ _ _ _ _ us hl => match us, hl with | [_], _ => rfl
  dPathOf := S.d10.df X G fun _ _ _ _ _ _ us hl => match us, hl with | [_, _], _ => rfl
  dCheckPlace := S.d11.df X G fun _ _ _ _ _ _ us hl => match us, hl with | [_, _], _ => rfl
  dProofIn := S.d12.df X G fun _ _ _ _ _ _ us hl => match us, hl with | [_, _], _ => rfl
  dTurnsOf := S.d13.df X G fun _ _ _ _ _ _ us hl => match us, hl with | [_, _], _ => rfl
  dIsProof := S.d14.df X G fun _ _ _ _ _ _ us hl => match us, hl with | [_], _ => rfl
  dTextsUp := S.d15.df X G fun _ _ _ _ _ _ us hl => match us, hl with | [_, _, _, _], _ => rfl
  dIsIn := S.d16.df X G fun _ _ _ _ _ _ us hl => match us, hl with | [_, _, _, _, _], _ => rfl
  dClashOf := S.d17.df X G fun _ _ _ _ _ _ us hl => match us, hl with | [_, _, _, _], _ => rfl
  dIsClash := S.d18.df X G fun _ _ _ _ _ _ us hl => match us, hl with | [_], _ => rfl
  dHnd := S.d19.df X G fun _ _ _ _ _ _ us hl => match us, hl with | [_], _ => rfl
  dDrw := S.d20.df X G fun _ _ _ _ _ _ us hl => match us, hl with | [_, _], _ => rfl
  dLAny := S.d21.df X G fun _ _ _ _ _ _ us hl => match us, hl with | [_, _], _ => rfl
  dLIsInt := S.d22.df X G fun _ _ _ _ _ _ us hl => match us, hl with | [_], _ => rfl
  dLDigest := S.d23.df X G fun _ _ _ _ _ _ us hl => match us, hl with | [_], _ => rfl
  dLNode := S.d24.df X G fun _ _ _ _ _ _ us hl => match us, hl with | [_, _], _ => rfl
  dLCut := S.d25.df X G fun _ _ _ _ _ _ us hl => match us, hl with | [_], _ => rfl
  dLRoot := S.d26.df X G fun _ _ _ _ _ _ us hl => match us, hl with | [_], _ => rfl
  dLTexts := S.d27.df X G fun _ _ _ _ _ _ us hl => match us, hl with | [_, _], _ => rfl
  dLProof := S.d28.df X G fun _ _ _ _ _ _ us hl => match us, hl with | [_, _], _ => rfl
  dLUp := S.d29.df X G fun _ _ _ _ _ _ us hl => match us, hl with | [_, _, _, _], _ => rfl
  dLIsIn := S.d30.df X G fun _ _ _ _ _ _ us hl => match us, hl with | [_, _, _, _, _], _ => rfl
  dLBent := S.d31.df X G fun _ _ _ _ _ _ us hl => match us, hl with | [_, _], _ => rfl
  dLAreLike := S.d32.df X G fun _ _ _ _ _ _ us hl => match us, hl with | [_], _ => rfl
  dLIsClash := S.d33.df X G fun _ _ _ _ _ _ us hl => match us, hl with | [_], _ => rfl
  dLTold := S.d34.df X G fun _ _ _ _ _ _ us hl => match us, hl with | [_], _ => rfl
  dLPlaceRight := S.d35.df X G fun _ _ _ _ _ _ us hl => match us, hl with | [_, _], _ => rfl
  dLClashRight := S.d36.df X G fun _ _ _ _ _ _ us hl => match us, hl with | [_, _], _ => rfl
end
end K85

set_option Elab.async false
set_option linter.all false
set_option pp.maxSteps 300
set_option maxRecDepth 100000
set_option maxHeartbeats 2000000
/-! J2: k85: all promises, joined -/
namespace K85
open PySem PySem.Spec PyProof.Rows L2 DL
theorem all_mk {w : World} {K : PySem.W.Frag} {h : Heap} {mg : Str → Option Value} {fa f1 c1 P1 N0 L : Addr} (X : K.In h) (G : h.Ns mainGlobals mg) (hfa : mg "law" = some (.ref fa)) (hT : ∀ y ∈ (["_law_is_held"] : List Str), ∀ c P, PySem.W.tabIn K y = some (c, P) → h.get? P = some noTab) (S : Sts K f1 c1 P1 N0 L) :
    ∃ (fd : FuncData) (cs : List (Addr × Addr)), (∀ p ∈ cs, h.get? p.2 = some noTab) ∧ (∀ p ∈ cs, K.lookup p.2 = none) ∧ (∀ p ∈ cs, PySem.W.codeHdIn K p.1 p.2 = true) ∧ (∀ (s : Shared) (v : Value), BindsTo s fd ⟨[v], []⟩ [("script", v)]) ∧ LawT PySem.Challenge.rw_pinforge_k85_whole_logs_proofs_and_clash.prog w K mg 19 fa fd "script" 63 cs := by
  have m := S.m X G
  have O := S.own0 X G
  have t := S.tld0 X G
  obtain ⟨f, fd, F, hm, kV, doc, pm, an, cdv, ct, e⟩ := S.la.fn X G
  have e0 := hfa.symm.trans hm
  cases e0
  obtain ⟨fd1, F1, kV1, doc1, pm1, an1, ct1, e1⟩ := S.a1.funC
  refine ⟨fd, [(c1, P1)], fun p hp => ?_, fun p hp => ?_, fun p hp => ?_, fun s v => by rw [e]; exact .of_eq rfl, fun base _ _ TB => ?_⟩
  · rw [List.mem_singleton.mp hp]
    exact hT _ (by simp) _ _ S.a1.tab
  · rw [List.mem_singleton.mp hp]
    exact S.a1.n
  · rw [List.mem_singleton.mp hp]
    exact S.a1.h
  have b1 : Binds K fd1 ["entries", "place", "text", "proof"] [] := F1.fn.binds fun kV doc pm an cdv ct us hl => match us, hl with | [_, _, _, _], _ => rfl
  have d := S.ds X G PySem.Challenge.rw_pinforge_k85_whole_logs_proofs_and_clash.prog w base
  obtain ⟨fh, fdh, Fh, hmh, hbh⟩ := d.dHnd.ex
  have GH := p_held (R := ⟨PySem.Challenge.rw_pinforge_k85_whole_logs_proofs_and_clash.prog, w, K, mg, base⟩) m d t O F1 (PySem.W.mg_of X G S.a1.a) b1 (TB (c1, P1) (by simp))
  have Gp := p_place m d knd_T GH
  have Gc := p_cright m d knd_T GH
  have Lw := law_mk (R := ⟨PySem.Challenge.rw_pinforge_k85_whole_logs_proofs_and_clash.prog, w, K, mg, base⟩) (k := 18) (n := 63) (Ts := [(P1, lamQ)]) (fr := BN) (core := rLaw.drop 1) (by simp) ((ok_hndT (k := 0) m.toMb Fh).mono (by decide)) hmh Fh.kp hbh F scLaw m.fr rfl (by decide +kernel) rfl rfl (by decide +kernel) (by decide +kernel) (by decide +kernel) (fun _ => rfl) fun X c hX ok hB => v_law m d knd_T Gp Gc hX hB
  refine ⟨fun vs H Q E h => ?_, fun A outer s H args us vs Q E hgd hr e0 hbd r h => Lw.go A outer s H args us vs Q E hgd hr e0 hbd r ?_⟩
  · obtain ⟨a, ns, rfl, _⟩ := h
    rfl
  obtain ⟨a, ns, h1, h2, h3, h4, h5⟩ := h
  exact ⟨a, ns, h1, h2, fun t ht => by rw [List.mem_singleton.mp ht]; exact h3 (c1, P1) (by simp), h4, h5⟩
end K85

set_option Elab.async false
set_option linter.all false
set_option maxRecDepth 100000
set_option maxHeartbeats 0
open PySem PySem.W PyProof.Rows
open_top hd85 for PySem.Challenge.rw_pinforge_k85_whole_logs_proofs_and_clash

set_option Elab.async false
set_option linter.all false
set_option maxRecDepth 100000
set_option maxHeartbeats 0
/-! J3: k85: the end -/
open PySem PySem.W PyProof.Rows
theorem PySem.Challenge.cw_pinforge_k85_whole_logs_proofs_and_clash_holds : PySem.Challenge.rw_pinforge_k85_whole_logs_proofs_and_clash.Holds := by
  refine hd85 ?_
  k_fill
  refine DL.walk_ofTG (l := PySem.Challenge.rw_pinforge_k85_whole_logs_proofs_and_clash) (n := 63) (k := 19) (x := "script") (names := ["_law_is_held"]) rfl (by decide) rfl ⟨rfl, by decide, by decide⟩ (by decide +kernel) (fun w h Y => PySem.W.km_in_of Y) ?F
  case F =>
    intro w mg fa h KX G hmg hT
    refine' K85.all_mk (f1 := ?f1) (c1 := ?c1) (P1 := ?P1) (N0 := ?N0) (L := ?L) KX G hmg hT ?S
    case S =>
      refine' K85.Sts.mk ?d0 ?d1 ?d2 ?d3 ?d4 ?d5 ?d6 ?d7 ?d8 ?d9 ?d10 ?d11 ?d12 ?d13 ?d14 ?d15 ?d16 ?d17 ?d18 ?d19 ?d20 ?d21 ?d22 ?d23 ?d24 ?d25 ?d26 ?d27 ?d28 ?d29 ?d30 ?d31 ?d32 ?d33 ?d34 ?d35 ?d36 ?la ?z0 ?z1 ?z2 ?z3 ?z4 ?z5 ?z6 ?z7 ?z8 ?z9 ?z10 ?z11 ?z12 ?z13 ?z14 ?z15 ?z16 ?z17 ?z18 ?z19 ?z20 ?z21 ?z22 ?g0 ?g1 ?g2 ?g3 ?a1 ?e0 ?x0 ?y0 ?v0 ?le
      case d0 => refine' DL.at_mk ?a ?l ?c ?k; (case a => k_is); (case l => k_is); (case c => k_is); (case k => k_is)
      case d1 => refine' DL.at_mk ?a ?l ?c ?k; (case a => k_is); (case l => k_is); (case c => k_is); (case k => k_is)
      case d2 => refine' DL.at_mk ?a ?l ?c ?k; (case a => k_is); (case l => k_is); (case c => k_is); (case k => k_is)
      case d3 => refine' DL.at_mk ?a ?l ?c ?k; (case a => k_is); (case l => k_is); (case c => k_is); (case k => k_is)
      case d4 => refine' DL.at_mk ?a ?l ?c ?k; (case a => k_is); (case l => k_is); (case c => k_is); (case k => k_is)
      case d5 => refine' DL.at_mk ?a ?l ?c ?k; (case a => k_is); (case l => k_is); (case c => k_is); (case k => k_is)
      case d6 => refine' DL.at_mk ?a ?l ?c ?k; (case a => k_is); (case l => k_is); (case c => k_is); (case k => k_is)
      case d7 => refine' DL.at_mk ?a ?l ?c ?k; (case a => k_is); (case l => k_is); (case c => k_is); (case k => k_is)
      case d8 => refine' DL.at_mk ?a ?l ?c ?k; (case a => k_is); (case l => k_is); (case c => k_is); (case k => k_is)
      case d9 => refine' DL.at_mk ?a ?l ?c ?k; (case a => k_is); (case l => k_is); (case c => k_is); (case k => k_is)
      case d10 => refine' DL.at_mk ?a ?l ?c ?k; (case a => k_is); (case l => k_is); (case c => k_is); (case k => k_is)
      case d11 => refine' DL.at_mk ?a ?l ?c ?k; (case a => k_is); (case l => k_is); (case c => k_is); (case k => k_is)
      case d12 => refine' DL.at_mk ?a ?l ?c ?k; (case a => k_is); (case l => k_is); (case c => k_is); (case k => k_is)
      case d13 => refine' DL.at_mk ?a ?l ?c ?k; (case a => k_is); (case l => k_is); (case c => k_is); (case k => k_is)
      case d14 => refine' DL.at_mk ?a ?l ?c ?k; (case a => k_is); (case l => k_is); (case c => k_is); (case k => k_is)
      case d15 => refine' DL.at_mk ?a ?l ?c ?k; (case a => k_is); (case l => k_is); (case c => k_is); (case k => k_is)
      case d16 => refine' DL.at_mk ?a ?l ?c ?k; (case a => k_is); (case l => k_is); (case c => k_is); (case k => k_is)
      case d17 => refine' DL.at_mk ?a ?l ?c ?k; (case a => k_is); (case l => k_is); (case c => k_is); (case k => k_is)
      case d18 => refine' DL.at_mk ?a ?l ?c ?k; (case a => k_is); (case l => k_is); (case c => k_is); (case k => k_is)
      case d19 => refine' DL.at_mk ?a ?l ?c ?k; (case a => k_is); (case l => k_is); (case c => k_is); (case k => k_is)
      case d20 => refine' DL.at_mk ?a ?l ?c ?k; (case a => k_is); (case l => k_is); (case c => k_is); (case k => k_is)
      case d21 => refine' DL.at_mk ?a ?l ?c ?k; (case a => k_is); (case l => k_is); (case c => k_is); (case k => k_is)
      case d22 => refine' DL.at_mk ?a ?l ?c ?k; (case a => k_is); (case l => k_is); (case c => k_is); (case k => k_is)
      case d23 => refine' DL.at_mk ?a ?l ?c ?k; (case a => k_is); (case l => k_is); (case c => k_is); (case k => k_is)
      case d24 => refine' DL.at_mk ?a ?l ?c ?k; (case a => k_is); (case l => k_is); (case c => k_is); (case k => k_is)
      case d25 => refine' DL.at_mk ?a ?l ?c ?k; (case a => k_is); (case l => k_is); (case c => k_is); (case k => k_is)
      case d26 => refine' DL.at_mk ?a ?l ?c ?k; (case a => k_is); (case l => k_is); (case c => k_is); (case k => k_is)
      case d27 => refine' DL.at_mk ?a ?l ?c ?k; (case a => k_is); (case l => k_is); (case c => k_is); (case k => k_is)
      case d28 => refine' DL.at_mk ?a ?l ?c ?k; (case a => k_is); (case l => k_is); (case c => k_is); (case k => k_is)
      case d29 => refine' DL.at_mk ?a ?l ?c ?k; (case a => k_is); (case l => k_is); (case c => k_is); (case k => k_is)
      case d30 => refine' DL.at_mk ?a ?l ?c ?k; (case a => k_is); (case l => k_is); (case c => k_is); (case k => k_is)
      case d31 => refine' DL.at_mk ?a ?l ?c ?k; (case a => k_is); (case l => k_is); (case c => k_is); (case k => k_is)
      case d32 => refine' DL.at_mk ?a ?l ?c ?k; (case a => k_is); (case l => k_is); (case c => k_is); (case k => k_is)
      case d33 => refine' DL.at_mk ?a ?l ?c ?k; (case a => k_is); (case l => k_is); (case c => k_is); (case k => k_is)
      case d34 => refine' DL.at_mk ?a ?l ?c ?k; (case a => k_is); (case l => k_is); (case c => k_is); (case k => k_is)
      case d35 => refine' DL.at_mk ?a ?l ?c ?k; (case a => k_is); (case l => k_is); (case c => k_is); (case k => k_is)
      case d36 => refine' DL.at_mk ?a ?l ?c ?k; (case a => k_is); (case l => k_is); (case c => k_is); (case k => k_is)
      case la => refine' DL.at_mk ?a ?l ?c ?k; (case a => k_is); (case l => k_is); (case c => k_is); (case k => k_is)
      case z0 => k_is
      case z1 => k_is
      case z2 => k_is
      case z3 => k_is
      case z4 => k_is
      case z5 => k_is
      case z6 => k_is
      case z7 => k_is
      case z8 => k_is
      case z9 => k_is
      case z10 => k_is
      case z11 => k_is
      case z12 => k_is
      case z13 => k_is
      case z14 => k_is
      case z15 => k_is
      case z16 => k_is
      case z17 => k_is
      case z18 => k_is
      case z19 => k_is
      case z20 => k_is
      case z21 => k_is
      case z22 => k_is
      case g0 => refine' DL.cni_mk ?a; (case a => k_is)
      case g1 => refine' DL.cni_mk ?a; (case a => k_is)
      case g2 => refine' DL.cni_mk ?a; (case a => k_is)
      case g3 => refine' DL.cni_mk ?a; (case a => k_is)
      case a1 => refine' DL.atT_mk ?a ?l ?c ?k ?t ?t2 ?h ?n; (case a => k_is); (case l => k_is); (case c => k_is); (case k => k_is); (case t => k_is); (case t2 => exact rfl); (case h => kernel_rfl); (case n => kernel_rfl)
      case le => k_is
      case e0 => refine' K85.ErS.mk ?n ?c ?q ?k ?r1 ?r2; (case n => k_is); (case c => refine' L2.ExcC.mk ?hg ?hk ?hs ?hd ?ha ?hn ?ht ?hm; (case hg => k_is); (case hk => k_is); (case hs => k_is); (case hd => k_is); (case ha => k_is); (case hn => k_is); (case ht => k_is); (case hm => k_is)); (case q => k_exc); (case k => k_is); (case r1 => k_is); (case r2 => k_is)
      case x0 => kts_exm
      case y0 => kit_is
      case v0 => kit_is
