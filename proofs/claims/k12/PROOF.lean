import PyProof.Rows.All
import Wide.All
import OpenK.AllK
import Wide.FinOn
import HandS.ForMost
import HandS.Exc
import HandS.Walk
import HandS.TupAny
import HandS.TupLe
import HandS.Wide
import HandS.WideBits
import HandS.Deep
import HandS.WordsExc
import HandS.Defaults
import KE.GoesEnum
import KE.GoesMore
import HandS.Zip
import HandS.NoneIn
import HandS.Style
import HandS.IsInst
import HandS.Conv
import HandS.More
import HandS.TupMul
import PyProof.ReprRoads
import PyProof.FitsInt
import KE.SortData
import HandS.TupSets
import HandS.Ends
import HandS.Codes
import HandS.ExcField
import HandS.ExcIs
import KE.KExcIs
import HandS.SetFor
import HandS.Strs
import PySem.Challenge.RW_touchrings_k12_beats_and_changes_counted
set_option Elab.async false
set_option linter.all false
set_option maxRecDepth 100000
/-! Dl: data without a heap, over HandS. D: trees of data; a def's mirror is a function of them. -/
namespace Dl
open PySem PySem.Spec PyProof.Rows L2

/-- data; dct true: keys are numbers and texts, dct false: keys are tuples of such; deck: the law's deck; scr: the script -/
inductive D where
  | non | bl (b : Bool) | int (i : Int) | str (x : Str)
  | tup (ds : List D) | lst (ds : List D) | dct (t : Bool) (ks vs : List D)
  | deck | scr (ns : List Int)

/-- the deck's content; n1, n3: its keys beside "mixed" -/
structure Dk where
  n1 : Str
  n3 : Str
  cells : List Int
  mixed : Int
  draws : Int

/-- a name's place: nothing known, a value that stands, a container that this def alone holds -/
inductive Slot where
  | un | fz (d : D) | lv (d : D)

structure Stt where
  ρ : List Slot
  dk : Option Dk

/-- an exception: its class's name, its fields -/
structure Exn where
  cls : Str
  fs : List (Str × D)

inductive R (α : Type) where
  | stuck | ok (a : α) (s : Stt) | exc (x : Exn) (s : Stt)

/-- what an expression gives: a value; the container of the i-th name; a container just made -/
inductive W where
  | val (d : D) | live (i : Nat) | fresh (d : D)

abbrev Ev (α : Type) := Stt → R α

/-! ### ghosts -/
structure Gh where
  F : Addr → Prop
  dk : Option (Addr × Addr)
  lk : Addr → Prop
  H0 : Hp
  F0 : Addr → Prop
  dk0 : Option (Addr × Addr)

def isDk (G : Gh) (a : Addr) : Prop := ∃ p c, G.dk = some (p, c) ∧ (a = p ∨ a = c)

/-- a key as data -/
def kD : Key → D
  | .inl i => .int i
  | .inr x => .str x

/-- the script's list -/
def ScrAt (K : PySem.W.Frag) (H : Hp) (a : Addr) (ns : List Int) : Prop :=
  (∃ o, H a = some (.frz o (.lst (ns.map V.int)))) ∨ ((∀ H', SqL K H' a (ns.map V.int)))

mutual
/-- the value v stands for d -/
inductive Rp (K : PySem.W.Frag) (G : Gh) (H : Hp) : V → D → Prop
  | non : Rp K G H .non .non
  | bl (b : Bool) : Rp K G H (.bl b) (.bl b)
  | int (i : Int) : Rp K G H (.int i) (.int i)
  | str (x : Str) : Rp K G H (.str x) (.str x)
  | tup {a : Addr} {vs : List V} {ds : List D} : H a = some (.tup vs) → RpL K G H vs ds → Rp K G H (.ref a) (.tup ds)
  | lst {a : Addr} {vs : List V} {ds : List D} : G.F a → H a = some (.lst vs) → RpL K G H vs ds → Rp K G H (.ref a) (.lst ds)
  | dK {a : Addr} {kvs : List (Key × V)} {vs : List D} : G.F a → Rd H a (.dK kvs) → RpL K G H (kvs.map Prod.snd) vs → Rp K G H (.ref a) (.dct true (kvs.map fun p => kD p.1) vs)
  | dT {a : Addr} {kvs : List (List Key × V)} {vs : List D} : G.F a → Rd H a (.dT kvs) → RpL K G H (kvs.map Prod.snd) vs → Rp K G H (.ref a) (.dct false (kvs.map fun p => .tup (p.1.map kD)) vs)
  | deck {a c : Addr} : G.dk = some (a, c) → Rp K G H (.ref a) .deck
  | scr {a : Addr} {ns : List Int} : ScrAt K H a ns → Rp K G H (.ref a) (.scr ns)
inductive RpL (K : PySem.W.Frag) (G : Gh) (H : Hp) : List V → List D → Prop
  | nil : RpL K G H [] []
  | cons {v : V} {vs : List V} {d : D} {ds : List D} : Rp K G H v d → RpL K G H vs ds → RpL K G H (v :: vs) (d :: ds)
end

/-- the container at a has the content d -/
inductive Bo (K : PySem.W.Frag) (G : Gh) (H : Hp) (a : Addr) : D → Prop
  | lst {vs : List V} {ds : List D} : H a = some (.lst vs) → RpL K G H vs ds → Bo K G H a (.lst ds)
  | dK {kvs : List (Key × V)} {vs : List D} : H a = some (.dK kvs) → RpL K G H (kvs.map Prod.snd) vs → Bo K G H a (.dct true (kvs.map fun p => kD p.1) vs)
  | dT {kvs : List (List Key × V)} {vs : List D} : H a = some (.dT kvs) → RpL K G H (kvs.map Prod.snd) vs → Bo K G H a (.dct false (kvs.map fun p => .tup (p.1.map kD)) vs)

/-- what stands is kept -/
structure Fro (G : Gh) (H : Hp) (G' : Gh) (H' : Hp) : Prop where
  f : ∀ a, G.F a → G'.F a
  l : ∀ a xs, G.F a → H a = some (.lst xs) → H' a = some (.lst xs)
  d : ∀ a u, G.F a → Rd H a u → Rd H' a u
  t : ∀ a xs, H a = some (.tup xs) → H' a = some (.tup xs)
  z : ∀ a o xs, H a = some (.frz o (.lst xs)) → H' a = some (.frz o (.lst xs))
  k : ∀ p, G.dk = some p → G'.dk = some p
theorem Fro.refl {G : Gh} {H : Hp} : Fro G H G H := ⟨fun _ h => h, fun _ _ _ h => h, fun _ _ _ h => h, fun _ _ h => h, fun _ _ _ h => h, fun _ h => h⟩
theorem Fro.trans {G G1 G2 : Gh} {H H1 H2 : Hp} (x : Fro G H G1 H1) (y : Fro G1 H1 G2 H2) : Fro G H G2 H2 :=
  ⟨fun a h => y.f a (x.f a h), fun a xs f h => y.l a xs (x.f a f) (x.l a xs f h), fun a u f h => y.d a u (x.f a f) (x.d a u f h), fun a xs h => y.t a xs (x.t a xs h), fun a o xs h => y.z a o xs (x.z a o xs h), fun p h => y.k p (x.k p h)⟩

section
variable {K : PySem.W.Frag} {G G' : Gh} {H H' : Hp}
theorem ScrAt.mono (x : Fro G H G' H') {a : Addr} {ns : List Int} (h : ScrAt K H a ns) : ScrAt K H' a ns := by
  rcases h with ⟨o, h⟩ | h
  · exact .inl ⟨o, x.z a o _ h⟩
  · exact .inr h
mutual
theorem Rp.mono (x : Fro G H G' H') : ∀ {v : V} {d : D}, Rp K G H v d → Rp K G' H' v d
  | _, _, .non => .non
  | _, _, .bl b => .bl b
  | _, _, .int i => .int i
  | _, _, .str s => .str s
  | _, _, .tup h r => .tup (x.t _ _ h) (RpL.mono x r)
  | _, _, .lst f h r => .lst (x.f _ f) (x.l _ _ f h) (RpL.mono x r)
  | _, _, .dK f h r => .dK (x.f _ f) (x.d _ _ f h) (RpL.mono x r)
  | _, _, .dT f h r => .dT (x.f _ f) (x.d _ _ f h) (RpL.mono x r)
  | _, _, .deck h => .deck (x.k _ h)
  | _, _, .scr h => .scr (h.mono x)
theorem RpL.mono (x : Fro G H G' H') : ∀ {vs : List V} {ds : List D}, RpL K G H vs ds → RpL K G' H' vs ds
  | _, _, .nil => .nil
  | _, _, .cons h r => .cons (Rp.mono x h) (RpL.mono x r)
end
theorem RpL.length : ∀ {vs : List V} {ds : List D}, RpL K G H vs ds → vs.length = ds.length
  | _, _, .nil => rfl
  | _, _, .cons _ r => by rw [List.length_cons, List.length_cons, RpL.length r]
theorem RpL.get : ∀ {vs : List V} {ds : List D} {i : Nat} {d : D}, RpL K G H vs ds → ds[i]? = some d → ∃ v, vs[i]? = some v ∧ Rp K G H v d
  | _, _, _, _, .nil, e => by simp at e
  | _, _, 0, _, .cons h _, e => by
    simp only [List.getElem?_cons_zero, Option.some.injEq] at e
    subst e
    exact ⟨_, rfl, h⟩
  | _, _, i + 1, d, .cons _ r, e => by
    obtain ⟨v, h1, h2⟩ := RpL.get (i := i) (d := d) r (by simpa using e)
    exact ⟨v, by simpa using h1, h2⟩
theorem RpL.append : ∀ {vs ws : List V} {ds es : List D}, RpL K G H vs ds → RpL K G H ws es → RpL K G H (vs ++ ws) (ds ++ es)
  | _, _, _, _, .nil, s => s
  | _, _, _, _, .cons h r, s => .cons h (RpL.append r s)
theorem RpL.take : ∀ {vs : List V} {ds : List D} (n : Nat), RpL K G H vs ds → RpL K G H (vs.take n) (ds.take n)
  | _, _, 0, _ => .nil
  | _, _, _ + 1, .nil => .nil
  | _, _, n + 1, .cons h r => .cons h (RpL.take n r)
theorem RpL.drop : ∀ {vs : List V} {ds : List D} (n : Nat), RpL K G H vs ds → RpL K G H (vs.drop n) (ds.drop n)
  | _, _, 0, r => r
  | _, _, _ + 1, .nil => .nil
  | _, _, n + 1, .cons _ r => RpL.drop n r
theorem RpL.set {v : V} {d : D} (q : Rp K G H v d) : ∀ {vs : List V} {ds : List D} (i : Nat), RpL K G H vs ds → RpL K G H (vs.set i v) (ds.set i d)
  | _, _, _, .nil => .nil
  | _, _, 0, .cons _ r => .cons q r
  | _, _, i + 1, .cons h r => .cons h (RpL.set q i r)
theorem RpL.ints : ∀ ns : List Int, RpL K G H (ns.map V.int) (ns.map D.int)
  | [] => .nil
  | n :: r => .cons (.int n) (RpL.ints r)
theorem RpL.of_ints : ∀ {vs : List V} {ns : List Int}, RpL K G H vs (ns.map D.int) → vs = ns.map V.int
  | _, [], h => by cases h; rfl
  | _, n :: r, h => by
    cases h with
    | cons h1 h2 =>
      cases h1
      rw [RpL.of_ints h2]
      rfl
theorem RpL.of_bls : ∀ {vs : List V} {bs : List Bool}, RpL K G H vs (bs.map D.bl) → vs = bs.map V.bl
  | _, [], h => by cases h; rfl
  | _, n :: r, h => by
    cases h with
    | cons h1 h2 =>
      cases h1
      rw [RpL.of_bls h2]
      rfl
theorem Bo.mono {a : Addr} {d : D} (x : Fro G H G' H') (e : H' a = H a) (h : Bo K G H a d) : Bo K G' H' a d := by
  cases h with
  | lst h r => exact .lst (e.trans h) (r.mono x)
  | dK h r => exact .dK (e.trans h) (r.mono x)
  | dT h r => exact .dT (e.trans h) (r.mono x)
theorem Bo.rp {a : Addr} {d : D} (f : G.F a) (h : Bo K G H a d) : Rp K G H (.ref a) d := by
  cases h with
  | lst h r => exact .lst f h r
  | dK h r => exact .dK f (.inl h) r
  | dT h r => exact .dT f (.inl h) r
/-- what a container holds -/
def isBo : HO → Prop
  | .lst _ => True
  | .dK _ => True
  | .dT _ => True
  | _ => False
theorem Bo.at {a : Addr} {d : D} (h : Bo K G H a d) : ∃ o, H a = some o ∧ isBo o := by
  cases h with
  | lst h r => exact ⟨_, h, trivial⟩
  | dK h r => exact ⟨_, h, trivial⟩
  | dT h r => exact ⟨_, h, trivial⟩
end
end Dl

namespace Dl
open PySem PySem.Spec PyProof.Rows L2

abbrev Sg := List (Option V)
/-! ### states -/
def DkAt (H : Hp) (p c : Addr) (k : Dk) : Prop :=
  H p = some (.dK [(.inr k.n1, .ref c), (.inr "mixed", .int k.mixed), (.inr k.n3, .int k.draws)]) ∧ H c = some (.lst (k.cells.map V.int)) ∧ k.cells.length ≤ 63
def DkOk (G : Gh) (H : Hp) (dk : Option Dk) : Prop :=
  match G.dk, dk with
  | none, none => True
  | some (p, c), some k => DkAt H p c k
  | _, _ => False
structure GOk (G : Gh) (H : Hp) : Prop where
  f0 : ∀ a, G.F0 a → G.F a
  fn : ∀ a, G.F a → G.F0 a ∨ G.H0 a = none
  ft : ∀ a, G.F a → H a ≠ none
  keep : ∀ a o, G.H0 a = some o → ¬ isDk G a → H a = some o ∨ (G.lk a ∧ ∃ od, H a = some (.frz od o))
  tr : ∀ a, G.H0 a ≠ none → H a ≠ none
  d0 : ∀ p, G.dk0 = some p → G.dk = some p
  dn : G.dk0 = none → ∀ p c, G.dk = some (p, c) → G.H0 p = none ∧ G.H0 c = none
  nd : ∀ a, isDk G a → ¬ G.F a
/-- a container of this def's own -/
structure Own (G : Gh) (a : Addr) : Prop where
  nf : ¬ G.F a
  h0 : G.H0 a = none
  nd : ¬ isDk G a
structure Rel (K : PySem.W.Frag) (G : Gh) (st : Stt) (σ : Sg) (H : Hp) : Prop where
  g : GOk G H
  dko : DkOk G H st.dk
  len : st.ρ.length = σ.length
  fz : ∀ (i : Nat) (d : D), st.ρ[i]? = some (.fz d) → ∃ v, σ[i]? = some (some v) ∧ Rp K G H v d
  lv : ∀ (i : Nat) (d : D), st.ρ[i]? = some (.lv d) → ∃ a, σ[i]? = some (some (.ref a)) ∧ Own G a ∧ Bo K G H a d
  ap : ∀ (i j : Nat) (d e : D) (a : Addr), st.ρ[i]? = some (.lv d) → st.ρ[j]? = some (.lv e) → σ[i]? = some (some (.ref a)) → σ[j]? = some (some (.ref a)) → i = j
def LiveAt (st : Stt) (σ : Sg) (a : Addr) : Prop := ∃ (i : Nat) (d : D), st.ρ[i]? = some (.lv d) ∧ σ[i]? = some (some (.ref a))
/-- the same def -/
structure Bs (G G' : Gh) : Prop where
  h : G'.H0 = G.H0
  f : G'.F0 = G.F0
  d : G'.dk0 = G.dk0
  l : G'.lk = G.lk
theorem Bs.refl {G : Gh} : Bs G G := ⟨rfl, rfl, rfl, rfl⟩
theorem Bs.trans {G G1 G2 : Gh} (x : Bs G G1) (y : Bs G1 G2) : Bs G G2 := ⟨y.h.trans x.h, y.f.trans x.f, y.d.trans x.d, y.l.trans x.l⟩
structure Ex (K : PySem.W.Frag) (σ : Sg) (G : Gh) (st : Stt) (H : Hp) (G' : Gh) (st' : Stt) (H' : Hp) : Prop where
  rel : Rel K G' st' σ H'
  bs : Bs G G'
  f : ∀ a, G.F a → G'.F a
  fn : ∀ a, G'.F a → G.F a ∨ H a = none ∨ LiveAt st σ a
  keep : ∀ a o, H a = some o → ¬ LiveAt st σ a → ¬ isDk G a → H' a = some o
  tr : ∀ a, H a ≠ none → H' a ≠ none
  lives : ∀ (i : Nat) (d' : D), st'.ρ[i]? = some (.lv d') → ∃ d : D, st.ρ[i]? = some (.lv d)
  slf : ∀ (i : Nat) (d : D), st.ρ[i]? = some (.fz d) → st'.ρ[i]? = some (.fz d)
  sll : ∀ (i : Nat) (d : D), st.ρ[i]? = some (.lv d) → ∃ d' : D, st'.ρ[i]? = some (.lv d') ∨ st'.ρ[i]? = some (.fz d')
  slu : ∀ (i : Nat), st.ρ[i]? = some .un → st'.ρ[i]? = some .un
  dkm : ∀ p, G.dk = some p → G'.dk = some p
  dkn : G.dk = none → ∀ p c, G'.dk = some (p, c) → H p = none ∧ H c = none

section
variable {K : PySem.W.Frag} {mg : Str → Option Value} {σ : Sg} {G G' G1 G2 : Gh} {st st' st1 st2 : Stt} {H H' H1 H2 : Hp} {a : Addr}
theorem DkOk.at (h : DkOk G H st.dk) {p c : Addr} (e : G.dk = some (p, c)) : ∃ k, st.dk = some k ∧ DkAt H p c k := by
  unfold DkOk at h
  rw [e] at h
  cases q : st.dk with
  | none => rw [q] at h; exact h.elim
  | some k => rw [q] at h; exact ⟨k, rfl, h⟩
/-- the deck's two objects are containers -/
theorem DkOk.bo (h : DkOk G H st.dk) (e : isDk G a) : ∃ o, H a = some o ∧ isBo o := by
  obtain ⟨p, c, e, z⟩ := e
  obtain ⟨k, _, h1, h2, _⟩ := h.at e
  rcases z with rfl | rfl
  · exact ⟨_, h1, trivial⟩
  · exact ⟨_, h2, trivial⟩
theorem Rel.live (r : Rel K G st σ H) (l : LiveAt st σ a) : Own G a ∧ ∃ d, Bo K G H a d := by
  obtain ⟨i, d, e, s⟩ := l
  obtain ⟨b, s', o, q⟩ := r.lv i d e
  rw [s] at s'
  cases s'
  exact ⟨o, d, q⟩
theorem Rel.liveT (r : Rel K G st σ H) (l : LiveAt st σ a) : H a ≠ none := by
  obtain ⟨_, d, q⟩ := r.live l
  obtain ⟨o, e, _⟩ := q.at
  rw [e]
  exact fun z => by cases z
theorem notBo_live (r : Rel K G st σ H) {o : HO} (e : H a = some o) (n : ¬ isBo o) : ¬ LiveAt st σ a := fun l => by
  obtain ⟨_, d, q⟩ := r.live l
  obtain ⟨o', e', b⟩ := q.at
  rw [e] at e'
  cases e'
  exact n b
theorem notBo_dk (r : Rel K G st σ H) {o : HO} (e : H a = some o) (n : ¬ isBo o) : ¬ isDk G a := fun l => by
  obtain ⟨o', e', b⟩ := r.dko.bo l
  rw [e] at e'
  cases e'
  exact n b
theorem Ex.fro (r : Rel K G st σ H) (x : Ex K σ G st H G' st' H') : Fro G H G' H' where
  f := x.f
  l := fun b xs f e => x.keep b _ e (fun l => (r.live l).1.nf f) fun d => r.g.nd b d f
  d := fun b u f e => by
    have n1 : ¬ LiveAt st σ b := fun l => (r.live l).1.nf f
    have n2 : ¬ isDk G b := fun d => r.g.nd b d f
    rcases e with e | ⟨o, e⟩
    · exact .inl (x.keep b _ e n1 n2)
    · exact .inr ⟨o, x.keep b _ e n1 n2⟩
  t := fun b xs e => x.keep b _ e (notBo_live r e id) (notBo_dk r e id)
  z := fun b o xs e => x.keep b _ e (notBo_live r e id) (notBo_dk r e id)
  k := x.dkm
theorem Ex.refl (r : Rel K G st σ H) : Ex K σ G st H G st H :=
  ⟨r, .refl, fun _ h => h, fun _ h => .inl h, fun _ _ h _ _ => h, fun _ h => h, fun _ d h => ⟨d, h⟩, fun _ _ h => h, fun _ d h => ⟨d, .inl h⟩, fun _ h => h, fun _ h => h, fun h p c e => by rw [h] at e; cases e⟩
theorem Ex.liveBack (x : Ex K σ G st H G' st' H') (l : LiveAt st' σ a) : LiveAt st σ a := by
  obtain ⟨i, d, e, s⟩ := l
  obtain ⟨d', e'⟩ := x.lives i d e
  exact ⟨i, d', e', s⟩
theorem isDk.mono (h : ∀ p, G.dk = some p → G'.dk = some p) (d : isDk G a) : isDk G' a := by
  obtain ⟨p, c, e, z⟩ := d
  exact ⟨p, c, h _ e, z⟩
/-- the deck of a later state: an earlier one, or new -/
theorem Ex.dkBack (x : Ex K σ G st H G' st' H') (d : isDk G' a) : isDk G a ∨ H a = none := by
  obtain ⟨p, c, e, z⟩ := d
  cases q : G.dk with
  | none =>
    obtain ⟨h1, h2⟩ := x.dkn q p c e
    rcases z with rfl | rfl
    · exact .inr h1
    · exact .inr h2
  | some u =>
    have e' := x.dkm u q
    rw [e] at e'
    cases e'
    exact .inl ⟨p, c, q, z⟩
theorem Ex.trans (r : Rel K G st σ H) (x : Ex K σ G st H G1 st1 H1) (y : Ex K σ G1 st1 H1 G2 st2 H2) : Ex K σ G st H G2 st2 H2 where
  rel := y.rel
  bs := x.bs.trans y.bs
  f := fun a h => y.f a (x.f a h)
  fn := fun a h => by
    rcases y.fn a h with h | h | h
    · exact x.fn a h
    · refine .inr (.inl ?_)
      cases q : H a with
      | none => rfl
      | some o => exact absurd h (x.tr a (by rw [q]; exact fun z => by cases z))
    · exact .inr (.inr (x.liveBack h))
  keep := fun a o e n d => y.keep a o (x.keep a o e n d) (fun l => n (x.liveBack l)) fun z => by
    rcases x.dkBack z with z | z
    · exact d z
    · rw [e] at z; cases z
  tr := fun a h => y.tr a (x.tr a h)
  lives := fun i d h => by
    obtain ⟨d1, h1⟩ := y.lives i d h
    exact x.lives i d1 h1
  slf := fun i d h => y.slf i d (x.slf i d h)
  sll := fun i d h => by
    obtain ⟨d1, h1 | h1⟩ := x.sll i d h
    · exact y.sll i d1 h1
    · exact ⟨d1, .inr (y.slf i d1 h1)⟩
  slu := fun i h => y.slu i (x.slu i h)
  dkm := fun p h => y.dkm p (x.dkm p h)
  dkn := fun h p c e => by
    cases q : G1.dk with
    | none =>
      obtain ⟨h1, h2⟩ := y.dkn q p c e
      have b : ∀ a, H1 a = none → H a = none := fun a z => by
        cases q : H a with
        | none => rfl
        | some o => exact absurd z (x.tr a (by rw [q]; exact fun z => by cases z))
      exact ⟨b p h1, b c h2⟩
    | some u =>
      have e' := y.dkm u q
      rw [e] at e'
      cases e'
      exact x.dkn h p c q

/-! ### what an expression gives -/
def content (st : Stt) : W → Option D
  | .val d => some d
  | .fresh d => some d
  | .live i => match st.ρ[i]? with
    | some (.lv d) => some d
    | some (.fz d) => some d
    | _ => none
/-- v stands for w; Hs: the heap ahead of the expression -/
def RpW (K : PySem.W.Frag) (G : Gh) (H : Hp) (st : Stt) (σ : Sg) (Hs : Hp) : W → V → Prop
  | .val d, v => Rp K G H v d
  | .live i, v => σ[i]? = some (some v) ∧ ∃ d : D, st.ρ[i]? = some (.lv d) ∨ st.ρ[i]? = some (.fz d)
  | .fresh d, v => ∃ a, v = .ref a ∧ Hs a = none ∧ Own G a ∧ Bo K G H a d
/-- v stands for d as things are -/
def Hd (K : PySem.W.Frag) (G : Gh) (H : Hp) (v : V) (d : D) : Prop := Rp K G H v d ∨ ∃ a, v = .ref a ∧ Bo K G H a d
theorem RpW.hd (r : Rel K G st σ H) {Hs : Hp} {w : W} {v : V} {d : D} (h : RpW K G H st σ Hs w v) (e : content st w = some d) : Hd K G H v d := by
  cases w with
  | val d' => cases e; exact .inl h
  | fresh d' =>
    cases e
    obtain ⟨a, e, _, _, b⟩ := h
    exact .inr ⟨a, e, b⟩
  | live i =>
    obtain ⟨s, d', q | q⟩ := h
    · have e' : d' = d := by simp only [content, q, Option.some.injEq] at e; exact e
      subst e'
      obtain ⟨a, s', _, b⟩ := r.lv i d' q
      rw [s] at s'
      cases s'
      exact .inr ⟨a, rfl, b⟩
    · have e' : d' = d := by simp only [content, q, Option.some.injEq] at e; exact e
      subst e'
      obtain ⟨v', s', b⟩ := r.fz i d' q
      rw [s] at s'
      cases s'
      exact .inl b
/-- a fresh container is not a name's -/
theorem fresh_nl (r0 : Rel K G st σ H) (x : Ex K σ G st H G1 st1 H1) (h : H a = none) : ¬ LiveAt st1 σ a := fun l => r0.liveT (x.liveBack l) h
theorem fresh_own (x : Ex K σ G st H G1 st1 H1) (y : Ex K σ G1 st1 H1 G2 st2 H2) (r : Rel K G st σ H) (h : H a = none) (o : Own G1 a) (t : H1 a ≠ none) : Own G2 a :=
  ⟨fun f => by
    rcases y.fn a f with z | z | z
    · exact o.nf z
    · exact t z
    · exact fresh_nl r x h z, by rw [y.bs.h]; exact o.h0, fun d => by
    rcases y.dkBack d with z | z
    · exact o.nd z
    · exact t z⟩
theorem RpW.mono {w : W} {v : V} (r : Rel K G st σ H) (x : Ex K σ G st H G1 st1 H1) (y : Ex K σ G1 st1 H1 G2 st2 H2) (h : RpW K G1 H1 st1 σ H w v) : RpW K G2 H2 st2 σ H w v := by
  cases w with
  | val d => exact Rp.mono (y.fro x.rel) h
  | live i =>
    obtain ⟨s, d, q | q⟩ := h
    · exact ⟨s, y.sll i d q⟩
    · exact ⟨s, d, .inr (y.slf i d q)⟩
  | fresh d =>
    obtain ⟨a, e, hs, o, b⟩ := h
    obtain ⟨u, ea, _⟩ := b.at
    have t : H1 a ≠ none := by rw [ea]; exact fun z => by cases z
    exact ⟨a, e, hs, fresh_own x y r hs o t, b.mono (y.fro x.rel) ((y.keep a u ea (fresh_nl r x hs) o.nd).trans ea.symm)⟩
/-- from a later start to an earlier one -/
theorem RpW.start {w : W} {v : V} (x : Ex K σ G st H G1 st1 H1) (h : RpW K G2 H2 st2 σ H1 w v) : RpW K G2 H2 st2 σ H w v := by
  cases w with
  | val d => exact h
  | live i => exact h
  | fresh d =>
    obtain ⟨a, e, hs, o, b⟩ := h
    refine ⟨a, e, ?_, o, b⟩
    cases q : H a with
    | none => rfl
    | some u => exact absurd hs (x.tr a (by rw [q]; exact fun z => by cases z))

/-! ### a new object -/
theorem Rel.alloc (r : Rel K G st σ H) {p : Addr} {o : HO} (n : H p = none) : Rel K G st σ (upd H p o) := by
  have ne : ∀ {b : Addr} {u : HO}, H b = some u → b ≠ p := fun e => ne_of_none e n
  have fr : Fro G H G (upd H p o) := ⟨fun _ h => h, fun b xs _ e => by rw [upd_ne (ne e)]; exact e, fun b u _ e => by
      rcases e with e | ⟨q, e⟩
      · exact .inl (by rw [upd_ne (ne e)]; exact e)
      · exact .inr ⟨q, by rw [upd_ne (ne e)]; exact e⟩, fun b xs e => by rw [upd_ne (ne e)]; exact e, fun b q xs e => by rw [upd_ne (ne e)]; exact e, fun _ h => h⟩
  have tr : ∀ b, H b ≠ none → upd H p o b ≠ none := fun b h => by
    by_cases e : b = p
    · subst e; rw [upd_same]; exact fun z => by cases z
    · rw [upd_ne e]; exact h
  refine ⟨⟨r.g.f0, r.g.fn, fun b f => tr b (r.g.ft b f), fun b u h d => ?_, fun b h => tr b (r.g.tr b h), r.g.d0, r.g.dn, r.g.nd⟩, ?_, r.len, fun i d e => ?_, fun i d e => ?_, r.ap⟩
  · rcases r.g.keep b u h d with e | ⟨l, od, e⟩
    · exact .inl (by rw [upd_ne (ne e)]; exact e)
    · exact .inr ⟨l, od, by rw [upd_ne (ne e)]; exact e⟩
  · have h := r.dko
    unfold DkOk at h ⊢
    cases q : G.dk with
    | none =>
      rw [q] at h
      cases q2 : st.dk with
      | none => trivial
      | some k => rw [q2] at h; exact h
    | some u =>
      obtain ⟨p', c'⟩ := u
      rw [q] at h
      cases q2 : st.dk with
      | none => rw [q2] at h; exact h
      | some k =>
        rw [q2] at h
        obtain ⟨h1, h2, h3⟩ := h
        exact ⟨by rw [upd_ne (ne h1)]; exact h1, by rw [upd_ne (ne h2)]; exact h2, h3⟩
  · obtain ⟨v, s, q⟩ := r.fz i d e
    exact ⟨v, s, q.mono fr⟩
  · obtain ⟨b, s, w, q⟩ := r.lv i d e
    obtain ⟨u, eu, _⟩ := q.at
    exact ⟨b, s, w, q.mono fr (upd_ne (ne eu))⟩
theorem Ex.alloc (x : Ex K σ G st H G1 st1 H1) {p : Addr} {o : HO} (n : H1 p = none) : Ex K σ G st H G1 st1 (upd H1 p o) :=
  ⟨x.rel.alloc n, x.bs, x.f, x.fn, fun b u e l d => by
    have h := x.keep b u e l d
    rw [upd_ne (ne_of_none h n)]
    exact h, fun b h => by
    by_cases e : b = p
    · subst e; rw [upd_same]; exact fun z => by cases z
    · rw [upd_ne e]; exact x.tr b h, x.lives, x.slf, x.sll, x.slu, x.dkm, x.dkn⟩
theorem Ex.back (x : Ex K σ G st H G1 st1 H1) {p : Addr} (n : H1 p = none) : H p = none := by
  cases q : H p with
  | none => rfl
  | some o => exact absurd n (x.tr p (by rw [q]; exact fun z => by cases z))
/-- a new object is the def's own -/
theorem Rel.own (r : Rel K G st σ H) {p : Addr} (n : H p = none) : Own G p :=
  ⟨fun f => r.g.ft p f n, by
    cases q : G.H0 p with
    | none => rfl
    | some o => exact absurd n (r.g.tr p (by rw [q]; exact fun z => by cases z)), fun d => by
    obtain ⟨o, e, _⟩ := r.dko.bo d
    rw [n] at e
    cases e⟩
theorem upd_fro {p : Addr} {o : HO} (n : H p = none) : Fro G H G (upd H p o) := by
  have ne : ∀ {b : Addr} {u : HO}, H b = some u → b ≠ p := fun e => ne_of_none e n
  exact ⟨fun _ h => h, fun b xs _ e => by rw [upd_ne (ne e)]; exact e, fun b u _ e => by
      rcases e with e | ⟨q, e⟩
      · exact .inl (by rw [upd_ne (ne e)]; exact e)
      · exact .inr ⟨q, by rw [upd_ne (ne e)]; exact e⟩, fun b xs e => by rw [upd_ne (ne e)]; exact e, fun b q xs e => by rw [upd_ne (ne e)]; exact e, fun _ h => h⟩

/-! ### what is kept is frozen -/
def Gh.frz (G : Gh) (a : Addr) : Gh := { G with F := fun b => G.F b ∨ b = a }
theorem frz_fro : Fro G H (G.frz a) H := ⟨fun _ h => .inl h, fun _ _ _ h => h, fun _ _ _ h => h, fun _ _ h => h, fun _ _ _ h => h, fun _ h => h⟩
theorem isDk_frz {b : Addr} : isDk (G.frz a) b ↔ isDk G b := Iff.rfl
theorem Own.frz {b : Addr} (o : Own G b) (n : b ≠ a) : Own (G.frz a) b := ⟨fun f => f.elim o.nf n, o.h0, o.nd⟩
theorem GOk.frz (g : GOk G H) (o : Own G a) (t : H a ≠ none) : GOk (G.frz a) H :=
  ⟨fun b h => .inl (g.f0 b h), fun b h => by
    rcases h with h | h
    · exact g.fn b h
    · subst h; exact .inr o.h0, fun b h => by
    rcases h with h | h
    · exact g.ft b h
    · subst h; exact t, g.keep, g.tr, g.d0, g.dn, fun b d h => by
    rcases h with h | h
    · exact g.nd b d h
    · subst h; exact o.nd d⟩
/-- a fresh container is kept -/
theorem Rel.frz (r : Rel K G st σ H) (o : Own G a) (t : H a ≠ none) (n : ¬ LiveAt st σ a) : Rel K (G.frz a) st σ H :=
  ⟨r.g.frz o t, r.dko, r.len, fun i d e => by
    obtain ⟨v, s, q⟩ := r.fz i d e
    exact ⟨v, s, q.mono frz_fro⟩, fun i d e => by
    obtain ⟨b, s, w, q⟩ := r.lv i d e
    exact ⟨b, s, w.frz fun z => n (by subst z; exact ⟨i, d, e, s⟩), q.mono frz_fro rfl⟩, r.ap⟩
theorem Ex.frzFresh (r : Rel K G st σ H) (x : Ex K σ G st H G1 st1 H1) (hs : H a = none) (o : Own G1 a) (t : H1 a ≠ none) : Ex K σ G st H (G1.frz a) st1 H1 :=
  ⟨x.rel.frz o t (fresh_nl r x hs), ⟨x.bs.h, x.bs.f, x.bs.d, x.bs.l⟩, fun b h => .inl (x.f b h), fun b h => by
    rcases h with h | h
    · exact x.fn b h
    · subst h; exact .inr (.inl hs), x.keep, x.tr, x.lives, x.slf, x.sll, x.slu, x.dkm, x.dkn⟩
/-- a name's container is kept: the name holds a value from now on -/
def Stt.frz (st : Stt) (i : Nat) (d : D) : Stt := { st with ρ := st.ρ.set i (.fz d) }
theorem getSet {α : Type} {l : List α} {i j : Nat} {x y : α} (h : (l.set i x)[j]? = some y) : (j = i ∧ y = x ∧ i < l.length) ∨ (j ≠ i ∧ l[j]? = some y) := by
  by_cases e : j = i
  · subst e
    by_cases hl : j < l.length
    · rw [List.getElem?_set_self hl] at h
      cases h
      exact .inl ⟨rfl, rfl, hl⟩
    · rw [List.getElem?_eq_none (by rw [List.length_set]; omega)] at h
      cases h
  · rw [List.getElem?_set_ne (Ne.symm e)] at h
    exact .inr ⟨e, h⟩
theorem setSelf {α : Type} {l : List α} {i : Nat} {x y : α} (h : l[i]? = some y) : (l.set i x)[i]? = some x := by
  obtain ⟨hl, _⟩ := List.getElem?_eq_some_iff.mp h
  exact List.getElem?_set_self hl
theorem Rel.frzLive {i : Nat} {d : D} (r : Rel K G st σ H) (e : st.ρ[i]? = some (.lv d)) (s : σ[i]? = some (some (.ref a))) (o : Own G a) (b : Bo K G H a d) : Rel K (G.frz a) (st.frz i d) σ H := by
  obtain ⟨u, ea, _⟩ := b.at
  refine ⟨r.g.frz o (by rw [ea]; exact fun z => by cases z), r.dko, ?_, fun j d' h => ?_, fun j d' h => ?_, fun j k d1 d2 c h1 h2 => ?_⟩
  · show (st.ρ.set i _).length = _
    rw [List.length_set]
    exact r.len
  · rcases getSet h with ⟨rfl, z, _⟩ | ⟨n, h⟩
    · cases z
      exact ⟨_, s, Bo.rp (.inr rfl) (b.mono frz_fro rfl)⟩
    · obtain ⟨v, s', q⟩ := r.fz j d' h
      exact ⟨v, s', q.mono frz_fro⟩
  · rcases getSet h with ⟨rfl, z, _⟩ | ⟨n, h⟩
    · cases z
    · obtain ⟨c, s', w, q⟩ := r.lv j d' h
      refine ⟨c, s', w.frz fun z => n ?_, q.mono frz_fro rfl⟩
      subst z
      exact r.ap j i _ _ _ h e s' s
  · rcases getSet h1 with ⟨rfl, z, _⟩ | ⟨n1, h1⟩
    · cases z
    · rcases getSet h2 with ⟨rfl, z, _⟩ | ⟨n2, h2⟩
      · cases z
      · exact r.ap j k d1 d2 c h1 h2
theorem Ex.frzLive {i : Nat} {d : D} (x : Ex K σ G st H G1 st1 H1) (e : st1.ρ[i]? = some (.lv d)) (s : σ[i]? = some (some (.ref a))) (o : Own G1 a) (b : Bo K G1 H1 a d) : Ex K σ G st H (G1.frz a) (st1.frz i d) H1 := by
  refine ⟨x.rel.frzLive e s o b, ⟨x.bs.h, x.bs.f, x.bs.d, x.bs.l⟩, fun b h => .inl (x.f b h), fun b h => ?_, x.keep, x.tr, fun j d' h => ?_, fun j d' h => ?_, fun j d' h => ?_, fun j h => ?_, x.dkm, x.dkn⟩
  · rcases h with h | h
    · exact x.fn b h
    · subst h
      exact .inr (.inr (x.liveBack ⟨i, d, e, s⟩))
  · rcases getSet h with ⟨rfl, z, _⟩ | ⟨n, h⟩
    · cases z
    · exact x.lives j d' h
  · have h1 := x.slf j d' h
    show (st1.ρ.set i (.fz d))[j]? = some (.fz d')
    rw [List.getElem?_set_ne]
    · exact h1
    · rintro rfl
      rw [e] at h1
      cases h1
  · obtain ⟨d1, h1⟩ := x.sll j d' h
    show ∃ d' : D, (st1.ρ.set i (.fz d))[j]? = some (.lv d') ∨ (st1.ρ.set i (.fz d))[j]? = some (.fz d')
    by_cases z : j = i
    · subst z
      exact ⟨d, .inr (setSelf e)⟩
    · exact ⟨d1, by rw [List.getElem?_set_ne (Ne.symm z)]; exact h1⟩
  · have h1 := x.slu j h
    show (st1.ρ.set i (.fz d))[j]? = some .un
    rw [List.getElem?_set_ne]
    · exact h1
    · rintro rfl
      rw [e] at h1
      cases h1
/-- what a value is when it is kept -/
def keepW : W → Ev D
  | .val d => fun st => .ok d st
  | .fresh d => fun st => .ok d st
  | .live i => fun st => match st.ρ[i]? with
    | some (.lv d) => .ok d (st.frz i d)
    | some (.fz d) => .ok d st
    | _ => .stuck
theorem keepW_ok {w : W} {v : V} {d : D} (r : Rel K G st σ H) (x : Ex K σ G st H G1 st1 H1) (h : RpW K G1 H1 st1 σ H w v) (e : keepW w st1 = .ok d st2) :
    ∃ G2, Ex K σ G st H G2 st2 H1 ∧ Rp K G2 H1 v d ∧ Fro G1 H1 G2 H1 := by
  cases w with
  | val d' =>
    injection e with e1 e2
    subst e1 e2
    exact ⟨G1, x, h, .refl⟩
  | fresh d' =>
    injection e with e1 e2
    subst e1 e2
    obtain ⟨a, rfl, hs, o, b⟩ := h
    obtain ⟨u, ea, _⟩ := b.at
    exact ⟨G1.frz a, x.frzFresh r hs o (by rw [ea]; exact fun z => by cases z), Bo.rp (.inr rfl) (b.mono frz_fro rfl), frz_fro⟩
  | live i =>
    obtain ⟨s, d', q | q⟩ := h
    · unfold keepW at e
      simp only [q] at e
      injection e with e1 e2
      subst e1 e2
      obtain ⟨a, s', o, b⟩ := x.rel.lv i d' q
      rw [s] at s'
      cases s'
      exact ⟨G1.frz a, x.frzLive q s o b, Bo.rp (.inr rfl) (b.mono frz_fro rfl), frz_fro⟩
    · unfold keepW at e
      simp only [q] at e
      injection e with e1 e2
      subst e1 e2
      obtain ⟨v', s', b⟩ := x.rel.fz i d' q
      rw [s] at s'
      cases s'
      exact ⟨G1, x, b, .refl⟩
end
end Dl

namespace Dl
open PySem PySem.Spec PyProof.Rows L2

/-! ### answers -/
/-- an exception of the class at cl, its dict at dx -/
structure RpX (K : PySem.W.Frag) (mg : Str → Option Value) (G : Gh) (H : Hp) (x : Exn) (cl : Value) (dx : Option Addr) : Prop where
  cls : ∃ C, cl = .ref C ∧ mg x.cls = some (.ref C)
  fs : match dx with
    | none => x.fs = []
    | some d => ∃ gs : List (Str × V), H d = some (.xd gs) ∧ gs.map Prod.fst = x.fs.map Prod.fst ∧ RpL K G H (gs.map Prod.snd) (x.fs.map Prod.snd)
def XOk (K : PySem.W.Frag) (mg : Str → Option Value) (σ : Sg) (G : Gh) (Wx : WX) (x : Exn) (st' : Stt) : Prop :=
  ∀ G' H' cl dx, Rel K G' st' σ H' → Bs G G' → RpX K mg G' H' x cl dx → Wx cl dx σ H'
def ResP {α : Type} (K : PySem.W.Frag) (mg : Str → Option Value) (σ : Sg) (G : Gh) (Wx : WX) (r : R α) (P : α → Stt → Prop) : Prop :=
  match r with
  | .stuck => False
  | .ok a st' => P a st'
  | .exc x st' => XOk K mg σ G Wx x st'
def bindE {α β : Type} (m : Ev α) (k : α → Ev β) : Ev β := fun st => match m st with
  | .stuck => .stuck
  | .ok a st1 => k a st1
  | .exc x st1 => .exc x st1
def okE {α : Type} (a : α) : Ev α := fun st => .ok a st

section
variable {α β : Type} {K : PySem.W.Frag} {mg : Str → Option Value} {σ : Sg} {G G1 G2 : Gh} {Wx : WX} {st st1 st2 : Stt} {H H1 H2 : Hp}
theorem ResP.imp {r : R α} {P P' : α → Stt → Prop} (h : ResP K mg σ G Wx r P) (f : ∀ a s, r = .ok a s → P a s → P' a s) : ResP K mg σ G Wx r P' := by
  cases r with
  | stuck => exact h
  | ok a s => exact f a s rfl h
  | exc x s => exact h
theorem ResP.bs {r : R α} {P : α → Stt → Prop} (b : Bs G G1) (h : ResP K mg σ G Wx r P) : ResP K mg σ G1 Wx r P := by
  cases r with
  | stuck => exact h
  | ok a s => exact h
  | exc x s => exact fun G' H' cl dx r b' q => h G' H' cl dx r (b.trans b') q
theorem ResP.bind {m : Ev α} {k : α → Ev β} {P : β → Stt → Prop} (h : ResP K mg σ G Wx (bindE m k st) P) : ResP K mg σ G Wx (m st) fun a st1 => ResP K mg σ G Wx (k a st1) P := by
  unfold bindE at h
  cases q : m st with
  | stuck => rw [q] at h; exact h
  | ok a s => rw [q] at h; exact h
  | exc x s => rw [q] at h; exact h
end

/-- an expression's mirror, read -/
def upE (K : PySem.W.Frag) (mg : Str → Option Value) (Wx : WX) (m : Ev W) : TE := fun σ H Q => ∃ G st, Rel K G st σ H ∧
  ResP K mg σ G Wx (m st) fun w st' => ∀ G' H' v, Ex K σ G st H G' st' H' → RpW K G' H' st' σ H w v → Q v H'
def upT (K : PySem.W.Frag) (mg : Str → Option Value) (Wx : WX) (m : Ev Bool) : TT := fun σ H Q => ∃ G st, Rel K G st σ H ∧
  ResP K mg σ G Wx (m st) fun b st' => ∀ G' H', Ex K σ G st H G' st' H' → Q b H'
/-- values that are kept -/
def upA (K : PySem.W.Frag) (mg : Str → Option Value) (Wx : WX) (m : Ev (List D)) : TA := fun σ H Q => ∃ G st, Rel K G st σ H ∧
  ResP K mg σ G Wx (m st) fun ds st' => ∀ G' H' vs, Ex K σ G st H G' st' H' → RpL K G' H' vs ds → Q vs H'
abbrev DE (X : Cx) (Wx : WX) (e : Expr) (m : Ev W) : Prop := PE X e (upE X.K X.mg Wx m)
abbrev DT (X : Cx) (Wx : WX) (e : Expr) (m : Ev Bool) : Prop := PT X e (upT X.K X.mg Wx m)
abbrev DA (X : Cx) (Wx : WX) (es : List Expr) (m : Ev (List D)) : Prop := PA X es (upA X.K X.mg Wx m)

theorem useE {X : Cx} {e : Expr} {t t' : TE} (h : PE X e t) (i : ∀ σ H Q, t' σ H Q → t σ H Q) : PE X e t' := ⟨fun pins s σ H Q I q => h.run pins s σ H Q I (i σ H Q q)⟩
theorem useT {X : Cx} {e : Expr} {t t' : TT} (h : PT X e t) (i : ∀ σ H Q, t' σ H Q → t σ H Q) : PT X e t' := ⟨fun pins s σ H Q I q => h.run pins s σ H Q I (i σ H Q q)⟩
theorem useW {X : Cx} {e : Expr} {t t' : TT} (h : PW X e t) (i : ∀ σ H Q, t' σ H Q → t σ H Q) : PW X e t' := ⟨fun wh pins s σ H Q I q => h.run wh pins s σ H Q I (i σ H Q q)⟩
theorem useA {X : Cx} {e : List Expr} {t t' : TA} (h : PA X e t) (i : ∀ σ H Q, t' σ H Q → t σ H Q) : PA X e t' := ⟨fun pos pins s σ H Q I q => h.run pos pins s σ H Q I (i σ H Q q)⟩
theorem useS {X : Cx} {e : Stmt} {t t' : TS} (h : PS X e t) (i : ∀ D σ H, t' D σ H → t D σ H) : PS X e t' := ⟨fun pins s σ H D I q => h.run pins s σ H D I (i D σ H q)⟩
theorem useSs {X : Cx} {e : List Stmt} {t t' : TS} (h : PSs X e t) (i : ∀ D σ H, t' D σ H → t D σ H) : PSs X e t' := ⟨fun pins s σ H D I q => h.run pins s σ H D I (i D σ H q)⟩

section
variable {α : Type} {K : PySem.W.Frag} {mg : Str → Option Value} {σ : Sg} {G G1 G2 : Gh} {Wx : WX} {st st1 st2 : Stt} {H H1 H2 : Hp}
/-- an operand, evaluated at a later state of the same expression -/
theorem step {m : Ev W} {k : W → Ev α} {P : α → Stt → Prop} {T : VK} (r : Rel K G st σ H) (x : Ex K σ G st H G1 st1 H1) (h : ResP K mg σ G Wx (bindE m k st1) P)
    (t : ∀ w st2 G2 H2 v, Ex K σ G st H G2 st2 H2 → Ex K σ G1 st1 H1 G2 st2 H2 → RpW K G2 H2 st2 σ H w v → ResP K mg σ G Wx (k w st2) P → T v H2) : upE K mg Wx m σ H1 T :=
  ⟨G1, st1, x.rel, ((ResP.bind h).bs x.bs).imp fun w st2 _ hp G2 H2 v y rw' => t w st2 G2 H2 v (x.trans r y) y (rw'.start x) hp⟩
theorem stepT {m : Ev Bool} {k : Bool → Ev α} {P : α → Stt → Prop} {T : Bool → Hp → Prop} (r : Rel K G st σ H) (x : Ex K σ G st H G1 st1 H1) (h : ResP K mg σ G Wx (bindE m k st1) P)
    (t : ∀ b st2 G2 H2, Ex K σ G st H G2 st2 H2 → Ex K σ G1 st1 H1 G2 st2 H2 → ResP K mg σ G Wx (k b st2) P → T b H2) : upT K mg Wx m σ H1 T :=
  ⟨G1, st1, x.rel, ((ResP.bind h).bs x.bs).imp fun w st2 _ hp G2 H2 y => t w st2 G2 H2 (x.trans r y) y hp⟩
theorem stepA {m : Ev (List D)} {k : List D → Ev α} {P : α → Stt → Prop} {T : List V → Hp → Prop} (r : Rel K G st σ H) (x : Ex K σ G st H G1 st1 H1) (h : ResP K mg σ G Wx (bindE m k st1) P)
    (t : ∀ ds st2 G2 H2 vs, Ex K σ G st H G2 st2 H2 → Ex K σ G1 st1 H1 G2 st2 H2 → RpL K G2 H2 vs ds → ResP K mg σ G Wx (k ds st2) P → T vs H2) : upA K mg Wx m σ H1 T :=
  ⟨G1, st1, x.rel, ((ResP.bind h).bs x.bs).imp fun w st2 _ hp G2 H2 vs y rw' => t w st2 G2 H2 vs (x.trans r y) y rw' hp⟩
/-- the same expression goes on -/
theorem goE {m : Ev W} {Q : VK} (r : Rel K G st σ H) (x : Ex K σ G st H G1 st1 H1) (h : ResP K mg σ G Wx (m st1) fun w st' => ∀ G' H' v, Ex K σ G st H G' st' H' → RpW K G' H' st' σ H w v → Q v H') : upE K mg Wx m σ H1 Q :=
  ⟨G1, st1, x.rel, (h.bs x.bs).imp fun w st2 _ hp G2 H2 v y rw' => hp G2 H2 v (x.trans r y) (rw'.start x)⟩
theorem goT {m : Ev Bool} {Q : Bool → Hp → Prop} (r : Rel K G st σ H) (x : Ex K σ G st H G1 st1 H1) (h : ResP K mg σ G Wx (m st1) fun w st' => ∀ G' H', Ex K σ G st H G' st' H' → Q w H') : upT K mg Wx m σ H1 Q :=
  ⟨G1, st1, x.rel, (h.bs x.bs).imp fun w st2 _ hp G2 H2 y => hp G2 H2 (x.trans r y)⟩
end

/-! ### names, constants -/
def eVar (i : Nat) : Ev W := fun st => match st.ρ[i]? with
  | some (.fz d) => .ok (.val d) st
  | some (.lv _) => .ok (.live i) st
  | _ => .stuck
def eC (d : D) : Ev W := fun st => .ok (.val d) st
section
variable {X : Cx} {Wx : WX}
theorem de_var {i : Nat} {e : Expr} (h : PE X e (tVar i)) : DE X Wx e (eVar i) := useE h fun σ H Q ⟨G, st, r, q⟩ => by
  unfold eVar at q
  split at q
  · rename_i d e
    obtain ⟨v, s, rp⟩ := r.fz i d e
    exact ⟨v, s, q G H v (.refl r) rp⟩
  · rename_i d e
    obtain ⟨a, s, o, b⟩ := r.lv i d e
    exact ⟨_, s, q G H _ (.refl r) ⟨s, d, .inl e⟩⟩
  · exact q.elim
theorem de_c {e : Expr} {v : V} {d : D} (h : PE X e (tC v)) (rp : ∀ G H, Rp X.K G H v d) : DE X Wx e (eC d) := useE h fun σ H Q ⟨G, st, r, q⟩ => q G H v (.refl r) (rp G H)
theorem de_int {i j pos} : DE X Wx (.Constant (.int i) j pos) (eC (.int i)) := de_c pe_int fun _ _ => .int i
theorem de_bl {b j pos} : DE X Wx (.Constant (.bool b) j pos) (eC (.bl b)) := de_c pe_bl fun _ _ => .bl b
theorem de_non {j pos} : DE X Wx (.Constant .none j pos) (eC .non) := de_c pe_non fun _ _ => .non
theorem de_str {x j pos} : DE X Wx (.Constant (.str x) j pos) (eC (.str x)) := de_c pe_str fun _ _ => .str x
end

/-! ### operators on values -/
/-- from the contents to a result, at the state behind the operands -/
def app2 (f : D → D → Option W) (w1 w2 : W) : Ev W := fun st => match content st w1, content st w2 with
  | some d1, some d2 => match f d1 d2 with
    | some w => .ok w st
    | none => .stuck
  | _, _ => .stuck
def app1 (f : D → Option W) (w1 : W) : Ev W := fun st => match content st w1 with
  | some d1 => match f d1 with
    | some w => .ok w st
    | none => .stuck
  | none => .stuck
def op2 (f : D → D → Option W) (ma mb : Ev W) : Ev W := bindE ma fun w1 => bindE mb fun w2 => app2 f w1 w2
def op1 (f : D → Option W) (ma : Ev W) : Ev W := bindE ma fun w1 => app1 f w1
/-- what a result may be: a value that stands, or a new container -/
def Ans (K : PySem.W.Frag) (σ : Sg) (Gs : Gh) (ss : Stt) (Hs : Hp) (G : Gh) (st : Stt) (H : Hp) (w : W) (Q : VK) : Prop := ∀ G' H' v, Ex K σ Gs ss Hs G' st H' → Ex K σ G st H G' st H' → RpW K G' H' st σ Hs w v → Q v H'
def Pu2 (K : PySem.W.Frag) (r : R2) (f : D → D → Option W) : Prop :=
  ∀ (σ : Sg) (Gs : Gh) (ss : Stt) (Hs : Hp) (G : Gh) (st : Stt) (H : Hp) (x y : V) (a b : D) (w : W) (Q : VK), Rel K Gs ss σ Hs → Ex K σ Gs ss Hs G st H → Hd K G H x a → Hd K G H y b → f a b = some w → Ans K σ Gs ss Hs G st H w Q → r x y H Q
def Pu1 (K : PySem.W.Frag) (r : V → Hp → VK → Prop) (f : D → Option W) : Prop :=
  ∀ (σ : Sg) (Gs : Gh) (ss : Stt) (Hs : Hp) (G : Gh) (st : Stt) (H : Hp) (x : V) (a : D) (w : W) (Q : VK), Rel K Gs ss σ Hs → Ex K σ Gs ss Hs G st H → Hd K G H x a → f a = some w → Ans K σ Gs ss Hs G st H w Q → r x H Q
section
variable {K : PySem.W.Frag} {mg : Str → Option Value} {σ : Sg} {G G1 G2 : Gh} {Wx : WX} {st st1 st2 : Stt} {H H1 H2 : Hp}
theorem app1_ok {w1 : W} {f : D → Option W} {P : W → Stt → Prop} (h : ResP K mg σ G Wx (app1 f w1 st) P) : ∃ d w, content st w1 = some d ∧ f d = some w ∧ P w st := by
  unfold app1 at h
  split at h
  · rename_i d e
    split at h
    · rename_i w e2
      exact ⟨d, w, e, e2, h⟩
    · exact h.elim
  · exact h.elim
theorem app2_ok {w1 w2 : W} {f : D → D → Option W} {P : W → Stt → Prop} (h : ResP K mg σ G Wx (app2 f w1 w2 st) P) : ∃ d1 d2 w, content st w1 = some d1 ∧ content st w2 = some d2 ∧ f d1 d2 = some w ∧ P w st := by
  unfold app2 at h
  split at h
  · rename_i d1 d2 e1 e2
    split at h
    · rename_i w e3
      exact ⟨d1, d2, w, e1, e2, e3, h⟩
    · exact h.elim
  · exact h.elim
/-- two operands and a rule on values -/
theorem up2 {r : R2} {f : D → D → Option W} (hf : Pu2 K r f) {ma mb : Ev W} {Q : VK} (h : upE K mg Wx (op2 f ma mb) σ H Q) : tOp r (upE K mg Wx ma) (upE K mg Wx mb) σ H Q := by
  obtain ⟨G, st, rel, h⟩ := h
  refine step rel (.refl rel) h fun w1 st1 G1 H1 v1 x1 _ r1 h1 => ?_
  refine step rel x1 h1 fun w2 st2 G2 H2 v2 x2 x12 r2 h2 => ?_
  obtain ⟨d1, d2, w, e1, e2, e3, q⟩ := app2_ok h2
  exact hf σ G st H G2 st2 H2 v1 v2 d1 d2 w Q rel x2 ((r1.mono rel x1 x12).hd x2.rel e1) (r2.hd x2.rel e2) e3 fun G' H' v a _ b => q G' H' v a b
theorem up1 {r : V → Hp → VK → Prop} {f : D → Option W} (hf : Pu1 K r f) {ma : Ev W} {Q : VK} (h : upE K mg Wx (op1 f ma) σ H Q) : upE K mg Wx ma σ H fun x H1 => r x H1 Q := by
  obtain ⟨G, st, rel, h⟩ := h
  refine step rel (.refl rel) h fun w1 st1 G1 H1 v1 x1 _ r1 h1 => ?_
  obtain ⟨d1, w, e1, e3, q⟩ := app1_ok h1
  exact hf σ G st H G1 st1 H1 v1 d1 w Q rel x1 (r1.hd x1.rel e1) e3 fun G' H' v a _ b => q G' H' v a b
end
section
variable {X : Cx} {Wx : WX} {a b : Expr} {ma mb : Ev W} {pos : Pos}
theorem de_bin {op : Operator} {r : R2} {f : D → D → Option W} (ho : OpR X (binaryOp op) r) (hf : Pu2 X.K r f) (ha : DE X Wx a ma) (hb : DE X Wx b mb) : DE X Wx (.BinOp a op b pos) (op2 f ma mb) :=
  useE (pe_op ho ha hb) fun _ _ _ h => up2 hf h
theorem de_un {op : UnaryOp} {r : V → Hp → VK → Prop} {f : D → Option W} (ho : UnR X (unaryOp op) r) (hf : Pu1 X.K r f) (ha : DE X Wx a ma) : DE X Wx (.UnaryOp op a pos) (op1 f ma) :=
  useE (pe_un ho ha) fun _ _ _ h => up1 hf h
theorem de_cmp {op : CmpOp} {r : R2} {f : D → D → Option W} (ho : OpR X (compareOp op) r) (hf : Pu2 X.K r f) (hm : behindInMarks op b = false) (ha : DE X Wx a ma) (hb : DE X Wx b mb) : DE X Wx (.Compare a [op] [b] pos) (op2 f ma mb) :=
  useE (pe_cmpR ho ha hb hm) fun _ _ _ h => up2 hf h
theorem de_sub {r : R2} {f : D → D → Option W} (hr : IxR X r) (hf : Pu2 X.K r f) (hs : PlainIx b) (ha : DE X Wx a ma) (hb : DE X Wx b mb) : DE X Wx (.Subscript a b pos) (op2 f ma mb) :=
  useE (pe_ix hr ha hb hs) fun _ _ _ h => up2 hf h
end

/-! ### answers in short -/
section
variable {K : PySem.W.Frag} {σ : Sg} {Gs G : Gh} {ss st : Stt} {Hs H : Hp} {Q : VK}
theorem Ans.val {d : D} {v : V} (x : Ex K σ Gs ss Hs G st H) (q : Ans K σ Gs ss Hs G st H (.val d) Q) (r : Rp K G H v d) : Q v H := q G H v x (.refl x.rel) r
theorem Ans.tup {ds : List D} {vs : List V} {p : Addr} (x : Ex K σ Gs ss Hs G st H) (q : Ans K σ Gs ss Hs G st H (.val (.tup ds)) Q) (n : H p = none) (r : RpL K G H vs ds) : Q (.ref p) (upd H p (.tup vs)) :=
  q G _ _ (x.alloc n) ((Ex.refl x.rel).alloc n) (.tup upd_same (r.mono (upd_fro n)))
theorem Ans.lst {ds : List D} {vs : List V} {p : Addr} (x : Ex K σ Gs ss Hs G st H) (q : Ans K σ Gs ss Hs G st H (.fresh (.lst ds)) Q) (n : H p = none) (r : RpL K G H vs ds) : Q (.ref p) (upd H p (.lst vs)) :=
  q G _ _ (x.alloc n) ((Ex.refl x.rel).alloc n) ⟨p, rfl, x.back n, x.rel.own n, .lst upd_same (r.mono (upd_fro n))⟩
theorem Hd.tup {v : V} {ds : List D} (h : Hd K G H v (.tup ds)) : ∃ a vs, v = .ref a ∧ H a = some (.tup vs) ∧ RpL K G H vs ds := by
  rcases h with h | ⟨a, _, h⟩
  · cases h with
    | tup h r => exact ⟨_, _, rfl, h, r⟩
  · cases h
theorem Hd.lst {v : V} {ds : List D} (h : Hd K G H v (.lst ds)) : ∃ a vs, v = .ref a ∧ H a = some (.lst vs) ∧ RpL K G H vs ds := by
  rcases h with h | ⟨a, e, h⟩
  · cases h with
    | lst _ h r => exact ⟨_, _, rfl, h, r⟩
  · subst e
    cases h with
    | lst h r => exact ⟨_, _, rfl, h, r⟩
theorem Hd.int {v : V} {i : Int} (h : Hd K G H v (.int i)) : v = .int i := by
  rcases h with h | ⟨a, _, h⟩
  · cases h; rfl
  · cases h
theorem Hd.bl {v : V} {i : Bool} (h : Hd K G H v (.bl i)) : v = .bl i := by
  rcases h with h | ⟨a, _, h⟩
  · cases h; rfl
  · cases h
theorem Hd.str {v : V} {i : Str} (h : Hd K G H v (.str i)) : v = .str i := by
  rcases h with h | ⟨a, _, h⟩
  · cases h; rfl
  · cases h
theorem Hd.non {v : V} (h : Hd K G H v .non) : v = .non := by
  rcases h with h | ⟨a, _, h⟩
  · cases h; rfl
  · cases h
end
end Dl

namespace Dl
open PySem PySem.Spec PyProof.Rows L2

def big : Nat := 16777216
theorem big_eq : sizeLine = big := rfl

/-! ### arithmetic -/
def addD : D → D → Option W
  | .int i, .int j => some (.val (.int (i + j)))
  | .tup a, .tup b => if a.length + b.length ≤ big then some (.val (.tup (a ++ b))) else none
  | .lst a, .lst b => if a.length + b.length ≤ big then some (.fresh (.lst (a ++ b))) else none
  | .str a, .str b => if a.length + b.length ≤ big then some (.val (.str (a ++ b))) else none
  | _, _ => none
def subD : D → D → Option W
  | .int i, .int j => some (.val (.int (i - j)))
  | _, _ => none
/-- the size of a product -/
def mulOk (i j : Int) : Bool := decide (i.natAbs.log2 + j.natAbs.log2 < 1000000)
def mulD : D → D → Option W
  | .int i, .int j => if mulOk i j = true then some (.val (.int (i * j))) else none
  | .lst a, .int k => if -(2 ^ 63) ≤ k ∧ k < 2 ^ 63 ∧ a.length * k.toNat ≤ big then some (.fresh (.lst (List.replicate k.toNat a).flatten)) else none
  | _, _ => none
def divOk (j : Int) : Bool := decide (0 < j ∧ j.natAbs.log2 < 9000)
def fdivD : D → D → Option W
  | .int i, .int j => if divOk j = true then some (.val (.int (i / j))) else none
  | _, _ => none
def modD : D → D → Option W
  | .int i, .int j => if 0 < j then some (.val (.int (i % j))) else none
  | _, _ => none
def powD : D → D → Option W
  | .int i, .int j => if 0 ≤ j ∧ j ≤ 1000000 ∧ i.natAbs < 2 ^ 64 then some (.val (.int (i ^ j.toNat))) else none
  | _, _ => none
def andD : D → D → Option W
  | .int i, .int j => some (.val (.int (Builtin.bitAnd i j)))
  | _, _ => none
def shrD : D → D → Option W
  | .int i, .int j => if 0 ≤ j then some (.val (.int (i / 2 ^ j.toNat))) else none
  | _, _ => none
def negD : D → Option W
  | .int i => some (.val (.int (-i)))
  | _ => none
section
variable {K : PySem.W.Frag}
theorem RpL.nil_iff {G : Gh} {H : Hp} {vs : List V} {ds : List D} (r : RpL K G H vs ds) : vs = [] ↔ ds = [] := by
  cases r <;> simp
theorem pu_int {g : Int → Int → Int} {f : D → D → Option W} (hf : ∀ a b w, f a b = some w → ∃ i j, a = .int i ∧ b = .int j ∧ w = .val (.int (g i j))) {C : Int → Int → Prop}
    (hc : ∀ i j w, f (.int i) (.int j) = some w → C i j) : Pu2 K (rI C fun i j => .int (g i j)) f := fun σ Gs ss Hs G st H x y a b w Q r e h1 h2 hw q => by
  obtain ⟨i, j, rfl, rfl, rfl⟩ := hf a b w hw
  exact ⟨i, j, h1.int, h2.int, hc i j _ hw, q.val e (.int _)⟩
theorem pu_int0 {g : Int → Int → Int} {f : D → D → Option W} (hf : ∀ a b w, f a b = some w → ∃ i j, a = .int i ∧ b = .int j ∧ w = .val (.int (g i j))) : Pu2 K (rI0 fun i j => .int (g i j)) f := fun σ Gs ss Hs G st H x y a b w Q r e h1 h2 hw q => by
  obtain ⟨i, j, rfl, rfl, rfl⟩ := hf a b w hw
  exact ⟨i, j, h1.int, h2.int, q.val e (.int _)⟩
theorem pu_sub : Pu2 K (rI0 fun i j => .int (i - j)) subD := pu_int0 fun a b w h => by
  unfold subD at h
  split at h
  · cases h; exact ⟨_, _, rfl, rfl, rfl⟩
  · cases h
theorem pu_and : Pu2 K (rI0 fun i j => .int (Builtin.bitAnd i j)) andD := pu_int0 fun a b w h => by
  unfold andD at h
  split at h
  · cases h; exact ⟨_, _, rfl, rfl, rfl⟩
  · cases h
theorem pu_fdiv : Pu2 K (rI CDivW fun i j => .int (i / j)) fdivD := pu_int (fun a b w h => by
  unfold fdivD at h
  split at h
  · split at h
    · cases h; exact ⟨_, _, rfl, rfl, rfl⟩
    · cases h
  · cases h) fun i j w h => by
  simp only [fdivD, divOk, decide_eq_true_eq] at h
  split at h
  · assumption
  · cases h
theorem pu_mod : Pu2 K (rI (fun _ j => 0 < j) fun i j => .int (i % j)) modD := pu_int (fun a b w h => by
  unfold modD at h
  split at h
  · split at h
    · cases h; exact ⟨_, _, rfl, rfl, rfl⟩
    · cases h
  · cases h) fun i j w h => by
  simp only [modD] at h
  split at h
  · assumption
  · cases h
theorem pu_pow : Pu2 K (rI CPow fun i j => .int (i ^ j.toNat)) powD := pu_int (fun a b w h => by
  unfold powD at h
  split at h
  · split at h
    · cases h; exact ⟨_, _, rfl, rfl, rfl⟩
    · cases h
  · cases h) fun i j w h => by
  simp only [powD] at h
  split at h
  · assumption
  · cases h
theorem pu_shr : Pu2 K (rI (fun _ j => 0 ≤ j) fun i j => .int (i / 2 ^ j.toNat)) shrD := pu_int (fun a b w h => by
  unfold shrD at h
  split at h
  · split at h
    · cases h; exact ⟨_, _, rfl, rfl, rfl⟩
    · cases h
  · cases h) fun i j w h => by
  simp only [shrD] at h
  split at h
  · assumption
  · cases h
theorem pu_neg : Pu1 K (rU fun i => .int (-i)) negD := fun σ Gs ss Hs G st H x a w Q r e h1 hw q => by
  unfold negD at hw
  split at hw
  · cases hw
    exact ⟨_, h1.int, q.val e (.int _)⟩
  · cases hw
def rMul : R2 := fun x y H Q => rI CMulW (fun i j => .int (i * j)) x y H Q ∨ rRep x y H Q
theorem pu_mul : Pu2 K rMul mulD := fun σ Gs ss Hs G st H x y a b w Q r e h1 h2 hw q => by
  unfold mulD at hw
  split at hw
  · split at hw
    · rename_i hc
      cases hw
      simp only [mulOk, decide_eq_true_eq] at hc
      exact .inl ⟨_, _, h1.int, h2.int, hc, q.val e (.int _)⟩
    · cases hw
  · split at hw
    · rename_i a k hc
      cases hw
      obtain ⟨p, vs, rfl, hp, rl⟩ := h1.lst
      obtain ⟨c1, c2, c3⟩ := hc
      have hl := rl.length
      refine .inr ⟨p, k, vs, rfl, h2.int, hp, c1, c2, by rw [hl]; exact c3, fun z n => q.lst e n ?_⟩
      generalize k.toNat = m
      induction m with
      | zero => exact .nil
      | succ m ih => exact rl.append ih
    · cases hw
  · cases hw
def rAdd4 (K : PySem.W.Frag) : R2 := fun x y H Q => (∃ i j, x = .int i ∧ y = .int j ∧ Q (.int (i + j)) H) ∨ rCatA K x y H Q ∨ rCat x y H Q ∨ (∃ i j, x = .str i ∧ y = .str j ∧ i.length + j.length ≤ sizeLine ∧ Q (.str (i ++ j)) H)
theorem pu_add : Pu2 K (rAdd4 K) addD := fun σ Gs ss Hs G st H x y a b w Q r e h1 h2 hw q => by
  unfold addD at hw
  split at hw
  · cases hw
    exact .inl ⟨_, _, h1.int, h2.int, q.val e (.int _)⟩
  · split at hw
    · rename_i hc
      cases hw
      obtain ⟨p, vs, rfl, hp, rl⟩ := h1.tup
      obtain ⟨p2, vs2, rfl, hp2, rl2⟩ := h2.tup
      refine .inr (.inl ⟨p, p2, vs, vs2, rfl, rfl, .of hp, .of hp2, by rw [rl.length, rl2.length]; exact hc, fun z => ?_, fun z1 z2 => ?_, fun _ _ z n => q.tup e n (rl.append rl2)⟩)
      · have z' := rl.nil_iff.mp z
        subst z'
        exact q.val e (.tup hp2 rl2)
      · have z' := rl2.nil_iff.mp z2
        subst z'
        rw [List.append_nil] at q
        exact q.val e (.tup hp rl)
    · cases hw
  · split at hw
    · rename_i hc
      cases hw
      obtain ⟨p, vs, rfl, hp, rl⟩ := h1.lst
      obtain ⟨p2, vs2, rfl, hp2, rl2⟩ := h2.lst
      exact .inr (.inr (.inl ⟨p, p2, vs, vs2, rfl, rfl, hp, hp2, by rw [rl.length, rl2.length]; exact hc, fun z n => q.lst e n (rl.append rl2)⟩))
    · cases hw
  · split at hw
    · rename_i hc
      cases hw
      exact .inr (.inr (.inr ⟨_, _, h1.str, h2.str, hc, q.val e (.str _)⟩))
    · cases hw
  · cases hw
end
section
variable {X : Cx} {Wx : WX} {a b : Expr} {ma mb : Ev W} {pos : Pos}
theorem de_add (ha : DE X Wx a ma) (hb : DE X Wx b mb) : DE X Wx (.BinOp a .Add b pos) (op2 addD ma mb) := de_bin (op_add.or (op_catA.or (op_cat.or op_add_str))) pu_add ha hb
theorem de_minus (ha : DE X Wx a ma) (hb : DE X Wx b mb) : DE X Wx (.BinOp a .Sub b pos) (op2 subD ma mb) := de_bin op_sub pu_sub ha hb
theorem de_mul (ha : DE X Wx a ma) (hb : DE X Wx b mb) : DE X Wx (.BinOp a .Mult b pos) (op2 mulD ma mb) := de_bin (op_mulW.or op_rep) pu_mul ha hb
theorem de_fdiv (ha : DE X Wx a ma) (hb : DE X Wx b mb) : DE X Wx (.BinOp a .FloorDiv b pos) (op2 fdivD ma mb) := de_bin op_fdivW pu_fdiv ha hb
theorem de_mod (ha : DE X Wx a ma) (hb : DE X Wx b mb) : DE X Wx (.BinOp a .Mod b pos) (op2 modD ma mb) := de_bin op_mod pu_mod ha hb
theorem de_pow (ha : DE X Wx a ma) (hb : DE X Wx b mb) : DE X Wx (.BinOp a .Pow b pos) (op2 powD ma mb) := de_bin op_pow pu_pow ha hb
theorem de_and2 (ha : DE X Wx a ma) (hb : DE X Wx b mb) : DE X Wx (.BinOp a .BitAnd b pos) (op2 andD ma mb) := de_bin op_and pu_and ha hb
theorem de_shr (ha : DE X Wx a ma) (hb : DE X Wx b mb) : DE X Wx (.BinOp a .RShift b pos) (op2 shrD ma mb) := de_bin op_shr pu_shr ha hb
theorem de_neg (ha : DE X Wx a ma) : DE X Wx (.UnaryOp .USub a pos) (op1 negD ma) := de_un un_neg pu_neg ha
end

/-! ### data of the library -/
mutual
def py : D → PyData
  | .non => .none
  | .bl b => .bool b
  | .int i => .int i
  | .str x => .str x
  | .tup ds => .tuple (pyL ds)
  | .lst ds => .list (pyL ds)
  | .dct _ _ _ => .none
  | .deck => .none
  | .scr _ => .none
def pyL : List D → List PyData
  | [] => []
  | d :: r => py d :: pyL r
end
/-- data without dicts, of a bounded depth -/
def okD : Nat → D → Bool
  | _, .non => true
  | _, .bl _ => true
  | _, .int _ => true
  | _, .str x => PyData.strOk x
  | n + 1, .tup ds => ds.all (okD n)
  | n + 1, .lst ds => ds.all (okD n)
  | _, _ => false
mutual
/-- Python's == -/
def eqd : D → D → Bool
  | .non, .non => true
  | .bl a, .bl b => a == b
  | .bl a, .int j => (if a then 1 else 0) == j
  | .int i, .bl b => i == (if b then 1 else 0)
  | .int i, .int j => i == j
  | .str x, .str y => x == y
  | .lst xs, .lst ys => eqdL xs ys
  | .tup xs, .tup ys => eqdL xs ys
  | _, _ => false
def eqdL : List D → List D → Bool
  | [], [] => true
  | x :: xs, y :: ys => eqd x y && eqdL xs ys
  | _, _ => false
end
theorem pyL_map : ∀ ds : List D, pyL ds = ds.map py
  | [] => by simp only [pyL, List.map_nil]
  | d :: r => by simp only [pyL, List.map_cons, pyL_map r]
theorem depthAll_le {n : Nat} : ∀ {xs : List PyData}, (∀ x ∈ xs, x.depth ≤ n) → PyData.depthAll xs ≤ n
  | [], _ => by simp only [PyData.depthAll]; omega
  | x :: xs, h => by
    have h1 := h x List.mem_cons_self
    have h2 := depthAll_le (xs := xs) fun y hy => h y (List.mem_cons_of_mem _ hy)
    simp only [PyData.depthAll]
    omega
theorem canLayAll0_of : ∀ {xs : List PyData}, (∀ x ∈ xs, x.canLay0 = true) → PyData.canLayAll0 xs = true
  | [], _ => by simp only [PyData.canLayAll0]
  | x :: xs, h => by simp only [PyData.canLayAll0, h x List.mem_cons_self, canLayAll0_of (xs := xs) fun y hy => h y (List.mem_cons_of_mem _ hy), Bool.and_self]
theorem okD_py : ∀ (n : Nat) (d : D), okD n d = true → (py d).canLay0 = true ∧ (py d).depth ≤ n
  | n, .non, _ => by simp [py, PyData.canLay0, PyData.depth]
  | n, .bl b, _ => by simp [py, PyData.canLay0, PyData.depth]
  | n, .int b, _ => by simp [py, PyData.canLay0, PyData.depth]
  | n, .str b, h => by
    have h' : PyData.strOk b = true := by cases n <;> simpa [okD] using h
    simp [py, PyData.canLay0, PyData.depth, h']
  | n + 1, .tup ds, h => by
    have h' : ∀ x ∈ ds, okD n x = true := by simpa [okD, List.all_eq_true] using h
    simp only [py, PyData.canLay0, PyData.depth, pyL_map]
    refine ⟨canLayAll0_of fun x hx => ?_, Nat.succ_le_succ (depthAll_le fun x hx => ?_)⟩
    · obtain ⟨d, hd, rfl⟩ := List.mem_map.mp hx
      exact (okD_py n d (h' d hd)).1
    · obtain ⟨d, hd, rfl⟩ := List.mem_map.mp hx
      exact (okD_py n d (h' d hd)).2
  | n + 1, .lst ds, h => by
    have h' : ∀ x ∈ ds, okD n x = true := by simpa [okD, List.all_eq_true] using h
    simp only [py, PyData.canLay0, PyData.depth, pyL_map]
    refine ⟨canLayAll0_of fun x hx => ?_, Nat.succ_le_succ (depthAll_le fun x hx => ?_)⟩
    · obtain ⟨d, hd, rfl⟩ := List.mem_map.mp hx
      exact (okD_py n d (h' d hd)).1
    · obtain ⟨d, hd, rfl⟩ := List.mem_map.mp hx
      exact (okD_py n d (h' d hd)).2
  | 0, .tup _, h => by simp [okD] at h
  | 0, .lst _, h => by simp [okD] at h
  | 0, .dct _ _ _, h => by simp [okD] at h
  | n + 1, .dct _ _ _, h => by simp [okD] at h
  | 0, .deck, h => by simp [okD] at h
  | n + 1, .deck, h => by simp [okD] at h
  | 0, .scr _, h => by simp [okD] at h
  | n + 1, .scr _, h => by simp [okD] at h
theorem okD_shaped {d : D} (h : okD 64 d = true) : SeqAt.shaped (py d) = true := by
  obtain ⟨h1, h2⟩ := okD_py 64 d h
  show ((py d).canLay0 && decide ((py d).depth ≤ 64)) = true
  rw [h1, decide_eq_true h2] <;> rfl
section
variable {K : PySem.W.Frag} {G : Gh} {H : Hp}
theorem dp_list (n : Nat) (ih : ∀ {v : V} {d : D}, okD n d = true → Rp K G H v d → Dp K H v (py d)) : ∀ {vs : List V} {ds : List D}, (∀ d ∈ ds, okD n d = true) → RpL K G H vs ds → DpAll K H vs (pyL ds)
  | _, _, _, .nil => by simp only [pyL]; exact .nil
  | _, _, o, .cons r1 r2 => by
    simp only [pyL]
    exact .cons (ih (o _ List.mem_cons_self) r1) (dp_list n ih (fun x hx => o x (List.mem_cons_of_mem _ hx)) r2)
theorem Rp.dp (n : Nat) : ∀ {v : V} {d : D}, okD n d = true → Rp K G H v d → Dp K H v (py d) := by
  induction n with
  | zero =>
    intro v d o r
    cases r with
    | non => simp only [py]; exact .non
    | bl b => simp only [py]; exact .bl b
    | int b => simp only [py]; exact .int b
    | str b => simp only [py]; exact .str b
    | _ => simp [okD] at o
  | succ n ih =>
    intro v d o r
    cases r with
    | non => simp only [py]; exact .non
    | bl b => simp only [py]; exact .bl b
    | int b => simp only [py]; exact .int b
    | str b => simp only [py]; exact .str b
    | tup h r =>
      simp only [okD, List.all_eq_true] at o
      simp only [py]
      exact .tup (.of h) (dp_list n ih o r)
    | lst _ h r =>
      simp only [okD, List.all_eq_true] at o
      simp only [py]
      exact .lst (.of h) (dp_list n ih o r)
    | _ => simp [okD] at o
theorem RpL.dp (n : Nat) : ∀ {vs : List V} {ds : List D}, (∀ d ∈ ds, okD n d = true) → RpL K G H vs ds → DpAll K H vs (pyL ds)
  | _, _, _, .nil => by simp only [pyL]; exact .nil
  | _, _, o, .cons r1 r2 => by
    simp only [pyL]
    exact .cons (Rp.dp n (o _ List.mem_cons_self) r1) (RpL.dp n (fun x hx => o x (List.mem_cons_of_mem _ hx)) r2)
theorem Hd.dp {v : V} {d : D} (o : okD 64 d = true) (h : Hd K G H v d) : Dp K H v (py d) := by
  rcases h with h | ⟨a, rfl, h⟩
  · exact Rp.dp 64 o h
  · cases h with
    | lst h r =>
      simp only [py]
      refine .lst (.of h) (RpL.dp 63 (fun x hx => ?_) r)
      have o' := o
      simp only [okD, List.all_eq_true] at o'
      exact o' x hx
    | dK h r => simp [okD] at o
    | dT h r => simp [okD] at o
end
mutual
theorem eqv_py : ∀ (n m : Nat) (a b : D), okD n a = true → okD m b = true → PyData.eqv (py a) (py b) = eqd a b
  | n, m, .non, .non, _, _ => by simp [py, PyData.eqv, eqd]
  | n, m, .non, .bl _, _, _ => by simp [py, PyData.eqv, eqd]
  | n, m, .non, .int _, _, _ => by simp [py, PyData.eqv, eqd]
  | n, m, .non, .str _, _, _ => by simp [py, PyData.eqv, eqd]
  | n, m, .non, .lst _, _, _ => by simp [py, PyData.eqv, eqd]
  | n, m, .non, .tup _, _, _ => by simp [py, PyData.eqv, eqd]
  | n, m, .bl _, .non, _, _ => by simp [py, PyData.eqv, eqd]
  | n, m, .bl _, .bl _, _, _ => by simp [py, PyData.eqv, eqd]
  | n, m, .bl _, .int _, _, _ => by simp [py, PyData.eqv, eqd]
  | n, m, .bl _, .str _, _, _ => by simp [py, PyData.eqv, eqd]
  | n, m, .bl _, .lst _, _, _ => by simp [py, PyData.eqv, eqd]
  | n, m, .bl _, .tup _, _, _ => by simp [py, PyData.eqv, eqd]
  | n, m, .int _, .non, _, _ => by simp [py, PyData.eqv, eqd]
  | n, m, .int _, .bl _, _, _ => by simp [py, PyData.eqv, eqd]
  | n, m, .int _, .int _, _, _ => by simp [py, PyData.eqv, eqd]
  | n, m, .int _, .str _, _, _ => by simp [py, PyData.eqv, eqd]
  | n, m, .int _, .lst _, _, _ => by simp [py, PyData.eqv, eqd]
  | n, m, .int _, .tup _, _, _ => by simp [py, PyData.eqv, eqd]
  | n, m, .str _, .non, _, _ => by simp [py, PyData.eqv, eqd]
  | n, m, .str _, .bl _, _, _ => by simp [py, PyData.eqv, eqd]
  | n, m, .str _, .int _, _, _ => by simp [py, PyData.eqv, eqd]
  | n, m, .str _, .str _, _, _ => by simp [py, PyData.eqv, eqd]
  | n, m, .str _, .lst _, _, _ => by simp [py, PyData.eqv, eqd]
  | n, m, .str _, .tup _, _, _ => by simp [py, PyData.eqv, eqd]
  | n, m, .lst _, .non, _, _ => by simp [py, PyData.eqv, eqd]
  | n, m, .lst _, .bl _, _, _ => by simp [py, PyData.eqv, eqd]
  | n, m, .lst _, .int _, _, _ => by simp [py, PyData.eqv, eqd]
  | n, m, .lst _, .str _, _, _ => by simp [py, PyData.eqv, eqd]
  | n + 1, m + 1, .lst a, .lst b, h, g => by
    simp only [py, PyData.eqv, eqd]
    simp only [okD, List.all_eq_true] at h g
    exact eqvAll_py n m a b h g
  | n, m, .lst _, .tup _, _, _ => by simp [py, PyData.eqv, eqd]
  | n, m, .tup _, .non, _, _ => by simp [py, PyData.eqv, eqd]
  | n, m, .tup _, .bl _, _, _ => by simp [py, PyData.eqv, eqd]
  | n, m, .tup _, .int _, _, _ => by simp [py, PyData.eqv, eqd]
  | n, m, .tup _, .str _, _, _ => by simp [py, PyData.eqv, eqd]
  | n, m, .tup _, .lst _, _, _ => by simp [py, PyData.eqv, eqd]
  | n + 1, m + 1, .tup a, .tup b, h, g => by
    simp only [py, PyData.eqv, eqd]
    simp only [okD, List.all_eq_true] at h g
    exact eqvAll_py n m a b h g
  | 0, _, .lst _, .lst _, h, _ => by simp [okD] at h
  | _, 0, .lst _, .lst _, _, h => by simp [okD] at h
  | 0, _, .tup _, .tup _, h, _ => by simp [okD] at h
  | _, 0, .tup _, .tup _, _, h => by simp [okD] at h
  | n, m, .dct _ _ _, _, h, _ => by cases n <;> simp [okD] at h
  | n, m, .deck, _, h, _ => by cases n <;> simp [okD] at h
  | n, m, .scr _, _, h, _ => by cases n <;> simp [okD] at h
  | n, m, _, .dct _ _ _, _, h => by cases m <;> simp [okD] at h
  | n, m, _, .deck, _, h => by cases m <;> simp [okD] at h
  | n, m, _, .scr _, _, h => by cases m <;> simp [okD] at h
theorem eqvAll_py : ∀ (n m : Nat) (a b : List D), (∀ x ∈ a, okD n x = true) → (∀ x ∈ b, okD m x = true) → PyData.eqvAll (pyL a) (pyL b) = eqdL a b
  | n, m, [], [], _, _ => by simp [pyL, PyData.eqvAll, eqdL]
  | n, m, [], _ :: _, _, _ => by simp [pyL, PyData.eqvAll, eqdL]
  | n, m, _ :: _, [], _, _ => by simp [pyL, PyData.eqvAll, eqdL]
  | n, m, x :: xs, y :: ys, h, g => by
    simp only [pyL, PyData.eqvAll, eqdL]
    rw [eqv_py n m x y (h x List.mem_cons_self) (g y List.mem_cons_self), eqvAll_py n m xs ys (fun z hz => h z (List.mem_cons_of_mem _ hz)) fun z hz => g z (List.mem_cons_of_mem _ hz)]
end
end Dl

namespace Dl
open PySem PySem.Spec PyProof.Rows L2

/-! ### tests -/
def truthB : D → Option Bool
  | .bl b => some b
  | _ => none
def truthD : D → Option Bool
  | .bl b => some b
  | .non => some false
  | .int i => some (i != 0)
  | .lst ds => some (!ds.isEmpty)
  | .tup ds => some (!ds.isEmpty)
  | _ => none
def eTst (g : D → Option Bool) (m : Ev W) : Ev Bool := bindE m fun w st => match content st w with
  | some d => match g d with
    | some b => .ok b st
    | none => .stuck
  | none => .stuck
section
variable {K : PySem.W.Frag} {mg : Str → Option Value} {σ : Sg} {Wx : WX} {H : Hp}
theorem up_tst {g : D → Option Bool} {m : Ev W} {Q : Bool → Hp → Prop} (h : upT K mg Wx (eTst g m) σ H Q) : upE K mg Wx m σ H fun x H1 => ∃ G d b, Hd K G H1 x d ∧ g d = some b ∧ Q b H1 := by
  obtain ⟨G, st, rel, h⟩ := h
  refine step rel (.refl rel) h fun w st1 G1 H1 v x1 _ r1 h1 => ?_
  split at h1
  · rename_i d e
    split at h1
    · rename_i b e2
      exact ⟨G1, d, b, r1.hd x1.rel e, e2, h1 G1 H1 x1⟩
    · exact h1.elim
  · exact h1.elim
theorem RpL.isEmpty {G : Gh} {vs : List V} {ds : List D} (r : RpL K G H vs ds) : (!ds.isEmpty) = !vs.isEmpty := by
  cases r <;> rfl
theorem tru_of {G : Gh} {x : V} {d : D} {b : Bool} (h : Hd K G H x d) (e : truthD d = some b) : TruV K x H b := by
  unfold truthD at e
  split at e
  · cases e; rw [h.bl] <;> rfl
  · cases e; rw [h.non] <;> rfl
  · cases e; rw [h.int] <;> rfl
  · cases e
    obtain ⟨a, vs, rfl, hl, r⟩ := h.lst
    exact .inl ⟨vs, .of hl, r.isEmpty⟩
  · cases e
    obtain ⟨a, vs, rfl, hl, r⟩ := h.tup
    exact .inr (.inl ⟨vs, .of hl, r.isEmpty⟩)
  · cases e
theorem up_tstB {m : Ev W} {Q : Bool → Hp → Prop} (h : upT K mg Wx (eTst truthB m) σ H Q) : upE K mg Wx m σ H fun x H1 => ∃ k, x = .bl k ∧ Q k H1 := by
  obtain ⟨G, st, rel, h⟩ := h
  refine step rel (.refl rel) h fun w st1 G1 H1 v x1 _ r1 h1 => ?_
  split at h1
  · rename_i d e
    have hd := r1.hd x1.rel e
    split at h1
    · rename_i b e2
      unfold truthB at e2
      split at e2
      · cases e2
        exact ⟨_, hd.bl, h1 G1 H1 x1⟩
      · cases e2
    · exact h1.elim
  · exact h1.elim
end
section
variable {X : Cx} {Wx : WX} {a b c : Expr} {ma mb mc : Ev W} {pos : Pos}
/-- an expression that is no comparison, no 'and', 'or', 'not' -/
theorem dt_val (ha : DE X Wx a ma) (he : ∀ whole, isTrue a X.env whole = (do let v ← whole; standAt a.pos; holding [v] (truthy v)) := by intro _; rfl) : DT X Wx a (eTst truthD ma) :=
  useT (pt_truth ha he) fun σ H Q h => by
    obtain ⟨G, st, rel, h⟩ := up_tst h
    exact ⟨G, st, rel, h.imp fun w s _ p G' H' v x r => by
      obtain ⟨G2, d, b, h1, h2, h3⟩ := p G' H' v x r
      exact ⟨b, tru_of h1 h2, h3⟩⟩
theorem dt_cmp {op : CmpOp} {r : R2} {f : D → D → Option W} (ho : OpR X (compareOp op) r) (hf : Pu2 X.K r f) (hm : behindInMarks op b = false) (ha : DE X Wx a ma) (hb : DE X Wx b mb) : DT X Wx (.Compare a [op] [b] pos) (eTst truthB (op2 f ma mb)) :=
  useT (pt_cmpR ho ha hb hm) fun σ H Q h => up2 hf (up_tstB h)
theorem dt_not {m : Ev Bool} (ha : DT X Wx a m) : DT X Wx (.UnaryOp .Not a pos) (bindE m fun b => okE (!b)) :=
  useT (pt_not ha) fun σ H Q ⟨G, st, rel, h⟩ => stepT rel (.refl rel) h fun b st2 G2 H2 x _ p => p G2 H2 x
end
def andT (m n : Ev Bool) : Ev Bool := bindE m fun b => if b = true then n else okE false
def orT (m n : Ev Bool) : Ev Bool := bindE m fun b => if b = true then okE true else n
abbrev DW (X : Cx) (Wx : WX) (e : Expr) (m : Ev Bool) : Prop := PW X e (upT X.K X.mg Wx m)
section
variable {X : Cx} {Wx : WX} {a b c : Expr} {rest : List Expr} {m n : Ev Bool} {pos : Pos}
theorem dw_and1 (ha : DT X Wx a m) : DW X Wx (.BoolOp .And [a] pos) m := pw_and1 ha
theorem dw_or1 (ha : DT X Wx a m) : DW X Wx (.BoolOp .Or [a] pos) m := pw_or1 ha
theorem dw_and (ha : DT X Wx a m) (hb : DW X Wx (.BoolOp .And (b :: rest) pos) n) : DW X Wx (.BoolOp .And (a :: b :: rest) pos) (andT m n) :=
  useW (pw_and ha hb) fun σ H Q ⟨G, st, rel, h⟩ => stepT rel (.refl rel) h fun k st2 G2 H2 x _ p => by
    cases k with
    | true => exact goT rel x p
    | false => exact p G2 H2 x
theorem dw_or (ha : DT X Wx a m) (hb : DW X Wx (.BoolOp .Or (b :: rest) pos) n) : DW X Wx (.BoolOp .Or (a :: b :: rest) pos) (orT m n) :=
  useW (pw_or ha hb) fun σ H Q ⟨G, st, rel, h⟩ => stepT rel (.refl rel) h fun k st2 G2 H2 x _ p => by
    cases k with
    | false => exact goT rel x p
    | true => exact p G2 H2 x
theorem dt_w (h : DW X Wx a m) : DT X Wx a m := h.pt
end
/-- and, or, not as values (truth values all) -/
def ifW (w : W) (yes no : Ev W) : Ev W := fun st => match content st w with
  | some (.bl true) => yes st
  | some (.bl false) => no st
  | _ => .stuck
def andV (m n : Ev W) : Ev W := bindE m fun w => ifW w n (eC (.bl false))
def orV (m n : Ev W) : Ev W := bindE m fun w => ifW w (eC (.bl true)) n
def notV (m : Ev W) : Ev W := bindE m fun w => ifW w (eC (.bl false)) (eC (.bl true))
section
variable {K : PySem.W.Frag} {mg : Str → Option Value} {σ : Sg} {G : Gh} {Wx : WX} {st : Stt}
theorem ifW_ok {w : W} {yes no : Ev W} {P : W → Stt → Prop} (h : ResP K mg σ G Wx (ifW w yes no st) P) : ∃ k, content st w = some (.bl k) ∧ ResP K mg σ G Wx ((if k = true then yes else no) st) P := by
  unfold ifW at h
  split at h
  · rename_i e; exact ⟨true, e, h⟩
  · rename_i e; exact ⟨false, e, h⟩
  · exact h.elim
end
section
variable {X : Cx} {Wx : WX} {a b c : Expr} {rest : List Expr} {ma mb mc : Ev W} {pos : Pos}
theorem de_one {op} (ha : DE X Wx a ma) : DE X Wx (.BoolOp op [a] pos) ma := pe_one ha
theorem de_and (ha : DE X Wx a ma) (hb : DE X Wx (.BoolOp .And (b :: rest) pos) mb) : DE X Wx (.BoolOp .And (a :: b :: rest) pos) (andV ma mb) :=
  useE (pe_and ha hb) fun σ H Q ⟨G, st, rel, h⟩ => step rel (.refl rel) h fun w st1 G1 H1 v x _ r p => by
    obtain ⟨k, e, p⟩ := ifW_ok p
    have hv := (r.hd x.rel e).bl
    refine ⟨k, hv, ?_⟩
    cases k with
    | true => exact goE rel x p
    | false => exact p G1 H1 _ x (.bl false)
theorem de_or (ha : DE X Wx a ma) (hb : DE X Wx (.BoolOp .Or (b :: rest) pos) mb) : DE X Wx (.BoolOp .Or (a :: b :: rest) pos) (orV ma mb) :=
  useE (pe_or ha hb) fun σ H Q ⟨G, st, rel, h⟩ => step rel (.refl rel) h fun w st1 G1 H1 v x _ r p => by
    obtain ⟨k, e, p⟩ := ifW_ok p
    have hv := (r.hd x.rel e).bl
    refine ⟨k, hv, ?_⟩
    cases k with
    | false => exact goE rel x p
    | true => exact p G1 H1 _ x (.bl true)
theorem de_not (ha : DE X Wx a ma) : DE X Wx (.UnaryOp .Not a pos) (notV ma) :=
  useE (pe_not ha) fun σ H Q ⟨G, st, rel, h⟩ => step rel (.refl rel) h fun w st1 G1 H1 v x _ r p => by
    obtain ⟨k, e, p⟩ := ifW_ok p
    have hv := (r.hd x.rel e).bl
    refine ⟨k, hv, ?_⟩
    cases k with
    | false => exact p G1 H1 _ x (.bl true)
    | true => exact p G1 H1 _ x (.bl false)
def ifE (m : Ev Bool) (n o : Ev W) : Ev W := bindE m fun b => if b = true then n else o
theorem de_if {m : Ev Bool} (hc : DT X Wx c m) (ha : DE X Wx a ma) (hb : DE X Wx b mb) : DE X Wx (.IfExp c a b pos) (ifE m ma mb) :=
  useE (pe_ifExp hc ha hb) fun σ H Q ⟨G, st, rel, h⟩ => stepT rel (.refl rel) h fun k st2 G2 H2 x _ p => by
    cases k with
    | false => exact goE rel x p
    | true => exact goE rel x p
/-- a op1 b op2 c -/
def chainE (f g : D → D → Option W) (m n o : Ev W) : Ev W := bindE m fun w1 => bindE n fun w2 => bindE (app2 f w1 w2) fun w => ifW w (bindE o fun w3 => app2 g w2 w3) (eC (.bl false))
theorem up_chain {K : PySem.W.Frag} {mg : Str → Option Value} {σ : Sg} {H : Hp} {r r' : R2} {f g : D → D → Option W} (hf : Pu2 K r f) (hg : Pu2 K r' g) {Q : VK} (h : upE K mg Wx (chainE f g ma mb mc) σ H Q) :
    tChain r r' (upE K mg Wx ma) (upE K mg Wx mb) (upE K mg Wx mc) σ H Q := by
  obtain ⟨G, st, rel, h⟩ := h
  refine step rel (.refl rel) h fun w1 st1 G1 H1 v1 x1 _ r1 h1 => ?_
  refine step rel x1 h1 fun w2 st2 G2 H2 v2 x2 x12 r2 h2 => ?_
  obtain ⟨d1, d2, w, e1, e2, e3, h3⟩ := app2_ok (ResP.bind h2)
  refine hf σ G st H G2 st2 H2 v1 v2 d1 d2 w _ rel x2 ((r1.mono rel x1 x12).hd x2.rel e1) (r2.hd x2.rel e2) e3 fun G3 H3 v3 x3 x23 r3 => ?_
  obtain ⟨k, e, p⟩ := ifW_ok h3
  refine ⟨k, (r3.hd x3.rel e).bl, ?_⟩
  cases k with
  | false => exact p G3 H3 _ x3 (.bl false)
  | true =>
    refine step rel x3 p fun w4 st4 G4 H4 v4 x4 x34 r4 h4 => ?_
    obtain ⟨d2', d4, w', e1', e2', e3', q⟩ := app2_ok h4
    have r2' := (r2.mono rel x2 x23).mono rel x3 x34
    exact hg σ G st H G4 st4 H4 v2 v4 d2' d4 w' Q rel x4 (r2'.hd x4.rel e1') (r4.hd x4.rel e2') e3' fun G' H' v a _ b => q G' H' v a b
theorem de_chain {op op' : CmpOp} {r r' : R2} {f g : D → D → Option W} (ho : OpR X (compareOp op) r) (ho' : OpR X (compareOp op') r') (hf : Pu2 X.K r f) (hg : Pu2 X.K r' g)
    (ha : DE X Wx a ma) (hb : DE X Wx b mb) (hc : DE X Wx c mc) (hm : lastMarks [op, op'] [b, c] = false := by with_unfolding_all rfl) : DE X Wx (.Compare a [op, op'] [b, c] pos) (chainE f g ma mb mc) :=
  useE (pe_chain ho ho' ha hb hc hm) fun _ _ _ h => up_chain hf hg h
theorem dt_chain {op op' : CmpOp} {r r' : R2} {f g : D → D → Option W} (ho : OpR X (compareOp op) r) (ho' : OpR X (compareOp op') r') (hf : Pu2 X.K r f) (hg : Pu2 X.K r' g)
    (ha : DE X Wx a ma) (hb : DE X Wx b mb) (hc : DE X Wx c mc) (hm : lastMarks [op, op'] [b, c] = false := by with_unfolding_all rfl) : DT X Wx (.Compare a [op, op'] [b, c] pos) (eTst truthB (chainE f g ma mb mc)) :=
  useT (pt_chain ho ho' ha hb hc hm) fun _ _ _ h => up_chain hf hg (up_tstB h)
end

/-! ### comparisons -/
def eqW (a b : D) : Option W := if okD 64 a = true ∧ okD 64 b = true then some (.val (.bl (eqd a b))) else none
def neW (a b : D) : Option W := if okD 64 a = true ∧ okD 64 b = true then some (.val (.bl (!eqd a b))) else none
mutual
/-- a < b of numbers, texts, tuples of such -/
def ltd : D → D → Option Bool
  | .int i, .int j => some (decide (i < j))
  | .str x, .str y => some (decide (x.cps.toList < y.cps.toList))
  | .tup xs, .tup ys => ltdL xs ys
  | _, _ => none
def ltdL : List D → List D → Option Bool
  | [], [] => some false
  | [], _ :: _ => some true
  | _ :: _, [] => some false
  | x :: xs, y :: ys => match ltdL xs ys with
    | none => none
    | some k => if eqd x y = true then some k else ltd x y
end
def ltW (a b : D) : Option W := if okD 64 a = true ∧ okD 64 b = true then (ltd a b).map fun k => .val (.bl k) else none
def gtW (a b : D) : Option W := match a, b with
  | .int i, .int j => some (.val (.bl (decide (j < i))))
  | _, _ => none
def leW (a b : D) : Option W := match a, b with
  | .int i, .int j => some (.val (.bl (decide (i ≤ j))))
  | _, _ => none
def geW (a b : D) : Option W := match a, b with
  | .int i, .int j => some (.val (.bl (decide (j ≤ i))))
  | _, _ => none
section
variable {K : PySem.W.Frag}
theorem pu_eq : Pu2 K (rEqD K) eqW := fun σ Gs ss Hs G st H x y a b w Q r e h1 h2 hw q => by
  unfold eqW at hw
  split at hw
  · rename_i hc
    cases hw
    refine ⟨_, _, h1.dp hc.1, h2.dp hc.2, okD_shaped hc.1, okD_shaped hc.2, ?_⟩
    rw [eqv_py 64 64 a b hc.1 hc.2]
    exact q.val e (.bl _)
  · cases hw
theorem pu_ne : Pu2 K (rNeD K) neW := fun σ Gs ss Hs G st H x y a b w Q r e h1 h2 hw q => by
  unfold neW at hw
  split at hw
  · rename_i hc
    cases hw
    refine ⟨_, _, h1.dp hc.1, h2.dp hc.2, okD_shaped hc.1, okD_shaped hc.2, ?_⟩
    rw [eqv_py 64 64 a b hc.1 hc.2]
    exact q.val e (.bl _)
  · cases hw
theorem pu_cmpI {f : D → D → Option W} {g : Int → Int → Bool} (hf : ∀ a b w, f a b = some w → ∃ i j, a = .int i ∧ b = .int j ∧ w = .val (.bl (g i j))) : Pu2 K (rI0 fun i j => .bl (g i j)) f := fun σ Gs ss Hs G st H x y a b w Q r e h1 h2 hw q => by
  obtain ⟨i, j, rfl, rfl, rfl⟩ := hf a b w hw
  exact ⟨i, j, h1.int, h2.int, q.val e (.bl _)⟩
theorem pu_gt : Pu2 K (rI0 fun i j => .bl (decide (j < i))) gtW := pu_cmpI fun a b w h => by
  unfold gtW at h
  split at h
  · cases h; exact ⟨_, _, rfl, rfl, rfl⟩
  · cases h
theorem pu_le : Pu2 K (rI0 fun i j => .bl (decide (i ≤ j))) leW := pu_cmpI fun a b w h => by
  unfold leW at h
  split at h
  · cases h; exact ⟨_, _, rfl, rfl, rfl⟩
  · cases h
theorem pu_ge : Pu2 K (rI0 fun i j => .bl (decide (j ≤ i))) geW := pu_cmpI fun a b w h => by
  unfold geW at h
  split at h
  · cases h; exact ⟨_, _, rfl, rfl, rfl⟩
  · cases h
end
/-- x < y by the data -/
def rLtD (K : PySem.W.Frag) : R2 := fun x y H Q => ∃ G a b k, Rp K G H x a ∧ Rp K G H y b ∧ okD 64 a = true ∧ okD 64 b = true ∧ ltd a b = some k ∧ Q (.bl k) H
theorem lexAt_ext {e r e' r' : Nat → Bool} {z : Bool} : ∀ (k i : Nat), (∀ j, i ≤ j → j < i + k → e j = e' j) → (∀ j, i ≤ j → j < i + k → e j = false → r j = r' j) → Ob.lexAt e r z i k = Ob.lexAt e' r' z i k
  | 0, _, _, _ => rfl
  | k + 1, i, he, hr => by
    rw [Ob.lexAt_succ, Ob.lexAt_succ, ← he i (Nat.le_refl _) (by omega)]
    cases h : e i with
    | true => exact lexAt_ext k (i + 1) (fun j h1 h2 => he j (by omega) (by omega)) fun j h1 h2 => hr j (by omega) (by omega)
    | false => exact hr i (Nat.le_refl _) (by omega) h
theorem lexAt_shift {e r : Nat → Bool} {z : Bool} : ∀ (k i : Nat), Ob.lexAt e r z (i + 1) k = Ob.lexAt (fun j => e (j + 1)) (fun j => r (j + 1)) z i k
  | 0, _ => rfl
  | k + 1, i => by
    rw [Ob.lexAt_succ, Ob.lexAt_succ, lexAt_shift k (i + 1)]
theorem ltdL_lex : ∀ (xs ys : List D) (k : Bool), ltdL xs ys = some k →
    Ob.lexAt (fun j => eqd (xs.getD j .non) (ys.getD j .non)) (fun j => (ltd (xs.getD j .non) (ys.getD j .non)).getD false) (decide (xs.length < ys.length)) 0 (min xs.length ys.length) = k
  | [], [], k, h => by simp only [ltdL, Option.some.injEq] at h; subst h; rfl
  | [], _ :: _, k, h => by simp only [ltdL, Option.some.injEq] at h; subst h; simp [Ob.lexAt_zero]
  | _ :: _, [], k, h => by simp only [ltdL, Option.some.injEq] at h; subst h; simp [Ob.lexAt_zero]
  | x :: xs, y :: ys, k, h => by
    have e : min (x :: xs).length (y :: ys).length = min xs.length ys.length + 1 := by simp only [List.length_cons]; omega
    rw [e, Ob.lexAt_succ, lexAt_shift]
    simp only [ltdL] at h
    simp only [List.getD_cons_zero, List.getD_cons_succ]
    split at h
    · cases h
    · rename_i k' hk
      split at h
      · rename_i h1
        cases h
        rw [if_pos h1]
        have ih := ltdL_lex xs ys k hk
        have e2 : decide ((x :: xs).length < (y :: ys).length) = decide (xs.length < ys.length) := by simp only [List.length_cons, Nat.add_lt_add_iff_right]
        rw [e2]
        exact ih
      · rename_i h1
        rw [if_neg h1, h] <;> rfl
theorem ltdL_at : ∀ (xs ys : List D) (k : Bool), ltdL xs ys = some k → ∀ j, j < xs.length → j < ys.length → eqd (xs.getD j .non) (ys.getD j .non) = false → ∃ b, ltd (xs.getD j .non) (ys.getD j .non) = some b
  | [], _, _, _, j, h, _, _ => absurd h (Nat.not_lt_zero _)
  | _ :: _, [], _, _, j, _, h, _ => absurd h (Nat.not_lt_zero _)
  | x :: xs, y :: ys, k, h, j, h1, h2, e => by
    simp only [ltdL] at h
    split at h
    · cases h
    · rename_i k' hk
      cases j with
      | zero =>
        simp only [List.getD_cons_zero] at e ⊢
        rw [e] at h
        exact ⟨k, h⟩
      | succ j =>
        simp only [List.getD_cons_succ] at e ⊢
        exact ltdL_at xs ys k' hk j (by simpa using h1) (by simpa using h2) e
section
variable {X : Cx} {pins : List (Addr × Obj)} {σ : Sg} {s : Shared} {G : Gh} {H : Hp}
theorem getD_get {α : Type} {xs : List α} {j : Nat} {d : α} (h : j < xs.length) : xs[j]? = some (xs.getD j d) := by
  rw [List.getElem?_eq_getElem h, List.getD_eq_getElem?_getD, List.getElem?_eq_getElem h] <;> rfl
theorem ltd_rc (I : Inv X pins σ H s) : ∀ (n : Nat) (A : Around) (a b : D) (k : Bool) (x y : V) (v u : Value), okD n a = true → okD n b = true → ltd a b = some k → Rp X.K G H x a → Rp X.K G H y b → RelV x v → RelV y u → A.units + (n + n) + 1 < cLine →
    Ob.RcOp .Lt A s v u k := by
  intro n
  induction n with
  | zero =>
    intro A a b k x y v u oa ob h ra rb r1 r2 hu
    unfold ltd at h
    split at h
    · cases h; cases ra; cases rb
      obtain ⟨t, rfl⟩ := r1
      obtain ⟨t', rfl⟩ := r2
      exact Ob.RcOp.lt_int _ _ _ _
    · cases h; cases ra; cases rb
      obtain ⟨t, rfl⟩ := r1
      obtain ⟨t', rfl⟩ := r2
      exact fun prog w E Q q => PyProof.Rows.lt_str q
    · simp [okD] at oa
    · cases h
  | succ n ih =>
    intro A a b k x y v u oa ob h ra rb r1 r2 hu
    unfold ltd at h
    split at h
    · cases h; cases ra; cases rb
      obtain ⟨t, rfl⟩ := r1
      obtain ⟨t', rfl⟩ := r2
      exact Ob.RcOp.lt_int _ _ _ _
    · cases h; cases ra; cases rb
      obtain ⟨t, rfl⟩ := r1
      obtain ⟨t', rfl⟩ := r2
      exact fun prog w E Q q => PyProof.Rows.lt_str q
    · rename_i xs ys
      cases ra with
      | tup q1 l1 =>
        cases rb with
        | tup q2 l2 =>
          cases r1
          cases r2
          rename_i p1 vs1 p2 vs2
          have oa' : ∀ d ∈ xs, okD n d = true := by simpa [okD, List.all_eq_true] using oa
          have ob' : ∀ d ∈ ys, okD n d = true := by simpa [okD, List.all_eq_true] using ob
          obtain ⟨its1, rv1, t1, _⟩ := I.tuple (.of q1)
          obtain ⟨its2, rv2, t2, _⟩ := I.tuple (.of q2)
          have e1 : its1.toArray.size = xs.length := by rw [List.size_toArray, ← rv1.length, l1.length]
          have e2 : its2.toArray.size = ys.length := by rw [List.size_toArray, ← rv2.length, l2.length]
          have at1 : ∀ j (hj : j < its1.toArray.size), ∃ z, Rp X.K G H z (xs.getD j .non) ∧ RelV z its1.toArray[j] := fun j hj => by
            obtain ⟨z, z1, z2⟩ := l1.get (getD_get (d := D.non) (by omega : j < xs.length))
            obtain ⟨u, u1, u2⟩ := rv1.get z1
            have e : its1.toArray[j] = u := by
              have : its1.toArray[j]? = some u := by simpa using u1
              rw [Array.getElem?_eq_getElem hj] at this
              exact Option.some.inj this
            exact ⟨z, z2, by rw [e]; exact u2⟩
          have at2 : ∀ j (hj : j < its2.toArray.size), ∃ z, Rp X.K G H z (ys.getD j .non) ∧ RelV z its2.toArray[j] := fun j hj => by
            obtain ⟨z, z1, z2⟩ := l2.get (getD_get (d := D.non) (by omega : j < ys.length))
            obtain ⟨u, u1, u2⟩ := rv2.get z1
            have e : its2.toArray[j] = u := by
              have : its2.toArray[j]? = some u := by simpa using u1
              rw [Array.getElem?_eq_getElem hj] at this
              exact Option.some.inj this
            exact ⟨z, z2, by rw [e]; exact u2⟩
          have ok1 : ∀ j, j < xs.length → okD n (xs.getD j .non) = true := fun j hj => oa' _ (List.mem_of_getElem? (getD_get hj))
          have ok2 : ∀ j, j < ys.length → okD n (ys.getD j .non) = true := fun j hj => ob' _ (List.mem_of_getElem? (getD_get hj))
          have key := ltdL_lex xs ys k h
          rw [← key]
          have m1 : min its1.toArray.size its2.toArray.size = min xs.length ys.length := by rw [e1, e2]
          have m2 : decide (its1.toArray.size < its2.toArray.size) = decide (xs.length < ys.length) := by rw [e1, e2]
          rw [← m1, ← m2]
          refine Ob.RcOp.tuples_lt t1 t2 (by omega) (fun j h1 h2 => ?_) fun j h1 h2 he => ?_
          · obtain ⟨z1, q1', w1⟩ := at1 j h1
            obtain ⟨z2, q2', w2⟩ := at2 j h2
            have o1 := ok1 j (by omega)
            have o2 := ok2 j (by omega)
            obtain ⟨as, d1⟩ := Dp.reads I _ _ _ (q1'.dp n o1) w1
            obtain ⟨bs, d2⟩ := Dp.reads I _ _ _ (q2'.dp n o2) w2
            rw [← eqv_py n n _ _ o1 o2]
            refine SeqAt.eqAt_reads _ _ _ _ _ _ _ _ d1 d2 (okD_py n _ o1).1 (okD_py n _ o2).1 ?_
            have := (okD_py n _ o1).2
            show A.units + 1 + _ < cLine
            omega
          · obtain ⟨z1, q1', w1⟩ := at1 j h1
            obtain ⟨z2, q2', w2⟩ := at2 j h2
            obtain ⟨b, hb⟩ := ltdL_at xs ys k h j (by omega) (by omega) he
            show Ob.RcOp .Lt A.in1 s _ _ ((ltd (xs.getD j .non) (ys.getD j .non)).getD false)
            rw [hb]
            exact ih A.in1 _ _ b _ _ _ _ (ok1 j (by omega)) (ok2 j (by omega)) hb q1' q2' w1 w2 (by show A.units + 1 + (n + n) + 1 < cLine; omega)
    · cases h
theorem op_ltD (hu : X.A.units + 200 < cLine) : OpR X (compareOp .Lt) (rLtD X.K) := by
  intro pins s σ H x y v u Q I rx ry h
  obtain ⟨G, a, b, k, ra, rb, oa, ob, hk, q⟩ := h
  have R := ltd_rc I 64 X.A a b k x y v u oa ob hk ra rb rx ry (by omega)
  have z : wpAny (model X.prog X.w) X.A (compareOp .Lt v u) (EP X pins σ Q) X.xe s := R X.prog X.w X.xe (EP X pins σ Q) ⟨.bl k, H, I, rfl, q⟩
  exact z
end
section
variable {K : PySem.W.Frag}
theorem Hd.rp {G : Gh} {H : Hp} {v : V} {d : D} (h : Hd K G H v d) (n : ∀ ds, d ≠ .lst ds) (m : ∀ t ks vs, d ≠ .dct t ks vs) : Rp K G H v d := by
  rcases h with h | ⟨a, rfl, h⟩
  · exact h
  · cases h with
    | lst h r => exact absurd rfl (n _)
    | dK h r => exact absurd rfl (m _ _ _)
    | dT h r => exact absurd rfl (m _ _ _)
theorem ltd_form {a b : D} {k : Bool} (h : ltd a b = some k) : (∀ ds, a ≠ .lst ds) ∧ (∀ t ks vs, a ≠ .dct t ks vs) ∧ (∀ ds, b ≠ .lst ds) ∧ (∀ t ks vs, b ≠ .dct t ks vs) := by
  unfold ltd at h
  split at h
  · exact ⟨by simp, by simp, by simp, by simp⟩
  · exact ⟨by simp, by simp, by simp, by simp⟩
  · exact ⟨by simp, by simp, by simp, by simp⟩
  · cases h
theorem pu_lt : Pu2 K (rLtD K) ltW := fun σ Gs ss Hs G st H x y a b w Q r e h1 h2 hw q => by
  unfold ltW at hw
  split at hw
  · rename_i hc
    cases hk : ltd a b with
    | none => rw [hk] at hw; cases hw
    | some k =>
      rw [hk] at hw
      cases hw
      obtain ⟨n1, n2, n3, n4⟩ := ltd_form hk
      exact ⟨G, a, b, k, h1.rp n1 n2, h2.rp n3 n4, hc.1, hc.2, hk, q.val e (.bl k)⟩
  · cases hw
/-- is None, is not None -/
def isNW (a b : D) : Option W := match a, b with
  | .non, .non => some (.val (.bl true))
  | .int _, .non => some (.val (.bl false))
  | .bl _, .non => some (.val (.bl false))
  | .str _, .non => some (.val (.bl false))
  | .tup _, .non => some (.val (.bl false))
  | .lst _, .non => some (.val (.bl false))
  | .dct _ _ _, .non => some (.val (.bl false))
  | .bl a, .bl b => some (.val (.bl (a == b)))
  | _, _ => none
def notNW (a b : D) : Option W := match isNW a b with
  | some (.val (.bl k)) => some (.val (.bl (!k)))
  | _ => none
def rIs : R2 := fun x y H Q => (y = .non ∧ Q (.bl (decide (x = .non))) H) ∨ ∃ a b, x = .bl a ∧ y = .bl b ∧ Q (.bl (decide (a = b))) H
def rIsNot : R2 := fun x y H Q => (y = .non ∧ Q (.bl (!decide (x = .non))) H) ∨ ∃ a b, x = .bl a ∧ y = .bl b ∧ Q (.bl (!decide (a = b))) H
theorem isN_ok {G : Gh} {H : Hp} {x y : V} {a b : D} {w : W} (h1 : Hd K G H x a) (h2 : Hd K G H y b) (h : isNW a b = some w) :
    ∃ k, w = .val (.bl k) ∧ ((y = .non ∧ decide (x = .non) = k) ∨ ∃ p q, x = .bl p ∧ y = .bl q ∧ decide (p = q) = k) := by
  unfold isNW at h
  split at h
  · cases h; exact ⟨_, rfl, .inl ⟨h2.non, by rw [h1.non]; rfl⟩⟩
  · cases h; exact ⟨_, rfl, .inl ⟨h2.non, by rw [h1.int]; rfl⟩⟩
  · cases h; exact ⟨_, rfl, .inl ⟨h2.non, by rw [h1.bl]; rfl⟩⟩
  · cases h; exact ⟨_, rfl, .inl ⟨h2.non, by rw [h1.str]; rfl⟩⟩
  · cases h
    obtain ⟨p, _, e, _⟩ := h1.tup
    exact ⟨_, rfl, .inl ⟨h2.non, by rw [e]; rfl⟩⟩
  · cases h
    obtain ⟨p, _, e, _⟩ := h1.lst
    exact ⟨_, rfl, .inl ⟨h2.non, by rw [e]; rfl⟩⟩
  · cases h
    refine ⟨_, rfl, .inl ⟨h2.non, ?_⟩⟩
    rcases h1 with h1 | ⟨p, e, _⟩
    · cases h1 <;> rfl
    · rw [e]; rfl
  · cases h
    rename_i p q
    refine ⟨_, rfl, .inr ⟨p, q, h1.bl, h2.bl, ?_⟩⟩
    cases p <;> cases q <;> rfl
  · cases h
theorem pu_is : Pu2 K rIs isNW := fun σ Gs ss Hs G st H x y a b w Q r e h1 h2 hw q => by
  obtain ⟨k, rfl, h⟩ := isN_ok h1 h2 hw
  rcases h with ⟨z, hk⟩ | ⟨p, p2, z1, z2, hk⟩
  · exact .inl ⟨z, by rw [hk]; exact q.val e (.bl k)⟩
  · exact .inr ⟨p, p2, z1, z2, by rw [hk]; exact q.val e (.bl k)⟩
theorem pu_isnot : Pu2 K rIsNot notNW := fun σ Gs ss Hs G st H x y a b w Q r e h1 h2 hw q => by
  unfold notNW at hw
  split at hw
  · rename_i k hk'
    cases hw
    obtain ⟨k', e', h⟩ := isN_ok h1 h2 hk'
    cases e'
    rcases h with ⟨z, hk⟩ | ⟨p, p2, z1, z2, hk⟩
    · exact .inl ⟨z, by rw [hk]; exact q.val e (.bl _)⟩
    · exact .inr ⟨p, p2, z1, z2, by rw [hk]; exact q.val e (.bl _)⟩
  · cases hw
end
section
variable {X : Cx} {Wx : WX} {a b c : Expr} {ma mb mc : Ev W} {pos : Pos}
theorem op_is2 : OpR X (compareOp .Is) rIs := op_isN.or op_is_bl
theorem op_isnot2 : OpR X (compareOp .IsNot) rIsNot := op_notN.or op_isnot_bl
end
end Dl

namespace Dl
open PySem PySem.Spec PyProof.Rows L2

/-! ### kept values, displays -/
def aNil : Ev (List D) := okE []
def aCons (m : Ev W) (r : Ev (List D)) : Ev (List D) := bindE m fun w => bindE (keepW w) fun d => bindE r fun ds => okE (d :: ds)
def tupOf (ds : List D) : Ev W := fun st => if ds.length ≤ big then .ok (.val (.tup ds)) st else .stuck
def lstOf (ds : List D) : Ev W := fun st => if ds.length ≤ big then .ok (.fresh (.lst ds)) st else .stuck
section
variable {α : Type} {K : PySem.W.Frag} {mg : Str → Option Value} {σ : Sg} {G G1 G2 : Gh} {Wx : WX} {st st1 st2 : Stt} {H H1 H2 : Hp}
theorem keepW_res {w : W} {k : D → Ev α} {P : α → Stt → Prop} (h : ResP K mg σ G Wx (bindE (keepW w) k st1) P) : ∃ d st2, keepW w st1 = .ok d st2 ∧ ResP K mg σ G Wx (k d st2) P := by
  unfold bindE at h
  cases q : keepW w st1 with
  | stuck => rw [q] at h; exact h.elim
  | ok d st2 => rw [q] at h; exact ⟨d, st2, rfl, h⟩
  | exc x st2 =>
    cases w with
    | val d => cases q
    | fresh d => cases q
    | live i =>
      cases hh : st1.ρ[i]? with
      | none => simp [keepW, hh] at q
      | some z => cases z <;> simp [keepW, hh] at q
/-- the operand is kept, then it goes on -/
theorem stepK {m : Ev W} {k : D → Ev α} {P : α → Stt → Prop} {T : VK} (r : Rel K G st σ H) (x : Ex K σ G st H G1 st1 H1) (h : ResP K mg σ G Wx (bindE m (fun w => bindE (keepW w) k) st1) P)
    (t : ∀ d st2 G2 H2 v, Ex K σ G st H G2 st2 H2 → Fro G1 H1 G2 H2 → Rp K G2 H2 v d → ResP K mg σ G Wx (k d st2) P → T v H2) : upE K mg Wx m σ H1 T :=
  step r x h fun w st2 G2 H2 v x2 x12 rw' h2 => by
    obtain ⟨d, st3, e, h3⟩ := keepW_res h2
    obtain ⟨G3, x3, rd, fr⟩ := keepW_ok r x2 rw' e
    exact t d st3 G3 H2 v x3 ((x12.fro x.rel).trans fr) rd h3
end
section
variable {X : Cx} {Wx : WX} {e : Expr} {es : List Expr} {m : Ev W} {ms : Ev (List D)} {pos : Pos}
theorem da_nil : DA X Wx [] aNil := useA pa_nil fun σ H Q ⟨G, st, rel, h⟩ => h G H [] (.refl rel) .nil
theorem da_cons (he : DE X Wx e m) (hr : DA X Wx es ms) (hs : starEach (e :: es) X.env = (false, eval e X.env) :: starEach es X.env := by rfl) : DA X Wx (e :: es) (aCons m ms) :=
  useA (pa_cons he hr hs) fun σ H Q ⟨G, st, rel, h⟩ => stepK rel (.refl rel) h fun d st2 G2 H2 v x _ r p =>
    stepA rel x p fun ds st3 G3 H3 vs x3 x23 rs q => q G3 H3 _ x3 (.cons (r.mono (x23.fro x.rel)) rs)
theorem de_tup {k} (h : DA X Wx es ms) : DE X Wx (.Tuple es k pos) (bindE ms tupOf) :=
  useE (pe_tup h) fun σ H Q ⟨G, st, rel, h⟩ => stepA rel (.refl rel) h fun ds st2 G2 H2 vs x _ r p => by
    unfold tupOf at p
    split at p
    · rename_i hc
      exact ⟨by rw [r.length]; exact hc, fun q n => p G2 _ _ (x.alloc n) (.tup upd_same (r.mono (upd_fro n)))⟩
    · exact p.elim
theorem de_lst (h : DA X Wx es ms) : DE X Wx (.List es pos) (bindE ms lstOf) :=
  useE (pe_lst h) fun σ H Q ⟨G, st, rel, h⟩ => stepA rel (.refl rel) h fun ds st2 G2 H2 vs x _ r p => by
    unfold lstOf at p
    split at p
    · rename_i hc
      exact ⟨by rw [r.length]; exact hc, fun q n => p G2 _ _ (x.alloc n) ⟨q, rfl, x.back n, x.rel.own n, .lst upd_same (r.mono (upd_fro n))⟩⟩
    · exact p.elim
def newK : Ev W := okE (.fresh (.dct true [] []))
def newT : Ev W := okE (.fresh (.dct false [] []))
theorem de_newK : DE X Wx (.Dict [] [] pos) newK := useE pe_dnewK fun σ H Q ⟨G, st, rel, h⟩ => fun p n =>
  h G _ _ ((Ex.refl rel).alloc n) ⟨p, rfl, n, rel.own n, Bo.dK (kvs := []) upd_same .nil⟩
theorem de_newT : DE X Wx (.Dict [] [] pos) newT := useE pe_dnewT fun σ H Q ⟨G, st, rel, h⟩ => fun p n =>
  h G _ _ ((Ex.refl rel).alloc n) ⟨p, rfl, n, rel.own n, Bo.dT (kvs := []) upd_same .nil⟩
end

/-! ### dicts, read -/
def keyK : D → Option Key
  | .int i => some (.inl i)
  | .str x => some (.inr x)
  | _ => none
def keyKs : List D → Option (List Key)
  | [] => some []
  | d :: r => match keyK d, keyKs r with
    | some k, some ks => some (k :: ks)
    | _, _ => none
def keyT : D → Option (List Key)
  | .tup ds => keyKs ds
  | _ => none
def isKey (t : Bool) (d : D) : Bool := if t then (keyK d).isSome else (keyT d).isSome
def lookL : List D → List D → D → Option D
  | k :: ks, v :: vs, d => if eqd k d = true then some v else lookL ks vs d
  | _, _, _ => none
theorem keyK_eq {d : D} {k : Key} (h : keyK d = some k) : d = kD k := by
  unfold keyK at h
  split at h <;> cases h <;> rfl
theorem keyKs_eq : ∀ {ds : List D} {ks : List Key}, keyKs ds = some ks → ds = ks.map kD
  | [], ks, h => by cases h; rfl
  | d :: r, ks, h => by
    unfold keyKs at h
    split at h
    · rename_i k ks' h1 h2
      cases h
      rw [keyK_eq h1, keyKs_eq h2] <;> rfl
    · cases h
theorem keyT_eq {d : D} {ks : List Key} (h : keyT d = some ks) : d = .tup (ks.map kD) := by
  unfold keyT at h
  split at h
  · rw [keyKs_eq h]
  · cases h
theorem eqd_kD (a b : Key) : eqd (kD a) (kD b) = decide (a = b) := by
  cases a with
  | inl i => cases b with
    | inl j =>
      by_cases e : i = j
      · subst e; simp [kD, eqd]
      · simp [kD, eqd, e]
    | inr j => simp [kD, eqd]
  | inr i => cases b with
    | inl j => simp [kD, eqd]
    | inr j =>
      by_cases e : i = j
      · subst e; simp [kD, eqd]
      · simp [kD, eqd, e]
theorem eqdL_kD : ∀ a b : List Key, eqdL (a.map kD) (b.map kD) = decide (a = b)
  | [], [] => by simp [eqdL]
  | [], _ :: _ => by simp [eqdL]
  | _ :: _, [] => by simp [eqdL]
  | x :: a, y :: b => by
    simp only [List.map_cons, eqdL, eqd_kD, eqdL_kD a b, List.cons.injEq]
    by_cases h1 : x = y <;> by_cases h2 : a = b <;> simp [h1, h2]
section
variable {K : PySem.W.Frag} {G : Gh} {H : Hp}
theorem rp_kD {v : V} {k : Key} (h : Rp K G H v (kD k)) : v = kV k := by
  cases k with
  | inl i => cases h; rfl
  | inr i => cases h; rfl
theorem kD_rp (k : Key) : Rp K G H (kV k) (kD k) := by
  cases k with
  | inl i => exact .int i
  | inr i => exact .str i
theorem rpL_kD : ∀ {vs : List V} {ks : List Key}, RpL K G H vs (ks.map kD) → vs = ks.map kV
  | _, [], h => by cases h; rfl
  | _, k :: ks, h => by
    cases h with
    | cons h1 h2 => rw [rp_kD h1, rpL_kD h2] <;> rfl
theorem lookK : ∀ {kvs : List (Key × V)} {vs : List D} (k : Key), RpL K G H (kvs.map Prod.snd) vs →
    (∃ v d, valV kvs k = some v ∧ lookL (kvs.map fun p => kD p.1) vs (kD k) = some d ∧ Rp K G H v d) ∨ (valV kvs k = none ∧ lookL (kvs.map fun p => kD p.1) vs (kD k) = none)
  | [], _, k, h => by cases h; exact .inr ⟨rfl, rfl⟩
  | p :: kvs, _, k, h => by
    cases h with
    | cons h1 h2 =>
      simp only [List.map_cons, lookL, eqd_kD]
      by_cases e : p.1 = k
      · rw [if_pos (decide_eq_true e), valV_pos e]
        exact .inl ⟨_, _, rfl, rfl, h1⟩
      · rw [if_neg (by simpa using e), valV_neg e]
        exact lookK k h2
theorem lookT : ∀ {kvs : List (List Key × V)} {vs : List D} (k : List Key), RpL K G H (kvs.map Prod.snd) vs →
    (∃ v d, valV kvs k = some v ∧ lookL (kvs.map fun p => .tup (p.1.map kD)) vs (.tup (k.map kD)) = some d ∧ Rp K G H v d) ∨ (valV kvs k = none ∧ lookL (kvs.map fun p => .tup (p.1.map kD)) vs (.tup (k.map kD)) = none)
  | [], _, k, h => by cases h; exact .inr ⟨rfl, rfl⟩
  | p :: kvs, _, k, h => by
    cases h with
    | cons h1 h2 =>
      simp only [List.map_cons, lookL, eqd, eqdL_kD]
      by_cases e : p.1 = k
      · rw [if_pos (decide_eq_true e), valV_pos e]
        exact .inl ⟨_, _, rfl, rfl, h1⟩
      · rw [if_neg (by simpa using e), valV_neg e]
        exact lookT k h2
/-- what a dict holds at a key -/
theorem look_ok {t : Bool} {ks vs : List D} {x y : V} {d : D} (h1 : Hd K G H x (.dct t ks vs)) (h2 : Hd K G H y d) (hk : isKey t d = true) :
    ∃ a o, x = .ref a ∧ DGet H a y o ∧ ((∃ v e, o = some v ∧ lookL ks vs d = some e ∧ Rp K G H v e) ∨ (o = none ∧ lookL ks vs d = none)) := by
  cases t with
  | true =>
    obtain ⟨k, hk⟩ := Option.isSome_iff_exists.mp (show (keyK d).isSome = true from hk)
    have hd := keyK_eq hk
    subst hd
    have ey : y = kV k := by
      rcases h2 with h2 | ⟨b, rfl, h2⟩
      · exact rp_kD h2
      · cases k <;> cases h2
    rcases h1 with h1 | ⟨a, rfl, h1⟩
    · cases h1 with
      | dK f hh r =>
        rename_i a kvs
        refine ⟨a, valV kvs k, rfl, .inl ⟨kvs, k, hh, ey, rfl⟩, ?_⟩
        rcases lookK k r with ⟨v, e, q1, q2, q3⟩ | ⟨q1, q2⟩
        · exact .inl ⟨v, e, q1, q2, q3⟩
        · exact .inr ⟨q1, q2⟩
    · cases h1 with
      | dK hh r =>
        rename_i kvs
        refine ⟨a, valV kvs k, rfl, .inl ⟨kvs, k, .inl hh, ey, rfl⟩, ?_⟩
        rcases lookK k r with ⟨v, e, q1, q2, q3⟩ | ⟨q1, q2⟩
        · exact .inl ⟨v, e, q1, q2, q3⟩
        · exact .inr ⟨q1, q2⟩
  | false =>
    obtain ⟨k, hk⟩ := Option.isSome_iff_exists.mp (show (keyT d).isSome = true from hk)
    have hd := keyT_eq hk
    subst hd
    obtain ⟨b, us, rfl, hb, rb⟩ := h2.tup
    rw [rpL_kD rb] at hb
    rcases h1 with h1 | ⟨a, rfl, h1⟩
    · cases h1 with
      | dT f hh r =>
        rename_i a kvs
        refine ⟨a, valV kvs k, rfl, .inr ⟨kvs, k, b, hh, rfl, hb, rfl⟩, ?_⟩
        rcases lookT k r with ⟨v, e, q1, q2, q3⟩ | ⟨q1, q2⟩
        · exact .inl ⟨v, e, q1, q2, q3⟩
        · exact .inr ⟨q1, q2⟩
    · cases h1 with
      | dT hh r =>
        rename_i kvs
        refine ⟨a, valV kvs k, rfl, .inr ⟨kvs, k, b, .inl hh, rfl, hb, rfl⟩, ?_⟩
        rcases lookT k r with ⟨v, e, q1, q2, q3⟩ | ⟨q1, q2⟩
        · exact .inl ⟨v, e, q1, q2, q3⟩
        · exact .inr ⟨q1, q2⟩
end

/-! ### subscripts -/
def getW : D → D → Option W
  | .tup ds, .int i => (atI ds i).map .val
  | .lst ds, .int i => (atI ds i).map .val
  | .str z, .int i => if z.length ≤ big then (atI z.cps.toList i).map fun c => .val (.str ⟨#[c]⟩) else none
  | .dct t ks vs, d => if isKey t d = true then (lookL ks vs d).map .val else none
  | _, _ => none
section
variable {X : Cx}
theorem ix_dict (hu : X.A.units + 1 < cLine) : IxR X (fun x y H Q => ∃ a v, x = .ref a ∧ DGet H a y (some v) ∧ Q v H) := by
  intro value slice pins s σ H x y v u Q I rx ry h hs
  obtain ⟨a, w', rfl, g, q⟩ := h
  cases rx
  exact tail_any (dict_typeIs I g) PySem.F.slot_dict_getitem.lookup (d_getItem hu I g ry fun z s' I' r' => ⟨w', H, I', r', q⟩) hs
end
def rGet (K : PySem.W.Frag) : R2 := fun x y H Q => rIx K x y H Q ∨ ∃ a v, x = .ref a ∧ DGet H a y (some v) ∧ Q v H
section
variable {K : PySem.W.Frag}
theorem atI_rp {G : Gh} {H : Hp} {vs : List V} {ds : List D} {i : Int} {d : D} (r : RpL K G H vs ds) (h : atI ds i = some d) : ∃ v, atI vs i = some v ∧ Rp K G H v d := by
  unfold atI at h ⊢
  rw [r.length]
  obtain ⟨j, hj, hd⟩ := Option.bind_eq_some_iff.mp h
  obtain ⟨v, h1, h2⟩ := r.get hd
  exact ⟨v, by rw [hj]; exact h1, h2⟩
theorem pu_get : Pu2 K (rGet K) getW := fun σ Gs ss Hs G st H x y a b w Q r e h1 h2 hw q => by
  unfold getW at hw
  split at hw
  · obtain ⟨d, hd, rfl⟩ := Option.map_eq_some_iff.mp hw
    obtain ⟨p, vs, rfl, hp, rl⟩ := h1.tup
    obtain ⟨v, hv, rv⟩ := atI_rp rl hd
    exact .inl (.inr (.inl ⟨p, vs, _, v, rfl, h2.int, .of hp, hv, q.val e rv⟩))
  · obtain ⟨d, hd, rfl⟩ := Option.map_eq_some_iff.mp hw
    obtain ⟨p, vs, rfl, hp, rl⟩ := h1.lst
    obtain ⟨v, hv, rv⟩ := atI_rp rl hd
    exact .inl (.inl ⟨p, vs, _, v, rfl, h2.int, .of hp, hv, q.val e rv⟩)
  · split at hw
    · rename_i hc
      obtain ⟨c, hd, rfl⟩ := Option.map_eq_some_iff.mp hw
      exact .inl (.inr (.inr ⟨_, _, c, h1.str, h2.int, hc, hd, q.val e (.str _)⟩))
    · cases hw
  · split at hw
    · rename_i hk
      obtain ⟨d, hd, rfl⟩ := Option.map_eq_some_iff.mp hw
      obtain ⟨p, o, rfl, g, h⟩ := look_ok h1 h2 hk
      rcases h with ⟨v, d', rfl, l, rv⟩ | ⟨_, l⟩
      · rw [hd] at l
        cases l
        exact .inr ⟨p, v, rfl, g, q.val e rv⟩
      · rw [hd] at l; cases l
    · cases hw
  · cases hw
end
section
variable {X : Cx} {Wx : WX} {a b c : Expr} {ma mb mc : Ev W} {pos : Pos}
theorem de_ix (hu : X.A.units + 1 < cLine) (ha : DE X Wx a ma) (hb : DE X Wx b mb) (hs : PlainIx b := by intro _ _; rfl) : DE X Wx (.Subscript a b pos) (op2 getW ma mb) :=
  de_sub (ix_seq.or (ix_dict hu)) pu_get hs ha hb
end

/-! ### slices -/
def cutD (xs : List D) (lo hi : Option Int) : List D := (xs.drop (HT.sIx xs.length 0 lo)).take (HT.sIx xs.length xs.length hi - HT.sIx xs.length 0 lo)
def oNone : Ev (Option Int) := okE none
def oSome (m : Ev W) : Ev (Option Int) := bindE m fun w st => match content st w with
  | some (.int i) => .ok (some i) st
  | _ => .stuck
def upO (K : PySem.W.Frag) (mg : Str → Option Value) (Wx : WX) (m : Ev (Option Int)) : TO := fun σ H Q => ∃ G st, Rel K G st σ H ∧
  ResP K mg σ G Wx (m st) fun o st' => ∀ G' H', Ex K σ G st H G' st' H' → Q o H'
abbrev DO (X : Cx) (Wx : WX) (e : Option Expr) (m : Ev (Option Int)) : Prop := PO X e (upO X.K X.mg Wx m)
def cutW (d : D) (lo hi : Option Int) : Option W := match d with
  | .tup ds => some (.val (.tup (cutD ds lo hi)))
  | .lst ds => some (.fresh (.lst (cutD ds lo hi)))
  | .str z => if z.length ≤ big then some (.val (.str (cutS z lo hi))) else none
  | _ => none
def sliceE (m : Ev W) (l h : Ev (Option Int)) : Ev W := bindE m fun w => bindE l fun lo => bindE h fun hi => app1 (fun d => cutW d lo hi) w
section
variable {K : PySem.W.Frag} {mg : Str → Option Value} {σ : Sg} {G G1 G2 : Gh} {Wx : WX} {st st1 st2 : Stt} {H H1 H2 : Hp}
theorem cut_rp {vs : List V} {ds : List D} (r : RpL K G H vs ds) (lo hi : Option Int) : RpL K G H (cutV vs lo hi) (cutD ds lo hi) := by
  unfold cutV cutD
  rw [r.length]
  exact (r.drop _).take _
theorem cutV_whole {vs : List V} {lo hi : Option Int} (h : HT.sIx vs.length 0 lo = 0 ∧ HT.sIx vs.length vs.length hi = vs.length) : cutV vs lo hi = vs := by
  unfold cutV
  rw [h.1, h.2]
  simp
theorem stepO {α : Type} {m : Ev (Option Int)} {k : Option Int → Ev α} {P : α → Stt → Prop} {T : Option Int → Hp → Prop} (r : Rel K G st σ H) (x : Ex K σ G st H G1 st1 H1) (h : ResP K mg σ G Wx (bindE m k st1) P)
    (t : ∀ o st2 G2 H2, Ex K σ G st H G2 st2 H2 → Ex K σ G1 st1 H1 G2 st2 H2 → ResP K mg σ G Wx (k o st2) P → T o H2) : upO K mg Wx m σ H1 T :=
  ⟨G1, st1, x.rel, ((ResP.bind h).bs x.bs).imp fun w st2 _ hp G2 H2 y => t w st2 G2 H2 (x.trans r y) y hp⟩
end
def rCut (K : PySem.W.Frag) : V → Option Int → Option Int → Hp → VK → Prop := fun x lo hi H Q => rSlL K x lo hi H Q ∨ rSlA K x lo hi H Q ∨ rSlS x lo hi H Q
section
variable {X : Cx} {Wx : WX} {a b : Expr} {lo hi : Option Expr} {ma : Ev W} {ml mh : Ev (Option Int)} {pos p2 : Pos}
theorem do_none : DO X Wx none oNone := ⟨fun pins s σ H Q I ⟨G, st, rel, h⟩ => po_none.run pins s σ H Q I (h G H (.refl rel))⟩
theorem do_some {e : Expr} {m : Ev W} (he : DE X Wx e m) : DO X Wx (some e) (oSome m) := ⟨fun pins s σ H Q I ⟨G, st, rel, h⟩ => (po_some he).run pins s σ H Q I
  (step rel (.refl rel) h fun w st1 G1 H1 v x _ r p => by
    split at p
    · rename_i i e
      exact ⟨i, (r.hd x.rel e).int, p G1 H1 x⟩
    · exact p.elim)⟩
theorem de_slice (ha : DE X Wx a ma) (hl : DO X Wx lo ml) (hh : DO X Wx hi mh) : DE X Wx (.Subscript a (.Slice lo hi none p2) pos) (sliceE ma ml mh) :=
  useE (pe_slice (sl_list.or (sl_tupA.or sl_str)) ha hl hh) fun σ H Q ⟨G, st, rel, h⟩ =>
    step rel (.refl rel) h fun w st1 G1 H1 v x1 _ r1 h1 =>
    stepO rel x1 h1 fun l st2 G2 H2 x2 x12 h2 =>
    stepO rel x2 h2 fun u st3 G3 H3 x3 x23 h3 => by
      obtain ⟨d, w', e1, e2, q⟩ := app1_ok h3
      have hd := ((r1.mono rel x1 x12).mono rel x2 x23).hd x3.rel e1
      unfold cutW at e2
      split at e2
      · cases e2
        obtain ⟨p, vs, rfl, hp, rl⟩ := hd.tup
        refine .inr (.inl ⟨p, vs, rfl, .of hp, fun z => ?_, fun _ k n => q G3 _ _ (x3.alloc n) (.tup upd_same ((cut_rp rl l u).mono (upd_fro n)))⟩)
        have rl' := cut_rp rl l u
        rw [cutV_whole z] at rl'
        exact q G3 H3 _ x3 (.tup hp rl')
      · cases e2
        obtain ⟨p, vs, rfl, hp, rl⟩ := hd.lst
        exact .inl ⟨p, vs, rfl, .of hp, fun k n => q G3 _ _ (x3.alloc n) ⟨k, rfl, x3.back n, x3.rel.own n, .lst upd_same ((cut_rp rl l u).mono (upd_fro n))⟩⟩
      · split at e2
        · rename_i hc
          cases e2
          exact .inr (.inr ⟨_, hd.str, hc, q G3 H3 _ x3 (.str _)⟩)
        · cases e2
      · cases e2
end

/-! ### in, not in -/
def inB (a b : D) : Option Bool := match b with
  | .lst ds => if okD 64 a = true ∧ okD 64 (.lst ds) = true then some (ds.any fun z => eqd z a) else none
  | .tup ds => if okD 64 a = true ∧ okD 64 (.tup ds) = true then some (ds.any fun z => eqd z a) else none
  | .dct t ks vs => if isKey t a = true then some (lookL ks vs a).isSome else none
  | _ => none
def inW (a b : D) : Option W := (inB a b).map fun k => .val (.bl k)
def notInW (a b : D) : Option W := (inB a b).map fun k => .val (.bl (!k))
def rInA (K : PySem.W.Frag) (neg : Bool) : R2 := fun x y H Q =>
  (∃ d ds, Dp K H x d ∧ Dp K H y (.list ds) ∧ SeqAt.shaped d = true ∧ SeqAt.shaped (.list ds) = true ∧ Q (.bl (neg ^^ ds.any fun z => PyData.eqv z d)) H) ∨
  (∃ d ds, Dp K H x d ∧ Dp K H y (.tuple ds) ∧ SeqAt.shaped d = true ∧ SeqAt.shaped (.tuple ds) = true ∧ Q (.bl (neg ^^ ds.any fun z => PyData.eqv z d)) H) ∨
  ∃ a o, y = .ref a ∧ DGet H a x o ∧ Q (.bl (neg ^^ o.isSome)) H
section
variable {X : Cx}
theorem op_inA (hu : X.A.units + 65 < cLine) : OpR X (compareOp .In) (rInA X.K false) := by
  intro pins s σ H x y v u Q I rx ry h
  rcases h with ⟨d, ds, hd, he, sd, se, q⟩ | ⟨d, ds, hd, he, sd, se, q⟩ | ⟨a, o, rfl, g, q⟩
  · simp only [Bool.false_xor] at q
    obtain ⟨as, r1⟩ := Dp.reads I d x v hd rx
    obtain ⟨bs, r2⟩ := Dp.reads I (.list ds) y u he ry
    exact SeqAt.in_list_reads r2 r1 (SeqAt.canLay_of_shaped se) (SeqAt.canLay_of_shaped sd) (room_in_shaped sd hu) ⟨.bl _, H, I, rfl, q⟩
  · simp only [Bool.false_xor] at q
    obtain ⟨as, r1⟩ := Dp.reads I d x v hd rx
    obtain ⟨bs, r2⟩ := Dp.reads I (.tuple ds) y u he ry
    exact SeqAt.in_tuple_reads r2 r1 (SeqAt.canLay_of_shaped se) (SeqAt.canLay_of_shaped sd) (room_in_shaped sd hu) ⟨.bl _, H, I, rfl, q⟩
  · simp only [Bool.false_xor] at q
    cases ry
    exact d_in (by omega) I g rx fun s' I' => ⟨.bl o.isSome, H, I', rfl, q⟩
theorem op_notInA (hu : X.A.units + 65 < cLine) : OpR X (compareOp .NotIn) (rInA X.K true) := by
  intro pins s σ H x y v u Q I rx ry h
  rcases h with ⟨d, ds, hd, he, sd, se, q⟩ | ⟨d, ds, hd, he, sd, se, q⟩ | ⟨a, o, rfl, g, q⟩
  · simp only [Bool.true_xor] at q
    obtain ⟨as, r1⟩ := Dp.reads I d x v hd rx
    obtain ⟨bs, r2⟩ := Dp.reads I (.list ds) y u he ry
    exact SeqAt.notIn_list_reads r2 r1 (SeqAt.canLay_of_shaped se) (SeqAt.canLay_of_shaped sd) (room_in_shaped sd hu) ⟨.bl _, H, I, rfl, q⟩
  · simp only [Bool.true_xor] at q
    obtain ⟨as, r1⟩ := Dp.reads I d x v hd rx
    obtain ⟨bs, r2⟩ := Dp.reads I (.tuple ds) y u he ry
    exact SeqAt.notIn_tuple_reads r2 r1 (SeqAt.canLay_of_shaped se) (SeqAt.canLay_of_shaped sd) (room_in_shaped sd hu) ⟨.bl _, H, I, rfl, q⟩
  · simp only [Bool.true_xor] at q
    cases ry
    exact d_notIn (by omega) I g rx fun s' I' => ⟨.bl (!o.isSome), H, I', rfl, q⟩
end
section
variable {K : PySem.W.Frag}
theorem any_py : ∀ (n : Nat) (ds : List D) (a : D), (∀ d ∈ ds, okD n d = true) → okD 64 a = true → ((pyL ds).any fun z => PyData.eqv z (py a)) = ds.any fun z => eqd z a
  | n, [], a, _, _ => by simp [pyL]
  | n, d :: ds, a, h, ha => by
    simp only [pyL, List.any_cons]
    rw [eqv_py n 64 d a (h d List.mem_cons_self) ha, any_py n ds a (fun x hx => h x (List.mem_cons_of_mem _ hx)) ha]
theorem in_ok {neg : Bool} {σ : Sg} {Gs G : Gh} {ss st : Stt} {Hs H : Hp} {x y : V} {a b : D} {k : Bool} {Q : VK} (e : Ex K σ Gs ss Hs G st H) (h1 : Hd K G H x a) (h2 : Hd K G H y b) (hw : inB a b = some k)
    (q : Ans K σ Gs ss Hs G st H (.val (.bl (neg ^^ k))) Q) : rInA K neg x y H Q := by
  unfold inB at hw
  split at hw
  · rename_i ds
    split at hw
    · rename_i hc
      cases hw
      have d2 := h2.dp hc.2
      simp only [py] at d2
      have s2 := okD_shaped hc.2
      simp only [py] at s2
      refine .inl ⟨_, _, h1.dp hc.1, d2, okD_shaped hc.1, s2, ?_⟩
      have o2 := hc.2
      simp only [okD, List.all_eq_true] at o2
      rw [any_py 63 ds a o2 hc.1]
      exact q.val e (.bl _)
    · cases hw
  · rename_i ds
    split at hw
    · rename_i hc
      cases hw
      have d2 := h2.dp hc.2
      simp only [py] at d2
      have s2 := okD_shaped hc.2
      simp only [py] at s2
      refine .inr (.inl ⟨_, _, h1.dp hc.1, d2, okD_shaped hc.1, s2, ?_⟩)
      have o2 := hc.2
      simp only [okD, List.all_eq_true] at o2
      rw [any_py 63 ds a o2 hc.1]
      exact q.val e (.bl _)
    · cases hw
  · split at hw
    · rename_i hk
      cases hw
      obtain ⟨p, o, rfl, g, h⟩ := look_ok h2 h1 hk
      refine .inr (.inr ⟨p, o, rfl, g, ?_⟩)
      rcases h with ⟨v, d', rfl, l, rv⟩ | ⟨rfl, l⟩
      · rw [l] at q
        exact q.val e (.bl _)
      · rw [l] at q
        exact q.val e (.bl _)
    · cases hw
  · cases hw
theorem pu_in : Pu2 K (rInA K false) inW := fun σ Gs ss Hs G st H x y a b w Q r e h1 h2 hw q => by
  obtain ⟨k, hk, rfl⟩ := Option.map_eq_some_iff.mp hw
  exact in_ok e h1 h2 hk (by rw [Bool.false_xor]; exact q)
theorem pu_notIn : Pu2 K (rInA K true) notInW := fun σ Gs ss Hs G st H x y a b w Q r e h1 h2 hw q => by
  obtain ⟨k, hk, rfl⟩ := Option.map_eq_some_iff.mp hw
  exact in_ok e h1 h2 hk (by rw [Bool.true_xor]; exact q)
end
end Dl

namespace Dl
open PySem PySem.Spec PyProof.Rows L2

/-! ### statements -/
inductive Fl where
  | next | ret (d : D) | brk | cont
/-- what stands is kept, in the same def -/
structure Gt (G : Gh) (H : Hp) (G' : Gh) (H' : Hp) : Prop where
  bs : Bs G G'
  fro : Fro G H G' H'
theorem Gt.refl {G : Gh} {H : Hp} : Gt G H G H := ⟨.refl, .refl⟩
theorem Gt.trans {G G1 G2 : Gh} {H H1 H2 : Hp} (x : Gt G H G1 H1) (y : Gt G1 H1 G2 H2) : Gt G H G2 H2 := ⟨x.bs.trans y.bs, x.fro.trans y.fro⟩
theorem Ex.gt {K : PySem.W.Frag} {σ : Sg} {G G' : Gh} {st st' : Stt} {H H' : Hp} (r : Rel K G st σ H) (x : Ex K σ G st H G' st' H') : Gt G H G' H' := ⟨x.bs, x.fro r⟩
def FOk (K : PySem.W.Frag) (G : Gh) (H : Hp) (D' : Ends) (f : Fl) (st' : Stt) : Prop :=
  match f with
  | .next => ∀ G' σ' H', Rel K G' st' σ' H' → Gt G H G' H' → D'.nx σ' H'
  | .ret d => ∀ G' σ' H' v, Rel K G' st' σ' H' → Gt G H G' H' → Rp K G' H' v d → D'.rt v H'
  | .brk => ∀ G' σ' H', Rel K G' st' σ' H' → Gt G H G' H' → D'.bk σ' H'
  | .cont => ∀ G' σ' H', Rel K G' st' σ' H' → Gt G H G' H' → D'.ct σ' H'
def SRes (K : PySem.W.Frag) (mg : Str → Option Value) (Wx : WX) (G : Gh) (H : Hp) (r : R Fl) (D' : Ends) : Prop :=
  match r with
  | .stuck => False
  | .ok f st' => FOk K G H D' f st'
  | .exc x st' => ∀ G' σ' H' cl dx, Rel K G' st' σ' H' → Bs G G' → RpX K mg G' H' x cl dx → Wx cl dx σ' H'
def upS (K : PySem.W.Frag) (mg : Str → Option Value) (Wx : WX) (m : Ev Fl) : TS := fun D' σ H => ∃ G st, Rel K G st σ H ∧ SRes K mg Wx G H (m st) D'
abbrev DS (X : Cx) (Wx : WX) (s : Stmt) (m : Ev Fl) : Prop := PS X s (upS X.K X.mg Wx m)
abbrev DSs (X : Cx) (Wx : WX) (s : List Stmt) (m : Ev Fl) : Prop := PSs X s (upS X.K X.mg Wx m)
section
variable {K : PySem.W.Frag} {mg : Str → Option Value} {Wx : WX} {G G1 : Gh} {H H1 : Hp} {D' D1 : Ends} {r : R Fl} {σ : Sg} {st : Stt}
theorem SRes.gt (g : Gt G H G1 H1) (h : SRes K mg Wx G H r D') : SRes K mg Wx G1 H1 r D' := by
  cases r with
  | stuck => exact h
  | ok f st' =>
    cases f with
    | next => exact fun G' σ' H' q k => h G' σ' H' q (g.trans k)
    | ret d => exact fun G' σ' H' v q k => h G' σ' H' v q (g.trans k)
    | brk => exact fun G' σ' H' q k => h G' σ' H' q (g.trans k)
    | cont => exact fun G' σ' H' q k => h G' σ' H' q (g.trans k)
  | exc x st' => exact fun G' σ' H' cl dx q b => h G' σ' H' cl dx q (g.bs.trans b)
end
def seqS (m n : Ev Fl) : Ev Fl := fun st => match m st with
  | .ok .next st1 => n st1
  | r => r
section
variable {X : Cx} {Wx : WX} {s : Stmt} {ss tt : List Stmt} {m n : Ev Fl} {e c : Expr} {me : Ev W} {mb : Ev Bool} {pos : Pos}
theorem dss_nil : DSs X Wx [] (okE .next) := useSs pss_nil fun D' σ H ⟨G, st, rel, h⟩ => h G σ H rel .refl
theorem dss_cons (h1 : DS X Wx s m) (h2 : DSs X Wx ss n) : DSs X Wx (s :: ss) (seqS m n) := useSs (pss_cons h1 h2) fun D' σ H ⟨G, st, rel, h⟩ => by
  refine ⟨G, st, rel, ?_⟩
  unfold seqS at h
  cases q : m st with
  | stuck => rw [q] at h; exact h
  | exc x st' => rw [q] at h; exact h
  | ok f st' =>
    rw [q] at h
    cases f with
    | next => exact fun G' σ' H' r g => ⟨G', st', r, h.gt g⟩
    | ret d => exact h
    | brk => exact h
    | cont => exact h
theorem dss_one (h1 : DS X Wx s m) : DSs X Wx [s] m := pss_one h1
theorem ds_pass : DS X Wx (.Pass pos) (okE .next) := useS ps_pass fun D' σ H ⟨G, st, rel, h⟩ => h G σ H rel .refl
theorem ds_break : DS X Wx (.Break pos) (okE .brk) := useS ps_break fun D' σ H ⟨G, st, rel, h⟩ => h G σ H rel .refl
theorem ds_continue : DS X Wx (.Continue pos) (okE .cont) := useS ps_continue fun D' σ H ⟨G, st, rel, h⟩ => h G σ H rel .refl
/-- the answer of an expression's mirror becomes a statement's -/
def toS (m : Ev W) (k : W → Ev Fl) : Ev Fl := bindE m k
theorem sres_bind {α : Type} {K : PySem.W.Frag} {mg : Str → Option Value} {σ : Sg} {G : Gh} {st : Stt} {H : Hp} {D' : Ends} {m : Ev α} {k : α → Ev Fl} (h : SRes K mg Wx G H (bindE m k st) D') :
    ResP K mg σ G Wx (m st) fun a st1 => SRes K mg Wx G H (k a st1) D' := by
  unfold bindE at h
  cases q : m st with
  | stuck => rw [q] at h; exact h
  | ok a s => rw [q] at h; exact h
  | exc x s => rw [q] at h; exact fun G' H' cl dx r b q => h G' σ H' cl dx r b q
/-- an expression at a statement's start -/
theorem stepS {K : PySem.W.Frag} {mg : Str → Option Value} {σ : Sg} {G : Gh} {st : Stt} {H : Hp} {D' : Ends} {m : Ev W} {k : W → Ev Fl} {T : VK} (r : Rel K G st σ H) (h : SRes K mg Wx G H (bindE m k st) D')
    (t : ∀ w st1 G1 H1 v, Ex K σ G st H G1 st1 H1 → RpW K G1 H1 st1 σ H w v → SRes K mg Wx G H (k w st1) D' → T v H1) : upE K mg Wx m σ H T :=
  ⟨G, st, r, (sres_bind h).imp fun w st1 _ hp G1 H1 v x rw' => t w st1 G1 H1 v x rw' hp⟩
theorem stepST {K : PySem.W.Frag} {mg : Str → Option Value} {σ : Sg} {G : Gh} {st : Stt} {H : Hp} {D' : Ends} {m : Ev Bool} {k : Bool → Ev Fl} {T : Bool → Hp → Prop} (r : Rel K G st σ H) (h : SRes K mg Wx G H (bindE m k st) D')
    (t : ∀ b st1 G1 H1, Ex K σ G st H G1 st1 H1 → SRes K mg Wx G H (k b st1) D' → T b H1) : upT K mg Wx m σ H T :=
  ⟨G, st, r, (sres_bind h).imp fun w st1 _ hp G1 H1 x => t w st1 G1 H1 x hp⟩
theorem keepW_sres {K : PySem.W.Frag} {mg : Str → Option Value} {G : Gh} {H : Hp} {D' : Ends} {w : W} {k : D → Ev Fl} {st1 : Stt} (h : SRes K mg Wx G H (bindE (keepW w) k st1) D') : ∃ d st2, keepW w st1 = .ok d st2 ∧ SRes K mg Wx G H (k d st2) D' := by
  unfold bindE at h
  cases q : keepW w st1 with
  | stuck => rw [q] at h; exact h.elim
  | ok d st2 => rw [q] at h; exact ⟨d, st2, rfl, h⟩
  | exc x st2 =>
    cases w with
    | val d => cases q
    | fresh d => cases q
    | live i =>
      cases hh : st1.ρ[i]? with
      | none => simp [keepW, hh] at q
      | some z => cases z <;> simp [keepW, hh] at q
def exprS (m : Ev W) : Ev Fl := bindE m fun _ => okE .next
theorem ds_expr (he : DE X Wx e me) (hs : swapsWith e none pos.line X.env = pure false := by rfl) : DS X Wx (.Expr e pos) (exprS me) :=
  useS (ps_expr he hs) fun D' σ H ⟨G, st, rel, h⟩ => stepS rel h fun w st1 G1 H1 v x _ p => p G1 σ H1 x.rel (x.gt rel)
def retS (m : Ev W) : Ev Fl := bindE m fun w => bindE (keepW w) fun d => okE (.ret d)
theorem ds_ret (he : DE X Wx e me) : DS X Wx (.Return (some e) pos) (retS me) :=
  useS (ps_ret he) fun D' σ H ⟨G, st, rel, h⟩ => stepS rel h fun w st1 G1 H1 v x r p => by
    obtain ⟨d, st2, e, p2⟩ := keepW_sres p
    obtain ⟨G2, x2, rd, fr⟩ := keepW_ok rel x r e
    exact p2 G2 σ H1 v x2.rel (x2.gt rel) rd
theorem ds_retN : DS X Wx (.Return none pos) (okE (.ret .non)) := useS ps_retN fun D' σ H ⟨G, st, rel, h⟩ => h G σ H .non rel .refl .non
def ifS (c : Ev Bool) (m n : Ev Fl) : Ev Fl := bindE c fun b => if b = true then m else n
theorem ds_if {a b : List Stmt} (hc : DT X Wx c mb) (ha : DSs X Wx a m) (hb : DSs X Wx b n) : DS X Wx (.If c a b pos) (ifS mb m n) :=
  useS (ps_if hc ha hb) fun D' σ H ⟨G, st, rel, h⟩ => stepST rel h fun k st1 G1 H1 x p => by
    cases k with
    | true => exact ⟨G1, st1, x.rel, p.gt (x.gt rel)⟩
    | false => exact ⟨G1, st1, x.rel, p.gt (x.gt rel)⟩
/-- code that is never reached: its mirror is stuck -/
theorem dss_never : DSs X Wx ss (fun _ => .stuck) := useSs pss_never fun D' σ H ⟨G, st, rel, h⟩ => h
theorem ds_never : DS X Wx s (fun _ => .stuck) := useS ps_never fun D' σ H ⟨G, st, rel, h⟩ => h
end

/-! ### names are stored -/
def Stt.put (st : Stt) (i : Nat) (s : Slot) : Stt := { st with ρ := st.ρ.set i s }
/-- the store of what an expression gave -/
def setW (i : Nat) (w : W) : Ev Fl := fun st => match w with
  | .fresh d => .ok .next (st.put i (.lv d))
  | .val d => .ok .next (st.put i (.fz d))
  | .live j => match st.ρ[j]? with
    | some (.lv d) => .ok .next ((st.frz j d).put i (.fz d))
    | some (.fz d) => .ok .next (st.put i (.fz d))
    | _ => .stuck
section
variable {K : PySem.W.Frag} {σ : Sg} {G : Gh} {st : Stt} {H : Hp}
theorem Rel.putFz (r : Rel K G st σ H) {i : Nat} {v : V} {d : D} (h : Rp K G H v d) : Rel K G (st.put i (.fz d)) (σ.set i (some v)) H := by
  refine ⟨r.g, r.dko, by show (st.ρ.set i _).length = _; rw [List.length_set, List.length_set]; exact r.len, fun j e q => ?_, fun j e q => ?_, fun j k d1 d2 a q1 q2 s1 s2 => ?_⟩
  · rcases getSet q with ⟨rfl, z, hl⟩ | ⟨n, q⟩
    · cases z
      exact ⟨v, by rw [List.getElem?_set_self (by rw [← r.len]; exact hl)], h⟩
    · obtain ⟨v', s, p⟩ := r.fz j e q
      exact ⟨v', by rw [List.getElem?_set_ne (Ne.symm n)]; exact s, p⟩
  · rcases getSet q with ⟨rfl, z, hl⟩ | ⟨n, q⟩
    · cases z
    · obtain ⟨a, s, o, p⟩ := r.lv j e q
      exact ⟨a, by rw [List.getElem?_set_ne (Ne.symm n)]; exact s, o, p⟩
  · rcases getSet q1 with ⟨rfl, z, _⟩ | ⟨n1, q1⟩
    · cases z
    · rcases getSet q2 with ⟨rfl, z, _⟩ | ⟨n2, q2⟩
      · cases z
      · rw [List.getElem?_set_ne (Ne.symm n1)] at s1
        rw [List.getElem?_set_ne (Ne.symm n2)] at s2
        exact r.ap j k d1 d2 a q1 q2 s1 s2
theorem Rel.putLv (r : Rel K G st σ H) {i : Nat} {a : Addr} {d : D} (o : Own G a) (b : Bo K G H a d) (n : ¬ LiveAt st σ a) : Rel K G (st.put i (.lv d)) (σ.set i (some (.ref a))) H := by
  refine ⟨r.g, r.dko, by show (st.ρ.set i _).length = _; rw [List.length_set, List.length_set]; exact r.len, fun j e q => ?_, fun j e q => ?_, fun j k d1 d2 c q1 q2 s1 s2 => ?_⟩
  · rcases getSet q with ⟨rfl, z, hl⟩ | ⟨n, q⟩
    · cases z
    · obtain ⟨v', s, p⟩ := r.fz j e q
      exact ⟨v', by rw [List.getElem?_set_ne (Ne.symm n)]; exact s, p⟩
  · rcases getSet q with ⟨rfl, z, hl⟩ | ⟨n, q⟩
    · cases z
      exact ⟨a, by rw [List.getElem?_set_self (by rw [← r.len]; exact hl)], o, b⟩
    · obtain ⟨a', s, o', p⟩ := r.lv j e q
      exact ⟨a', by rw [List.getElem?_set_ne (Ne.symm n)]; exact s, o', p⟩
  · have here : ∀ {k : Nat}, k = i → i < st.ρ.length → (σ.set i (some (.ref a)))[k]? = some (some (.ref c)) → a = c := fun {k} e hl s => by
      subst e
      rw [List.getElem?_set_self (by rw [← r.len]; exact hl)] at s
      cases s
      rfl
    rcases getSet q1 with ⟨e1, z, hl⟩ | ⟨n1, q1⟩
    · rcases getSet q2 with ⟨e2, z2, _⟩ | ⟨n2, q2⟩
      · rw [e1, e2]
      · have := here e1 hl s1
        subst this
        rw [List.getElem?_set_ne (Ne.symm n2)] at s2
        exact absurd ⟨k, d2, q2, s2⟩ n
    · rcases getSet q2 with ⟨e2, z2, hl⟩ | ⟨n2, q2⟩
      · have := here e2 hl s2
        subst this
        rw [List.getElem?_set_ne (Ne.symm n1)] at s1
        exact absurd ⟨j, d1, q1, s1⟩ n
      · rw [List.getElem?_set_ne (Ne.symm n1)] at s1
        rw [List.getElem?_set_ne (Ne.symm n2)] at s2
        exact r.ap j k d1 d2 c q1 q2 s1 s2
theorem setW_ok {mg : Str → Option Value} {Wx : WX} {G1 : Gh} {st1 : Stt} {H1 : Hp} {D' : Ends} {i : Nat} {w : W} {v : V} (r : Rel K G st σ H) (x : Ex K σ G st H G1 st1 H1) (h : RpW K G1 H1 st1 σ H w v) (p : SRes K mg Wx G H (setW i w st1) D') :
    D'.nx (σ.set i (some v)) H1 := by
  cases w with
  | val d => exact p G1 _ H1 (x.rel.putFz h) (x.gt r)
  | fresh d =>
    obtain ⟨a, rfl, hs, o, b⟩ := h
    exact p G1 _ H1 (x.rel.putLv o b (fresh_nl r x hs)) (x.gt r)
  | live j =>
    obtain ⟨s, d, q | q⟩ := h
    · simp only [setW, q] at p
      obtain ⟨a, s', o, b⟩ := x.rel.lv j d q
      rw [s] at s'
      cases s'
      have x2 := x.frzLive q s o b
      exact p _ _ H1 (x2.rel.putFz (Bo.rp (.inr rfl) (b.mono frz_fro rfl))) (x2.gt r)
    · simp only [setW, q] at p
      obtain ⟨v', s', b⟩ := x.rel.fz j d q
      rw [s] at s'
      cases s'
      exact p G1 _ H1 (x.rel.putFz b) (x.gt r)
end
def setS (i : Nat) (m : Ev W) : Ev Fl := bindE m (setW i)
section
variable {X : Cx} {Wx : WX} {e : Expr} {me : Ev W} {pos pos' : Pos}
theorem ds_set {i : Nat} {x : Str} (hN : X.N.Nodup) (hi : X.N[i]? = some x) (hx : Loc X.env.scope x) (he : DE X Wx e me) (hs : swapsWith e (some (.Name x pos')) pos.line X.env = pure false := by rfl)
    (hf : X.fn x = true ∨ X.env.scope.names.lookup x = some .local := by first | exact .inl rfl | exact .inr rfl | assumption) : DS X Wx (.Assign [.Name x pos'] e pos) (setS i me) :=
  useS (ps_set hN hi hx he hs hf) fun D' σ H ⟨G, st, rel, h⟩ => stepS rel h fun w st1 G1 H1 v x r p => setW_ok rel x r p
end

/-! ### targets of a value that stands -/
/-- the same names' places but those of is -/
structure Out (is : List Nat) (σ σ' : Sg) : Prop where
  len : σ'.length = σ.length
  aw : ∀ j, j ∉ is → σ'[j]? = σ[j]?
theorem Out.refl {is : List Nat} {σ : Sg} : Out is σ σ := ⟨rfl, fun _ _ => rfl⟩
theorem Out.trans {is js : List Nat} {σ σ1 σ2 : Sg} (a : Out is σ σ1) (b : Out js σ1 σ2) : Out (is ++ js) σ σ2 :=
  ⟨b.len.trans a.len, fun j h => (b.aw j fun z => h (List.mem_append_right _ z)).trans (a.aw j fun z => h (List.mem_append_left _ z))⟩
def upG (K : PySem.W.Frag) (is : List Nat) (g : D → Stt → Option Stt) : TG := fun v σ H Q => ∃ G st d st', Rel K G st σ H ∧ Rp K G H v d ∧ g d st = some st' ∧ ∀ σ', Rel K G st' σ' H → Out is σ σ' → Q σ' H
def upGs (K : PySem.W.Frag) (is : List Nat) (g : List D → Stt → Option Stt) : TGs := fun vs σ H Q => ∃ G st ds st', Rel K G st σ H ∧ RpL K G H vs ds ∧ g ds st = some st' ∧ ∀ σ', Rel K G st' σ' H → Out is σ σ' → Q σ' H
abbrev DG (X : Cx) (tg : Expr) (is : List Nat) (g : D → Stt → Option Stt) : Prop := PG X tg (upG X.K is g)
abbrev DGs (X : Cx) (tgs : List Expr) (is : List Nat) (g : List D → Stt → Option Stt) : Prop := PGs X tgs (upGs X.K is g)
theorem useG {X : Cx} {e : Expr} {t t' : TG} (h : PG X e t) (i : ∀ v σ H Q, t' v σ H Q → t v σ H Q) : PG X e t' := ⟨fun pins s σ H v u Q I r q => h.run pins s σ H v u Q I r (i v σ H Q q)⟩
theorem useGs {X : Cx} {e : List Expr} {t t' : TGs} (h : PGs X e t) (i : ∀ v σ H Q, t' v σ H Q → t v σ H Q) : PGs X e t' := ⟨fun pins s σ H v u Q I r q => h.run pins s σ H v u Q I r (i v σ H Q q)⟩
def nmG (i : Nat) : D → Stt → Option Stt := fun d st => some (st.put i (.fz d))
def nilG : List D → Stt → Option Stt
  | [], st => some st
  | _, _ => none
def consG (g : D → Stt → Option Stt) (h : List D → Stt → Option Stt) : List D → Stt → Option Stt
  | d :: r, st => (g d st).bind (h r)
  | [], _ => none
/-- a tuple of so many items -/
def tupG (n : Nat) (g : List D → Stt → Option Stt) : D → Stt → Option Stt
  | .tup ds, st => if ds.length = n then g ds st else none
  | _, _ => none
section
variable {X : Cx} {tg : Expr} {tgs : List Expr} {is js : List Nat} {g : D → Stt → Option Stt} {h : List D → Stt → Option Stt} {pos : Pos}
theorem dg_name {i : Nat} {x : Str} (hN : X.N.Nodup) (hi : X.N[i]? = some x) (hx : Loc X.env.scope x) (hf : X.fn x = true ∨ X.env.scope.names.lookup x = some .local := by first | exact .inl rfl | exact .inr rfl | assumption) : DG X (.Name x pos) [i] (nmG i) :=
  useG (pg_name hN hi hx hf) fun v σ H Q ⟨G, st, d, st', rel, rp, e, q⟩ => by
    cases e
    refine q _ (rel.putFz rp) ⟨by rw [List.length_set], fun j hj => ?_⟩
    rw [List.getElem?_set_ne]
    rintro rfl
    exact hj List.mem_cons_self
theorem dgs_nil : DGs X [] [] nilG := useGs pgs_nil fun v σ H Q ⟨G, st, ds, st', rel, rp, e, q⟩ => by
  cases rp with
  | nil => cases e; exact ⟨rfl, q σ rel .refl⟩
  | cons _ _ => cases e
theorem dgs_cons (h1 : DG X tg is g) (h2 : DGs X tgs js h) (hs : (assignEach (tg :: tgs) X.env).map (·.2) = assign tg X.env :: (assignEach tgs X.env).map (·.2) := by rfl) : DGs X (tg :: tgs) (is ++ js) (consG g h) :=
  useGs (pgs_cons h1 h2 hs) fun v σ H Q ⟨G, st, ds, st', rel, rp, e, q⟩ => by
    cases rp with
    | nil => cases e
    | cons r1 r2 =>
      obtain ⟨s1, e1, e2⟩ := Option.bind_eq_some_iff.mp (show (g _ st).bind (h _) = some st' from e)
      exact ⟨_, _, rfl, G, st, _, s1, rel, r1, e1, fun σ1 rel1 o1 => ⟨G, s1, _, st', rel1, r2, e2, fun σ2 rel2 o2 => q σ2 rel2 (o1.trans o2)⟩⟩
theorem dg_tup {k : Nat} {n : Nat} (hc : X.calm = true) (hh : DGs X tgs is h) (hn : (assignEach tgs X.env).length = n := by rfl) (hst : (assignEach tgs X.env).findIdx? (·.1) = none := by rfl) : DG X (.Tuple tgs k pos) is (tupG n h) :=
  useG (pg_tup hc hh hn hst) fun v σ H Q ⟨G, st, d, st', rel, rp, e, q⟩ => by
    unfold tupG at e
    split at e
    · split at e
      · rename_i hl
        cases rp with
        | tup hp rl => exact ⟨_, _, rfl, .of hp, by rw [rl.length]; exact hl, G, st, _, st', rel, rl, e, q⟩
      · cases e
    · cases e
end
def asgS (m : Ev W) (g : D → Stt → Option Stt) : Ev Fl := bindE m fun w => bindE (keepW w) fun d => fun st => match g d st with
  | some st' => .ok .next st'
  | none => .stuck
section
variable {X : Cx} {Wx : WX} {tg e : Expr} {me : Ev W} {is : List Nat} {g : D → Stt → Option Stt} {pos pos' : Pos}
theorem ds_asg (he : DE X Wx e me) (hg : DG X tg is g) (hs : swapsWithSole [tg] e pos.line X.env = pure false := by rfl) (hw : swappedStores [tg] e X.env = pure none := by rfl)
    (h1 : (assignEach [tg] X.env).map (·.2) = [assign tg X.env] := by rfl) : DS X Wx (.Assign [tg] e pos) (asgS me g) :=
  useS (ps_asg he hg hs hw h1) fun D' σ H ⟨G, st, rel, h⟩ => stepS rel h fun w st1 G1 H1 v x r p => by
    obtain ⟨d, st2, e, p2⟩ := keepW_sres p
    obtain ⟨G2, x2, rd, fr⟩ := keepW_ok rel x r e
    cases q : g d st2 with
    | none => simp only [q] at p2; exact p2.elim
    | some st3 =>
      simp only [q] at p2
      exact ⟨G2, st2, d, st3, x2.rel, rd, q, fun σ3 r3 _ => p2 G2 σ3 H1 r3 (x2.gt rel)⟩
end

/-! ### while -/
def whileN (t : Ev Bool) (b : Ev Fl) : Nat → Ev Fl
  | 0 => fun _ => .stuck
  | n + 1 => bindE t fun k => if k = true then (fun st => match b st with
      | .ok .next st1 => whileN t b n st1
      | .ok .cont st1 => whileN t b n st1
      | .ok .brk st1 => .ok .next st1
      | r => r) else okE .next
open Classical in
noncomputable def whileS (t : Ev Bool) (b : Ev Fl) : Ev Fl := fun st => if h : ∃ n, whileN t b n st ≠ .stuck then whileN t b h.choose st else .stuck
section
variable {X : Cx} {Wx : WX} {c : Expr} {body : List Stmt} {t : Ev Bool} {b : Ev Fl} {pos : Pos}
theorem ds_while (hp : PassesOwn (model X.prog X.w) X.A X.env X.xe) (hc : DT X Wx c t) (hb : DSs X Wx body b) : DS X Wx (.While c body [] pos) (whileS t b) :=
  useS (ps_while hp hc hb) fun D' σ H ⟨G, st, rel, h⟩ => by
    have h' : ∃ n, SRes X.K X.mg Wx G H (whileN t b n st) D' := by
      unfold whileS at h
      split at h
      · exact ⟨_, h⟩
      · exact h.elim
    obtain ⟨n, h⟩ := h'
    refine ⟨fun m σ1 H1 => ∃ G1 st1, Rel X.K G1 st1 σ1 H1 ∧ SRes X.K X.mg Wx G1 H1 (whileN t b m st1) D', ⟨n, G, st, rel, h⟩, ?_⟩
    rintro m σ1 H1 ⟨G1, st1, r1, h1⟩
    cases m with
    | zero => exact h1.elim
    | succ m =>
      refine stepST r1 h1 fun k st2 G2 H2 x p => ?_
      cases k with
      | false => exact p G2 σ1 H2 x.rel (x.gt r1)
      | true =>
        refine ⟨fun σ' H' => ∃ G3 st3, Rel X.K G3 st3 σ' H' ∧ SRes X.K X.mg Wx G3 H' (whileN t b m st3) D', fun σ' H' ⟨G3, st3, r3, h3⟩ => ⟨m, Nat.lt_succ_self m, G3, st3, r3, h3⟩, G2, st2, x.rel, ?_⟩
        have p' : SRes X.K X.mg Wx G1 H1 (match b st2 with
          | .ok .next st1 => whileN t b m st1
          | .ok .cont st1 => whileN t b m st1
          | .ok .brk st1 => .ok .next st1
          | r => r) D' := p
        have p := p'.gt (x.gt r1)
        cases q : b st2 with
        | stuck => rw [q] at p; exact p
        | exc y st3 => rw [q] at p; exact p
        | ok f st3 =>
          rw [q] at p
          cases f with
          | next => exact fun G' σ' H' r g => ⟨G', st3, r, p.gt g⟩
          | cont => exact fun G' σ' H' r g => ⟨G', st3, r, p.gt g⟩
          | brk => exact p
          | ret d => exact p
end

/-! ### for -/
/-- the iterator J gives the items ds, whatever is added -/
def WalkD (K : PySem.W.Frag) (G : Gh) (H : Hp) (J : It) (ds : List D) : Prop := ∀ G1 H1, Fro G H G1 H1 → J.stop ds.length H1 ∧ ∀ i d, ds[i]? = some d →
  J.go i H1 ∧ ∀ x H2, J.yld i H1 x H2 → (H2 = H1 ∨ ∃ T vs, H1 T = none ∧ H2 = upd H1 T (.tup vs)) ∧ Rp K G1 H2 x d
def upI (K : PySem.W.Frag) (mg : Str → Option Value) (Wx : WX) (m : Ev (List D)) : TI := fun σ H R => ∃ G st, Rel K G st σ H ∧
  ResP K mg σ G Wx (m st) fun ds st' => ∀ G' H' J, Ex K σ G st H G' st' H' → WalkD K G' H' J ds → R J H'
abbrev DI (X : Cx) (Wx : WX) (tg e : Expr) (m : Ev (List D)) : Prop := PI X tg e (upI X.K X.mg Wx m)
theorem useI {X : Cx} {tg e : Expr} {t t' : TI} (h : PI X tg e t) (i : ∀ σ H Q, t' σ H Q → t σ H Q) : PI X tg e t' := ⟨fun pins s σ H R I q => h.run pins s σ H R I (i σ H R q)⟩
def forL (g : D → Stt → Option Stt) (b : Ev Fl) : List D → Ev Fl
  | [] => okE .next
  | d :: r => fun st => match g d st with
    | none => .stuck
    | some st1 => match b st1 with
      | .ok .next st2 => forL g b r st2
      | .ok .cont st2 => forL g b r st2
      | .ok .brk st2 => .ok .next st2
      | r => r
def forS (m : Ev (List D)) (g : D → Stt → Option Stt) (b : Ev Fl) : Ev Fl := bindE m fun ds => forL g b ds
section
variable {K : PySem.W.Frag} {σ : Sg} {G : Gh} {st : Stt} {H H2 : Hp}
theorem grow_rel (r : Rel K G st σ H) (h : H2 = H ∨ ∃ T vs, H T = none ∧ H2 = upd H T (.tup vs)) : Rel K G st σ H2 ∧ Gt G H G H2 := by
  rcases h with rfl | ⟨T, vs, n, rfl⟩
  · exact ⟨r, .refl⟩
  · exact ⟨r.alloc n, .refl, upd_fro n⟩
end
section
variable {X : Cx} {Wx : WX} {tg iter : Expr} {body : List Stmt} {m : Ev (List D)} {is : List Nat} {g : D → Stt → Option Stt} {b : Ev Fl} {pos : Pos}
theorem ds_for (hp : PassesOwn (model X.prog X.w) X.A X.env X.xe) (hc : X.calm = true) (hi : DI X Wx tg iter m) (hg : DG X tg is g) (hb : DSs X Wx body b)
    (hs : ∀ x, foldedSetIterable iter X.env x = pure x := by intro _; rfl) : DS X Wx (.For tg iter body [] pos) (forS m g b) :=
  useS (ps_for hp hc hi hg hb hs) fun D' σ H ⟨G, st, rel, h⟩ => by
    refine ⟨G, st, rel, (sres_bind h).imp fun ds st1 _ p G1 H1 J x w => ?_⟩
    refine ⟨fun i m σ2 H2 => m = ds.length - i ∧ i ≤ ds.length ∧ ∃ G2 st2, Rel X.K G2 st2 σ2 H2 ∧ Gt G1 H1 G2 H2 ∧ SRes X.K X.mg Wx G2 H2 (forL g b (ds.drop i) st2) D', ⟨ds.length, by simp, Nat.zero_le _, G1, st1, x.rel, .refl, (by rw [List.drop_zero]; exact p.gt (x.gt rel))⟩, ?_⟩
    rintro i m σ2 H2 ⟨rfl, hi, G2, st2, r2, g2, p2⟩
    obtain ⟨w1, w2⟩ := w G2 H2 g2.fro
    by_cases hlt : i < ds.length
    · obtain ⟨go, yl⟩ := w2 i ds[i] (List.getElem?_eq_getElem hlt)
      refine .inr ⟨go, fun σ' H' => ∃ G3 st3, Rel X.K G3 st3 σ' H' ∧ Gt G1 H1 G3 H' ∧ SRes X.K X.mg Wx G3 H' (forL g b (ds.drop (i + 1)) st3) D', fun σ' H' ⟨G3, st3, r3, g3, p3⟩ => ⟨ds.length - (i + 1), by omega, rfl, hlt, G3, st3, r3, g3, p3⟩, fun v H3 hy => ?_⟩
      obtain ⟨gr, rp⟩ := yl v H3 hy
      obtain ⟨r3, g3⟩ := grow_rel r2 gr
      rw [List.drop_eq_getElem_cons hlt] at p2
      have p2 := p2.gt g3
      simp only [forL] at p2
      cases q : g ds[i] st2 with
      | none => simp only [q] at p2; exact p2.elim
      | some st4 =>
        simp only [q] at p2
        refine ⟨G2, st2, ds[i], st4, r3, rp, q, fun σ5 r5 _ => ⟨G2, st4, r5, ?_⟩⟩
        have p5 := p2
        have g6 := g2.trans g3
        cases q2 : b st4 with
        | stuck => simp only [q2] at p5; exact p5
        | exc y st7 => simp only [q2] at p5; exact p5
        | ok f st7 =>
          simp only [q2] at p5
          cases f with
          | next => exact fun G' σ' H' r g => ⟨G', st7, r, g6.trans g, p5.gt g⟩
          | cont => exact fun G' σ' H' r g => ⟨G', st7, r, g6.trans g, p5.gt g⟩
          | brk => exact p5
          | ret d => exact p5
    · have e : i = ds.length := by omega
      subst e
      rw [List.drop_length] at p2
      exact .inl ⟨w1, p2 G2 σ2 H2 r2 .refl⟩
end
end Dl

namespace Dl
open PySem PySem.Spec PyProof.Rows L2

/-! ### defs -/
inductive RF where
  | stuck | ok (d : D) (dk : Option Dk) | exc (x : Exn) (dk : Option Dk)
/-- a def's mirror from its body's: n names -/
def runF (n : Nat) (m : Ev Fl) (ds : List D) (dk : Option Dk) : RF := match m ⟨ds.map .fz ++ List.replicate (n - ds.length) .un, dk⟩ with
  | .ok (.ret d) st => .ok d st.dk
  | .ok .next st => .ok .non st.dk
  | .exc x st => .exc x st.dk
  | _ => .stuck
structure Entry (G : Gh) (H : Hp) (dk : Option Dk) : Prop where
  ft : ∀ a, G.F a → H a ≠ none
  nd : ∀ a, isDk G a → ¬ G.F a
  dko : DkOk G H dk
structure Done (G : Gh) (H : Hp) (G' : Gh) (H' : Hp) (dk' : Option Dk) : Prop where
  keep : ∀ a o, H a = some o → ¬ isDk G a → H' a = some o
  tr : ∀ a, H a ≠ none → H' a ≠ none
  f : ∀ a, G.F a → G'.F a
  fn : ∀ a, G'.F a → G.F a ∨ H a = none
  ft : ∀ a, G'.F a → H' a ≠ none
  nd : ∀ a, isDk G' a → ¬ G'.F a
  dko : DkOk G' H' dk'
  dkm : ∀ p, G.dk = some p → G'.dk = some p
  dkn : G.dk = none → ∀ p c, G'.dk = some (p, c) → H p = none ∧ H c = none
/-- what is wanted of the answer r -/
def FinF (K : PySem.W.Frag) (mg : Str → Option Value) (G : Gh) (H : Hp) (r : RF) (Q : VK) (E : XK) : Prop := match r with
  | .stuck => False
  | .ok d dk' => ∀ G' H' v, Done G H G' H' dk' → Rp K G' H' v d → Q v H'
  | .exc x dk' => ∀ G' H' cl dx, Done G H G' H' dk' → RpX K mg G' H' x cl dx → E cl dx H'
structure RoomG (k : Nat) (A : Around) : Prop where
  r : Room k A
  g : A.guards = some []
theorem RoomG.mono {j k : Nat} {A : Around} (h : RoomG k A) (l : j ≤ k) : RoomG j A := ⟨h.r.mono l, h.g⟩
/-- the def at f has the mirror F -/
structure FnG (P : Program) (w : World) (K : PySem.W.Frag) (mg : Str → Option Value) (base : Heap) (k : Nat) (f : Addr) (fd : FuncData) (ps : List Str) (F : List D → Option Dk → RF) : Prop where
  run : ∀ (A : Around) (outer : List Env) (s : Shared) (H : Hp) (args : Args) (us : List Value) (vs : List V) (ds : List D) (G : Gh) (dk : Option Dk) (Q : VK) (E : XK),
    RoomG k A → Env0 P w K mg base A outer s H → BindsTo s fd args (ps.zip us) → Vals vs us → ds.length = ps.length → Entry G H dk → RpL K G H vs ds → FinF K mg G H (F ds dk) Q E →
    codeAny (model P w) A (.call (.ref f) args) (CR (CX P w) outer P w H s Q E) s
theorem FnG.mono {P : Program} {w : World} {K : PySem.W.Frag} {mg : Str → Option Value} {base : Heap} {j k : Nat} {f : Addr} {fd : FuncData} {ps : List Str} {F : List D → Option Dk → RF} (h : FnG P w K mg base j f fd ps F) (l : j ≤ k) : FnG P w K mg base k f fd ps F :=
  ⟨fun A outer s H args us vs ds G dk Q E hr => h.run A outer s H args us vs ds G dk Q E (hr.mono l)⟩

section
variable {K : PySem.W.Frag} {mg : Str → Option Value} {G : Gh} {H : Hp} {vs : List V} {ds : List D} {dk : Option Dk}
/-- the ghost at a def's entry -/
def Gh.enter (G : Gh) (H : Hp) : Gh := { F := G.F, dk := G.dk, lk := fun _ => False, H0 := H, F0 := G.F, dk0 := G.dk }
theorem enter_fro : Fro G H (G.enter H) H := ⟨fun _ h => h, fun _ _ _ h => h, fun _ _ _ h => h, fun _ _ h => h, fun _ _ _ h => h, fun _ h => h⟩
theorem enter_rel (e : Entry G H dk) (r : RpL K G H vs ds) (n : Nat) : Rel K (G.enter H) ⟨ds.map .fz ++ List.replicate (n - ds.length) .un, dk⟩ (vs.map some ++ List.replicate (n - vs.length) none) H := by
  have fzL : ∀ {i : Nat} {s : Slot}, (ds.map Slot.fz ++ List.replicate (n - ds.length) Slot.un)[i]? = some s → (∃ d, s = .fz d ∧ ds[i]? = some d) ∨ s = .un := fun {i s} h => by
    by_cases hi : i < ds.length
    · rw [List.getElem?_append_left (by simpa using hi), List.getElem?_map] at h
      cases q : ds[i]? with
      | none => rw [q] at h; cases h
      | some d => rw [q] at h; cases h; exact .inl ⟨d, rfl, rfl⟩
    · rw [List.getElem?_append_right (by simpa using hi), List.getElem?_replicate] at h
      split at h
      · cases h; exact .inr rfl
      · cases h
  refine ⟨⟨fun _ h => h, fun _ h => .inl h, e.ft, fun a o h _ => .inl h, fun _ h => h, fun _ h => h, fun h p c q => ?_, e.nd⟩, e.dko, ?_, fun i d h => ?_, fun i d h => ?_, fun i j d1 d2 a h => ?_⟩
  · have : G.dk = none := h
    have q' : G.dk = some (p, c) := q
    rw [this] at q'
    cases q'
  · show (_ ++ _ : List _).length = (_ ++ _ : List _).length
    simp only [List.length_append, List.length_map, List.length_replicate, r.length]
  · rcases fzL h with ⟨d', e', q⟩ | e'
    · cases e'
      obtain ⟨v, h1, h2⟩ := r.get q
      refine ⟨v, ?_, h2.mono enter_fro⟩
      have hi : i < vs.length := (List.getElem?_eq_some_iff.mp h1).1
      rw [List.getElem?_append_left (by simpa using hi), List.getElem?_map, h1] <;> rfl
    · cases e'
  · rcases fzL h with ⟨d', e', q⟩ | e'
    · cases e'
    · cases e'
  · rcases fzL h with ⟨d', e', q⟩ | e'
    · cases e'
    · cases e'
theorem done_of {G1 : Gh} {H1 : Hp} {st1 : Stt} {σ1 : Sg} (r : Rel K G1 st1 σ1 H1) (b : Bs (G.enter H) G1) : Done G H G1 H1 st1.dk := by
  have hF : G1.F0 = G.F := b.f
  have hH : G1.H0 = H := b.h
  have hd : G1.dk0 = G.dk := b.d
  have hl : G1.lk = fun _ => False := b.l
  have back : ∀ a, isDk G1 a → isDk G a ∨ H a = none := fun a ⟨p, c, e, z⟩ => by
    cases q : G.dk with
    | none =>
      obtain ⟨h1, h2⟩ := r.g.dn (hd.trans q) p c e
      rw [hH] at h1 h2
      rcases z with rfl | rfl
      · exact .inr h1
      · exact .inr h2
    | some u =>
      have h1 := r.g.d0 u (hd.trans q)
      rw [e] at h1
      cases h1
      exact .inl ⟨p, c, q, z⟩
  refine ⟨fun a o h n => ?_, fun a h => r.g.tr a (by rw [hH]; exact h), fun a h => r.g.f0 a (by rw [hF]; exact h), fun a h => ?_, r.g.ft, r.g.nd, r.dko, fun p h => r.g.d0 p (hd.trans h), fun h p c q => ?_⟩
  · rcases r.g.keep a o (by rw [hH]; exact h) (fun z => by
      rcases back a z with z | z
      · exact n z
      · rw [h] at z; cases z) with q | ⟨q, _⟩
    · exact q
    · rw [hl] at q; exact q.elim
  · rcases r.g.fn a h with q | q
    · rw [hF] at q; exact .inl q
    · rw [hH] at q; exact .inr q
  · have := r.g.dn (hd.trans h) p c q
    rw [hH] at this
    exact this
end

section
variable {P : Program} {w : World} {K : PySem.W.Frag} {mg : Str → Option Value} {base : Heap} {k : Nat} {f : Addr} {qual : Str} {scope : Scope} {body : List Stmt}
/-- a def by its body's mirror -/
theorem fng_of {name : Str} {params : Arguments} {dV kV doc pm cdv ct oc : Value} {an od : Option Addr} {osl : Array (Option Value)} {N ps : List Str} {m : Ev Fl}
    (lk : K.lookup f = some ⟨oc, od, .func (PySem.W.fnOf name qual params body scope dV kV doc pm an cdv ct), osl⟩) (hcd : PySem.W.codeIn K cdv qual = true) (S : FnScope N ps scope)
    (hb : ∀ (A : Around) (outer : List Env) (s : Shared) (H : Hp) (E : XK), RoomG k (A.deeper (envOfC qual scope s.heap.objs.size f cdv)) →
      DSs (cxOf (CX P w) P w K mg base N qual scope f cdv A outer s H E) (fun cl dx _ H' => E cl dx H') body m) :
    FnG P w K mg base (k + 1) f (PySem.W.fnOf name qual params body scope dV kV doc pm an cdv ct) ps (runF N.length m) := ⟨by
  intro A outer s H args us vs ds G dk Q E hr e0 hbn r hl en rl fin
  have lv : vs.length = ps.length := rl.length.trans hl
  have inHeap : K.In s.heap := e0.mod.kin.keeps (fun b o e => (e0.bs b o e).1)
  have noLim : s.heap.NoLimit := e0.mod.nolimit.keeps (fun b o e => (e0.bs b o e).1)
  have kinds : ∀ y ∈ ps.zip us, scope.names.lookup y.1 = some .local ∨ (scope.names.lookup y.1 = some .cell ∧ ((cellsFrom (s.heap.objs.size + 1) scope.names []).lookup y.1).isSome = true) := by
    rintro ⟨n, v⟩ hy
    exact (S.par n (List.of_mem_zip hy).1).imp id fun q => ⟨q, PySem.W.cellsFrom_some _ _ _ (.inl q)⟩
  refine codeAny_call_function hr.r.depth (inHeap _ _ lk) rfl S.co S.gen rfl (PySem.W.codeRec_of inHeap hcd) (hbn _ _ _ _ ?_)
  refine wpAny_newFunctionEnv_cells S.kind kinds fun env he s1 x => ?_
  subst he
  refine ⟨noLim.keeps x.toInCall.keep, codeAny_func ?_⟩
  have room : RoomG k (A.deeper (envOfC qual scope s.heap.objs.size f cdv)) := ⟨hr.r.deeper _, hr.g⟩
  have I : Inv (cxOf (CX P w) P w K mg base N qual scope f cdv A outer s H E) [] (start N vs) H s1 := inv_start S hr.r.hd e0 lv r x
  have rel := enter_rel (K := K) en rl N.length
  have red : upS K mg (fun cl dx _ H' => E cl dx H') m { nx := fun _ H' => Q .non H', rt := Q } (start N vs) H := by
    refine ⟨G.enter H, _, rel, ?_⟩
    unfold runF at fin
    cases q : m ⟨ds.map .fz ++ List.replicate (N.length - ds.length) .un, dk⟩ with
    | stuck => rw [q] at fin; exact fin
    | exc y st1 => rw [q] at fin; exact fun G' σ' H' cl dx r' b' q' => fin G' H' cl dx (done_of r' b') q'
    | ok fl st1 =>
      rw [q] at fin
      cases fl with
      | next => exact fun G' σ' H' r' g' => fin G' H' .non (done_of r' g'.bs) .non
      | ret d => exact fun G' σ' H' v r' g' rp => fin G' H' v (done_of r' g'.bs) rp
      | brk => exact fin.elim
      | cont => exact fin.elim
  refine wpAny_mono ((hb A outer s H E room).run [] s1 (start N vs) H _ I red) (fun fl s' hs => ?_) (fun e s' hs => hs)
  cases fl with
  | ret u =>
    obtain ⟨v, σ', H', J, rv, q⟩ := hs
    exact ⟨v, H', J.os, J.bare, J.base, J.hok, rv, q⟩
  | next =>
    obtain ⟨σ', H', J, q⟩ := hs
    exact ⟨V.non, H', J.os, J.bare, J.base, J.hok, rfl, q⟩
  | brk => obtain ⟨_, _, _, q⟩ := hs; exact q.elim
  | cont => obtain ⟨_, _, _, q⟩ := hs; exact q.elim⟩
/-- the def st of the text -/
theorem fng {x : Str} {st : Stmt} {fd : FuncData} {N ps : List Str} {m : Ev Fl} (F : Fun K x qual st f fd) (S : FnScope N ps (defScope st))
    (hb : ∀ (cdv : Value) (A : Around) (outer : List Env) (s : Shared) (H : Hp) (E : XK), RoomG k (A.deeper (envOfC qual (defScope st) s.heap.objs.size f cdv)) →
      DSs (cxOf (CX P w) P w K mg base N qual (defScope st) f cdv A outer s H E) (fun cl dx _ H' => E cl dx H') (defBody st) m) : FnG P w K mg base (k + 1) f fd ps (runF N.length m) := by
  obtain ⟨oc, od, kV, doc, pm, an, cdv, ct, osl, rfl, lk, hcd⟩ := F.ex
  exact fng_of lk hcd S fun A outer s H E hr => hb cdv A outer s H E hr
/-- a def with defaults -/
theorem fngD {x : Str} {params : Arguments} {dvs : List V} {kws : List (Str × V)} {fd : FuncData} {N ps : List Str} {m : Ev Fl} (F : FunD K x qual params body scope dvs kws f fd) (S : FnScope N ps scope)
    (hb : ∀ (cdv : Value) (A : Around) (outer : List Env) (s : Shared) (H : Hp) (E : XK), RoomG k (A.deeper (envOfC qual scope s.heap.objs.size f cdv)) →
      DSs (cxOf (CX P w) P w K mg base N qual scope f cdv A outer s H E) (fun cl dx _ H' => E cl dx H') body m) : FnG P w K mg base (k + 1) f fd ps (runF N.length m) := by
  obtain ⟨oc, od, dV, kV, doc, pm, an, cdv, ct, osl, rfl, lk, hcd, _, _⟩ := F.ex
  exact fng_of lk hcd S fun A outer s H E hr => hb cdv A outer s H E hr
end

/-! ### calls -/
mutual
/-- no list or dict within -/
def noMut : D → Bool
  | .tup ds => noMutL ds
  | .lst _ => false
  | .dct _ _ _ => false
  | _ => true
def noMutL : List D → Bool
  | [] => true
  | d :: r => noMut d && noMutL r
end
def gather {α : Type} (perm : List Nat) (xs : List α) : List α := perm.filterMap fun i => xs[i]?
def contents (st : Stt) : List W → Option (List D)
  | [] => some []
  | w :: r => match content st w, contents st r with
    | some d, some ds => some (d :: ds)
    | _, _ => none
def frzW (st : Stt) : W → Stt
  | .live i => match st.ρ[i]? with
    | some (.lv d) => st.frz i d
    | _ => st
  | _ => st
def frzAll : List W → Stt → Stt
  | [], st => st
  | w :: r, st => frzAll r (frzW st w)
def Stt.deck (st : Stt) (dk : Option Dk) : Stt := { st with dk := dk }
def callW (F : List D → Option Dk → RF) (perm : List Nat) (dfs : List D) (ws : List W) : Ev W := fun st => match contents st ws with
  | none => .stuck
  | some ds => match F (gather perm (ds ++ dfs)) st.dk with
    | .stuck => .stuck
    | .ok d dk' => if noMut d = true then .ok (.val d) (st.deck dk') else .ok (.val d) ((frzAll ws st).deck dk')
    | .exc x dk' => .exc x ((frzAll ws st).deck dk')
/-- arguments: what a name's container is stays the name's -/
def unfresh : W → W
  | .fresh d => .val d
  | w => w
def bNil : Ev (List W) := okE []
def bCons (m : Ev W) (r : Ev (List W)) : Ev (List W) := bindE m fun w => bindE r fun ws => okE (unfresh w :: ws)
/-- values of arguments -/
def RpB (K : PySem.W.Frag) (G : Gh) (H : Hp) (st : Stt) (σ : Sg) : List W → List V → Prop
  | [], [] => True
  | w :: ws, v :: vs => (RpW K G H st σ (fun _ => none) w v ∧ ∀ d, w ≠ .fresh d) ∧ RpB K G H st σ ws vs
  | _, _ => False
def upB (K : PySem.W.Frag) (mg : Str → Option Value) (Wx : WX) (m : Ev (List W)) : TA := fun σ H Q => ∃ G st, Rel K G st σ H ∧
  ResP K mg σ G Wx (m st) fun ws st' => ∀ G' H' vs, Ex K σ G st H G' st' H' → RpB K G' H' st' σ ws vs → Q vs H'
abbrev DB (X : Cx) (Wx : WX) (es : List Expr) (m : Ev (List W)) : Prop := PA X es (upB X.K X.mg Wx m)
abbrev DK (X : Cx) (Wx : WX) (ks : List Keyword) (m : Ev (List W)) : Prop := PK X ks (upB X.K X.mg Wx m)
theorem useK {X : Cx} {e : List Keyword} {t t' : TA} (h : PK X e t) (i : ∀ σ H Q, t' σ H Q → t σ H Q) : PK X e t' := ⟨fun pos pins s σ H Q I q => h.run pos pins s σ H Q I (i σ H Q q)⟩
section
variable {α : Type} {K : PySem.W.Frag} {mg : Str → Option Value} {σ : Sg} {G G1 G2 : Gh} {Wx : WX} {st st1 st2 : Stt} {H H1 H2 : Hp}
theorem stepB {m : Ev (List W)} {k : List W → Ev α} {P : α → Stt → Prop} {T : List V → Hp → Prop} (r : Rel K G st σ H) (x : Ex K σ G st H G1 st1 H1) (h : ResP K mg σ G Wx (bindE m k st1) P)
    (t : ∀ ds st2 G2 H2 vs, Ex K σ G st H G2 st2 H2 → Ex K σ G1 st1 H1 G2 st2 H2 → RpB K G2 H2 st2 σ ds vs → ResP K mg σ G Wx (k ds st2) P → T vs H2) : upB K mg Wx m σ H1 T :=
  ⟨G1, st1, x.rel, ((ResP.bind h).bs x.bs).imp fun w st2 _ hp G2 H2 vs y rw' => t w st2 G2 H2 vs (x.trans r y) y rw' hp⟩
/-- a fresh container as an argument is kept -/
theorem unfresh_ok {w : W} {v : V} (r : Rel K G st σ H) (x : Ex K σ G st H G1 st1 H1) (h : RpW K G1 H1 st1 σ H w v) : ∃ G2, Ex K σ G st H G2 st1 H1 ∧ Fro G1 H1 G2 H1 ∧ RpW K G2 H1 st1 σ (fun _ => none) (unfresh w) v ∧ ∀ d, unfresh w ≠ .fresh d := by
  cases w with
  | val d => exact ⟨G1, x, .refl, h, fun _ z => by cases z⟩
  | live i => exact ⟨G1, x, .refl, h, fun _ z => by cases z⟩
  | fresh d =>
    obtain ⟨a, rfl, hs, o, b⟩ := h
    obtain ⟨u, ea, _⟩ := b.at
    exact ⟨G1.frz a, x.frzFresh r hs o (by rw [ea]; exact fun z => by cases z), frz_fro, Bo.rp (.inr rfl) (b.mono frz_fro rfl), fun _ z => by cases z⟩
theorem argW_mono {w : W} {v : V} (y : Ex K σ G1 st1 H1 G2 st2 H2) (r : Rel K G1 st1 σ H1) (h : RpW K G1 H1 st1 σ (fun _ => none) w v) (n : ∀ d, w ≠ .fresh d) : RpW K G2 H2 st2 σ (fun _ => none) w v := by
  cases w with
  | val d => exact Rp.mono (y.fro r) h
  | live i =>
    obtain ⟨s, d, q | q⟩ := h
    · exact ⟨s, y.sll i d q⟩
    · exact ⟨s, d, .inr (y.slf i d q)⟩
  | fresh d => exact absurd rfl (n d)
theorem rpB_mono (y : Ex K σ G1 st1 H1 G2 st2 H2) (r : Rel K G1 st1 σ H1) : ∀ {ws : List W} {vs : List V}, RpB K G1 H1 st1 σ ws vs → RpB K G2 H2 st2 σ ws vs
  | [], [], h => h
  | [], _ :: _, h => h
  | _ :: _, [], h => h
  | _ :: _, _ :: _, h => ⟨⟨argW_mono y r h.1.1 h.1.2, h.1.2⟩, rpB_mono y r h.2⟩
theorem frzW_ok {w : W} {v : V} {d : D} (x : Ex K σ G st H G1 st1 H1) (h : RpW K G1 H1 st1 σ (fun _ => none) w v) (n : ∀ d, w ≠ .fresh d) (e : content st1 w = some d) :
    ∃ G2, Ex K σ G st H G2 (frzW st1 w) H1 ∧ Ex K σ G1 st1 H1 G2 (frzW st1 w) H1 ∧ Rp K G2 H1 v d := by
  cases w with
  | val d' => cases e; exact ⟨G1, x, .refl x.rel, h⟩
  | fresh d' => exact absurd rfl (n d')
  | live i =>
    obtain ⟨s, d', q | q⟩ := h
    · have ed : d' = d := by simp only [content, q, Option.some.injEq] at e; exact e
      subst ed
      obtain ⟨a, s', o, b⟩ := x.rel.lv i d' q
      rw [s] at s'
      cases s'
      have ef : frzW st1 (.live i) = st1.frz i d' := by simp only [frzW, q]
      rw [ef]
      exact ⟨G1.frz a, x.frzLive q s o b, (Ex.refl x.rel).frzLive q s o b, Bo.rp (.inr rfl) (b.mono frz_fro rfl)⟩
    · have ed : d' = d := by simp only [content, q, Option.some.injEq] at e; exact e
      subst ed
      obtain ⟨v', s', b⟩ := x.rel.fz i d' q
      rw [s] at s'
      cases s'
      have ef : frzW st1 (.live i) = st1 := by simp only [frzW, q]
      rw [ef]
      exact ⟨G1, x, .refl x.rel, b⟩
theorem content_frzW {w w' : W} {d : D} (e : content st1 w = some d) : content (frzW st1 w') w = some d := by
  cases w' with
  | val _ => exact e
  | fresh _ => exact e
  | live i =>
    cases q : st1.ρ[i]? with
    | none => simpa only [frzW, q] using e
    | some z =>
      cases z with
      | un => simpa only [frzW, q] using e
      | fz _ => simpa only [frzW, q] using e
      | lv d' =>
        simp only [frzW, q]
        cases w with
        | val _ => exact e
        | fresh _ => exact e
        | live j =>
          simp only [content, Stt.frz] at e ⊢
          by_cases hj : j = i
          · subst hj
            rw [q] at e
            rw [setSelf q]
            exact e
          · rw [List.getElem?_set_ne (Ne.symm hj)]
            exact e
theorem contents_frzW {w' : W} : ∀ {ws : List W} {ds : List D}, contents st1 ws = some ds → contents (frzW st1 w') ws = some ds
  | [], ds, e => e
  | w :: ws, ds, e => by
    cases q1 : content st1 w with
    | none => simp [contents, q1] at e
    | some d =>
      cases q2 : contents st1 ws with
      | none => simp [contents, q1, q2] at e
      | some ds' =>
        simp only [contents, q1, q2] at e
        simp only [contents, content_frzW (w' := w') q1, contents_frzW (w' := w') q2]
        exact e
theorem frzAll_ok : ∀ {ws : List W} {vs : List V} {ds : List D} {G1 : Gh} {st1 : Stt}, Ex K σ G st H G1 st1 H1 → RpB K G1 H1 st1 σ ws vs → contents st1 ws = some ds →
    ∃ G2, Ex K σ G st H G2 (frzAll ws st1) H1 ∧ Ex K σ G1 st1 H1 G2 (frzAll ws st1) H1 ∧ RpL K G2 H1 vs ds
  | [], [], ds, G1, st1, x, _, e => by cases e; exact ⟨G1, x, .refl x.rel, .nil⟩
  | [], _ :: _, _, _, _, _, h, _ => h.elim
  | _ :: _, [], _, _, _, _, h, _ => h.elim
  | w :: ws, v :: vs, ds, G1, st1, x, h, e => by
    obtain ⟨⟨h1, n1⟩, h2⟩ := h
    cases q1 : content st1 w with
    | none => simp [contents, q1] at e
    | some d =>
      cases q2 : contents st1 ws with
      | none => simp [contents, q1, q2] at e
      | some ds' =>
        simp only [contents, q1, q2, Option.some.injEq] at e
        subst e
        obtain ⟨G2, x2, x12, rd⟩ := frzW_ok x h1 n1 q1
        have h2' : RpB K G2 H1 (frzW st1 w) σ ws vs := rpB_mono x12 x.rel h2
        obtain ⟨G3, x3, x23, rl⟩ := frzAll_ok (ws := ws) (vs := vs) x2 h2' (contents_frzW q2)
        exact ⟨G3, x3, x12.trans x.rel x23, .cons (rd.mono (x23.fro x2.rel)) rl⟩
/-- behind a call -/
def Gh.back (G : Gh) (H : Hp) (G' : Gh) : Gh := { G with F := fun a => G.F a ∨ (G'.F a ∧ H a = none), dk := G'.dk }
theorem Ex.called {Gc G' : Gh} {H' : Hp} {dk' : Option Dk} (r : Rel K G st σ H) (hF : ∀ a, G.F a → Gc.F a) (hdk : Gc.dk = G.dk) (d : Done Gc H G' H' dk') : Ex K σ G st H (G.back H G') (st.deck dk') H' := by
  have dkc : ∀ a, isDk Gc a ↔ isDk G a := fun a => by unfold isDk; rw [hdk]
  have keep : ∀ a o, H a = some o → ¬ isDk G a → H' a = some o := fun a o h n => d.keep a o h fun z => n ((dkc a).mp z)
  have dkm : ∀ p, G.dk = some p → G'.dk = some p := fun p h => d.dkm p (hdk.trans h)
  have dkn : G.dk = none → ∀ p c, G'.dk = some (p, c) → H p = none ∧ H c = none := fun h => d.dkn (hdk.trans h)
  have back : ∀ a, isDk (G.back H G') a → isDk G a ∨ H a = none := fun a ⟨p, c, e, z⟩ => by
    cases q : G.dk with
    | none =>
      obtain ⟨h1, h2⟩ := dkn q p c e
      rcases z with rfl | rfl
      · exact .inr h1
      · exact .inr h2
    | some u =>
      have h1 := dkm u q
      rw [show G'.dk = some (p, c) from e] at h1
      cases h1
      exact .inl ⟨p, c, q, z⟩
  have fr : Fro G H (G.back H G') H' := by
    refine ⟨fun _ h => .inl h, fun a xs f e => keep a _ e fun z => r.g.nd a z f, fun a u f e => ?_, fun a xs e => keep a _ e (notBo_dk r e id), fun a o xs e => keep a _ e (notBo_dk r e id), dkm⟩
    rcases e with e | ⟨o, e⟩
    · exact .inl (keep a _ e fun z => r.g.nd a z f)
    · exact .inr ⟨o, keep a _ e fun z => r.g.nd a z f⟩
  refine ⟨⟨⟨fun a h => .inl (r.g.f0 a h), fun a h => ?_, fun a h => ?_, fun a o h n => ?_, fun a h => d.tr a (r.g.tr a h), fun p h => dkm p (r.g.d0 p h), fun h p c e => ?_, fun a z f => ?_⟩, d.dko, r.len, fun i e h => ?_, fun i e h => ?_, r.ap⟩, ⟨rfl, rfl, rfl, rfl⟩, fun _ h => .inl h, fun a h => ?_, fun a o h _ n => keep a o h n, d.tr, fun i e h => ⟨e, h⟩, fun _ _ h => h, fun i e h => ⟨e, .inl h⟩, fun _ h => h, dkm, dkn⟩
  · rcases h with h | ⟨_, h⟩
    · exact r.g.fn a h
    · refine .inr ?_
      cases q : G.H0 a with
      | none => exact q
      | some o => exact absurd h (r.g.tr a (by rw [q]; exact fun z => by cases z))
  · rcases h with h | ⟨h, _⟩
    · exact d.tr a (r.g.ft a h)
    · exact d.ft a h
  · have nG : ¬ isDk G a := fun ⟨p, c, e, z⟩ => n ⟨p, c, dkm _ e, z⟩
    rcases r.g.keep a o h nG with q | ⟨l, od, q⟩
    · exact .inl (keep a o q nG)
    · exact .inr ⟨l, od, keep a _ q nG⟩
  · have hh : ∀ b, H b = none → G.H0 b = none := fun b hb => by
      cases q : G.H0 b with
      | none => rfl
      | some o => exact absurd hb (r.g.tr b (by rw [q]; exact fun z => by cases z))
    cases q : G.dk with
    | none =>
      obtain ⟨h1, h2⟩ := dkn q p c e
      exact ⟨hh p h1, hh c h2⟩
    | some u =>
      have h1 := dkm u q
      rw [show G'.dk = some (p, c) from e] at h1
      cases h1
      exact r.g.dn h p c q
  · rcases f with f | ⟨f, _⟩
    · rcases back a z with z | z
      · exact r.g.nd a z f
      · exact r.g.ft a f z
    · exact d.nd a z f
  · obtain ⟨v, s, q⟩ := r.fz i e h
    exact ⟨v, s, q.mono fr⟩
  · obtain ⟨a, s, o, b⟩ := r.lv i e h
    obtain ⟨u, ea, _⟩ := b.at
    refine ⟨a, s, ⟨fun f => ?_, o.h0, fun z => ?_⟩, b.mono fr ((keep a u ea o.nd).trans ea.symm)⟩
    · rcases f with f | ⟨_, f⟩
      · exact o.nf f
      · rw [ea] at f; cases f
    · rcases back a z with z | z
      · exact o.nd z
      · rw [ea] at z; cases z
  · rcases h with h | ⟨_, h⟩
    · exact .inl h
    · exact .inr (.inl h)
mutual
theorem noMut_rp {G' G2 : Gh} {H' : Hp} (hd : ∀ p, G'.dk = some p → G2.dk = some p) : ∀ {v : V} {d : D}, noMut d = true → Rp K G' H' v d → Rp K G2 H' v d
  | _, .non, _, r => by cases r; exact .non
  | _, .bl _, _, r => by cases r; exact .bl _
  | _, .int _, _, r => by cases r; exact .int _
  | _, .str _, _, r => by cases r; exact .str _
  | _, .deck, _, r => by cases r with | deck e => exact .deck (hd _ e)
  | _, .scr _, _, r => by cases r with | scr e => exact .scr e
  | _, .lst _, h, _ => by simp [noMut] at h
  | _, .dct _ _ _, h, _ => by simp [noMut] at h
  | _, .tup ds, h, r => by
    simp only [noMut] at h
    cases r with
    | tup hp rl => exact .tup hp (noMutL_rp hd h rl)
theorem noMutL_rp {G' G2 : Gh} {H' : Hp} (hd : ∀ p, G'.dk = some p → G2.dk = some p) : ∀ {vs : List V} {ds : List D}, noMutL ds = true → RpL K G' H' vs ds → RpL K G2 H' vs ds
  | _, [], _, r => by cases r; exact .nil
  | _, d :: ds, h, r => by
    simp only [noMutL, Bool.and_eq_true] at h
    cases r with
    | cons r1 r2 => exact .cons (noMut_rp hd h.1 r1) (noMutL_rp hd h.2 r2)
end
theorem frzW_dk (st : Stt) (w : W) : (frzW st w).dk = st.dk := by
  cases w with
  | val _ => rfl
  | fresh _ => rfl
  | live i =>
    cases q : st.ρ[i]? with
    | none => simp only [frzW, q]
    | some z => cases z <;> simp only [frzW, q] <;> rfl
theorem frzAll_dk : ∀ (ws : List W) (st : Stt), (frzAll ws st).dk = st.dk
  | [], _ => rfl
  | w :: ws, st => (frzAll_dk ws (frzW st w)).trans (frzW_dk st w)
theorem dk_same (r : Rel K G st σ H) (x : Ex K σ G st H G1 st1 H) : G1.dk = G.dk := by
  cases q : G.dk with
  | some p => exact x.dkm p q
  | none =>
    cases q1 : G1.dk with
    | none => rfl
    | some p =>
      obtain ⟨a, c⟩ := p
      obtain ⟨h1, _⟩ := x.dkn q a c q1
      obtain ⟨k, _, h2, _⟩ := x.rel.dko.at q1
      rw [h1] at h2
      cases h2
theorem back_fro {Gc G' : Gh} {H' : Hp} {dk' : Option Dk} (dn : Done Gc H G' H' dk') : Fro G' H' (Gc.back H G') H' :=
  ⟨fun a f => (dn.fn a f).imp id fun z => ⟨f, z⟩, fun _ _ _ e => e, fun _ _ _ e => e, fun _ _ e => e, fun _ _ _ e => e, fun _ e => e⟩
/-- a call's answer becomes the caller's -/
theorem callW_ok {F : List D → Option Dk → RF} {perm : List Nat} {dfs : List D} {dvs : List V} {ws : List W} {vs : List V} {P : W → Stt → Prop} {Q : VK} (r : Rel K G st σ H) (x : Ex K σ G st H G1 st1 H1) (hb : RpB K G1 H1 st1 σ ws vs)
    (hdf : ∀ G H, RpL K G H dvs dfs) (h : ResP K mg σ G Wx (callW F perm dfs ws st1) P) (hP : ∀ w st2, P w st2 → ∀ G' H' v, Ex K σ G st H G' st2 H' → RpW K G' H' st2 σ H w v → Q v H') :
    ∃ Gc ds, Entry Gc H1 st1.dk ∧ RpL K Gc H1 (gather perm (vs ++ dvs)) ds ∧ FinF K mg Gc H1 (F ds st1.dk) Q (fun cl dx H' => Wx cl dx σ H') := by
  unfold callW at h
  cases q : contents st1 ws with
  | none => rw [q] at h; exact h.elim
  | some ds =>
    rw [q] at h
    simp only at h
    obtain ⟨G2, x2, x12, rl⟩ := frzAll_ok x hb q
    have edk : (frzAll ws st1).dk = st1.dk := frzAll_dk ws st1
    have en : Entry G2 H1 st1.dk := ⟨x2.rel.g.ft, x2.rel.g.nd, by rw [← edk]; exact x2.rel.dko⟩
    have ga : RpL K G2 H1 (gather perm (vs ++ dvs)) (gather perm (ds ++ dfs)) := by
      have all := rl.append (hdf G2 H1)
      clear h
      induction perm with
      | nil => exact .nil
      | cons i perm ih =>
        unfold gather
        cases e : (ds ++ dfs)[i]? with
        | none =>
          have e' : (vs ++ dvs)[i]? = none := by
            rw [List.getElem?_eq_none_iff] at e ⊢
            rw [all.length]; exact e
          rw [List.filterMap_cons_none e', List.filterMap_cons_none e]
          exact ih
        | some d =>
          obtain ⟨v, e', rv⟩ := all.get e
          rw [List.filterMap_cons_some e', List.filterMap_cons_some e]
          exact .cons rv ih
    refine ⟨G2, _, en, ga, ?_⟩
    cases q2 : F (gather perm (ds ++ dfs)) st1.dk with
    | stuck => rw [q2] at h; exact h.elim
    | exc y dk' =>
      rw [q2] at h
      intro G' H' cl dx dn rx
      have x3 := Ex.called x2.rel (fun _ h => h) rfl dn
      refine h _ H' cl dx x3.rel (x2.bs.trans x3.bs) ⟨rx.cls, ?_⟩
      have hfs := rx.fs
      cases dx with
      | none => exact hfs
      | some dd =>
        obtain ⟨gs, h1, h2, h3⟩ := hfs
        exact ⟨gs, h1, h2, h3.mono (back_fro dn)⟩
    | ok d dk' =>
      rw [q2] at h
      intro G' H' v dn rd
      simp only at h
      split at h
      · rename_i hm
        have x3 := Ex.called (G := G1) x.rel (fun a f => x12.f a f) (dk_same x.rel x12) dn
        exact hP _ _ h _ H' v (x.trans r x3) (noMut_rp (G' := G') (G2 := G1.back H1 G') (fun _ e => e) hm rd)
      · have x3 := Ex.called x2.rel (fun _ h => h) rfl dn
        exact hP _ _ h _ H' v (x2.trans r x3) (rd.mono (back_fro dn))
end
end Dl

namespace Dl
open PySem PySem.Spec PyProof.Rows L2

/-! ### calls of the text's own defs -/
theorem rpB_len {K : PySem.W.Frag} {G : Gh} {H : Hp} {st : Stt} {σ : Sg} : ∀ {ws : List W} {vs : List V}, RpB K G H st σ ws vs → vs.length = ws.length
  | [], [], _ => rfl
  | [], _ :: _, h => h.elim
  | _ :: _, [], h => h.elim
  | _ :: _, _ :: _, h => by rw [List.length_cons, List.length_cons, rpB_len h.2]
theorem rpB_app {K : PySem.W.Frag} {G : Gh} {H : Hp} {st : Stt} {σ : Sg} : ∀ {ws us : List W} {vs ys : List V}, RpB K G H st σ ws vs → RpB K G H st σ us ys → RpB K G H st σ (ws ++ us) (vs ++ ys)
  | [], _, [], _, _, h => h
  | [], _, _ :: _, _, h, _ => h.elim
  | _ :: _, _, [], _, h, _ => h.elim
  | _ :: _, _, _ :: _, _, h, k => ⟨h.1, rpB_app h.2 k⟩
/-- how a call's values are bound: perm tells the parameters' order, dfs the defaults that fill up -/
structure Bd (K : PySem.W.Frag) (fd : FuncData) (ps : List Str) (n : Nat) (ks : List Str) (perm : List Nat) (dfs : List D) (dvs : List V) : Prop where
  to : ∃ dus, Vals dvs dus ∧ ∀ (s : Shared) (us ws : List Value), K.In s.heap → us.length = n → ws.length = ks.length → BindsTo s fd ⟨us, ks.zip ws⟩ (ps.zip (gather perm (us ++ ws ++ dus)))
  rp : ∀ G H, RpL K G H dvs dfs
  len : perm.length = ps.length ∧ ∀ i ∈ perm, i < n + ks.length + dvs.length
theorem gather_vals {vs : List V} {us : List Value} (r : Vals vs us) : ∀ perm : List Nat, Vals (gather perm vs) (gather perm us)
  | [] => .nil
  | i :: perm => by
    have ih := gather_vals r perm
    unfold gather at ih ⊢
    cases e : vs[i]? with
    | none => rw [List.filterMap_cons_none e, List.filterMap_cons_none (r.none_of e)]; exact ih
    | some v =>
      obtain ⟨u, e2, rv⟩ := r.get e
      rw [List.filterMap_cons_some e, List.filterMap_cons_some e2]
      exact .cons rv ih
theorem gather_len {α : Type} {xs : List α} : ∀ {perm : List Nat}, (∀ i ∈ perm, i < xs.length) → (gather perm xs).length = perm.length
  | [], _ => rfl
  | i :: perm, h => by
    have ih := gather_len (perm := perm) fun j hj => h j (List.mem_cons_of_mem _ hj)
    unfold gather at ih ⊢
    rw [List.filterMap_cons_some (List.getElem?_eq_getElem (h i List.mem_cons_self)), List.length_cons, List.length_cons, ih]
def callE (F : List D → Option Dk → RF) (perm : List Nat) (dfs : List D) (n : Nat) (m : Ev (List W)) : Ev W := bindE m fun ws => fun st => if ws.length = n then callW F perm dfs ws st else .stuck
def callK (F : List D → Option Dk → RF) (perm : List Nat) (dfs : List D) (n k : Nat) (m : Ev (List W)) (mk : Ev (List W)) : Ev W :=
  bindE m fun ws => bindE mk fun us => fun st => if ws.length = n ∧ us.length = k then callW F perm dfs (ws ++ us) st else .stuck
section
variable {X : Cx} {Wx : WX} {k n : Nat} {f : Addr} {fd : FuncData} {ps ks : List Str} {perm : List Nat} {dfs : List D} {dvs : List V} {F : List D → Option Dk → RF}
theorem run_g {pins : List (Addr × Obj)} {σ : Sg} {H : Hp} {s : Shared} {Q : VK} {us wv : List Value} {vs zs : List V} {G0 G : Gh} {st0 st : Stt} {H0 : Hp} {ws : List W} {P : W → Stt → Prop}
    (fn : FnG X.prog X.w X.K X.mg X.base k f fd ps F) (hr : RoomG k X.A) (hb : Bd X.K fd ps n ks perm dfs dvs) (tk : Takes X Wx) (I : Inv X pins σ H s) (r1 : Vals vs us) (r2 : Vals zs wv) (l1 : us.length = n) (l2 : wv.length = ks.length)
    (r : Rel X.K G0 st0 σ H0) (x : Ex X.K σ G0 st0 H0 G st H) (rb : RpB X.K G H st σ ws (vs ++ zs)) (h : ResP X.K X.mg σ G0 Wx (callW F perm dfs ws st) P) (hP : ∀ w st2, P w st2 → ∀ G' H' v, Ex X.K σ G0 st0 H0 G' st2 H' → RpW X.K G' H' st2 σ H0 w v → Q v H') :
    wpAny (model X.prog X.w) X.A (call (.ref f) us (ks.zip wv)) (EP X pins σ Q) X.xe s := by
  obtain ⟨dus, rd, bind⟩ := hb.to
  obtain ⟨Gc, ds, en, rl, fin⟩ := callW_ok r x rb hb.rp h hP
  have lv : (vs ++ zs ++ dvs).length = n + ks.length + dvs.length := by rw [List.length_append, List.length_append, r1.length, r2.length, l1, l2]
  have hl : ds.length = ps.length := by
    rw [← rl.length, gather_len (fun i hi => by rw [lv]; exact hb.len.2 i hi)]
    exact hb.len.1
  refine wpAny_call (codeAny_mono (fn.run X.A X.stack s H ⟨us, ks.zip wv⟩ _ _ ds Gc st.dk Q (fun cl dx H' => Wx cl dx σ H') hr I.env0 (bind s us wv I.kIn l1 l2) (gather_vals ((r1.append r2).append rd) perm) hl en rl fin) fun res s' hq => ?_)
  cases res with
  | error e => exact tk e s' (XE.of_call I (fun _ _ _ q => q) hq)
  | ok fl =>
    cases fl with
    | ret u => exact I.after hq
    | next => exact hq.elim
    | brk => exact hq.elim
    | cont => exact hq.elim
variable {x : Str} {p pos : Pos} {e : Expr} {es : List Expr} {kws : List Keyword} {m mk : Ev (List W)}
theorem de_call (fn : FnG X.prog X.w X.K X.mg X.base k f fd ps F) (hr : RoomG k X.A) (hg : Gl X x) (hm : X.mg x = some (.ref f)) (hk : PySem.W.keepIn X.K (.ref f) = true) (hb : Bd X.K fd ps n [] perm dfs dvs) (tk : Takes X Wx)
    (ha : DB X Wx (e :: es) m) (hdb : (x == ("__debug__" : Str)) = false := by decide) (he : starEach (e :: es) X.env = (false, eval e X.env) :: starEach es X.env := by rfl) (hpl : (backTo pos (starEach es X.env)).any (·.1) = false := by rfl) :
    DE X Wx (.Call (.Name x p) (e :: es) [] pos) (callE F perm dfs n m) := ⟨fun pins s σ H Q I ⟨G, st, rel, h⟩ => by
  refine wpAny_Call_Name_kw (ld_glob I hg hm (PySem.W.callWith_K (h₀ := X.base) I.ok.mod.kin hk (thn (ha.run pos pins s σ H (fun vs H1 => ∃ G1 st1 ws, vs.length = n ∧ Ex X.K σ G st H G1 st1 H1 ∧ RpB X.K G1 H1 st1 σ ws vs ∧
    ResP X.K X.mg σ G Wx (callW F perm dfs ws st1) fun w st' => ∀ G' H' v, Ex X.K σ G st H G' st' H' → RpW X.K G' H' st' σ H w v → Q v H') I ?_) fun us s1 hh => ?_) he hpl) hdb)
  · refine stepB rel (.refl rel) h fun ws st1 G1 H1 vs x1 _ rb q => ?_
    split at q
    · rename_i hl
      exact ⟨G1, st1, ws, (rpB_len rb).trans hl, x1, rb, q⟩
    · exact q.elim
  · obtain ⟨vs, H1, I1, r1, G1, st1, ws, hl, x1, rb, q⟩ := hh
    refine ⟨I1.kIn, ?_⟩
    exact run_g (ws := ws) (zs := []) (wv := []) fn hr hb tk I1 r1 .nil (r1.length.symm.trans hl) rfl rel x1 (by rw [List.append_nil]; exact rb) q fun _ _ h => h⟩
theorem de_call0 (fn : FnG X.prog X.w X.K X.mg X.base k f fd ps F) (hr : RoomG k X.A) (hg : Gl X x) (hm : X.mg x = some (.ref f)) (hk : PySem.W.keepIn X.K (.ref f) = true) (hb : Bd X.K fd ps 0 [] perm dfs dvs) (tk : Takes X Wx)
    (hdb : (x == ("__debug__" : Str)) = false := by decide) : DE X Wx (.Call (.Name x p) [] [] pos) (callE F perm dfs 0 bNil) := ⟨fun pins s σ H Q I ⟨G, st, rel, h⟩ => by
  refine wpAny_Call_Name_kw (ld_glob I hg hm (PySem.W.callWith_K0 I.kIn hk ?_) hdb)
  exact run_g (ws := []) (vs := []) (us := []) (zs := []) (wv := []) fn hr hb tk I .nil .nil rfl rfl rel (.refl rel) trivial (show ResP _ _ _ _ _ (callW F perm dfs [] st) _ from h) fun _ _ h => h⟩
theorem de_callK (fn : FnG X.prog X.w X.K X.mg X.base k f fd ps F) (hr : RoomG k X.A) (hg : Gl X x) (hm : X.mg x = some (.ref f)) (hk : PySem.W.keepIn X.K (.ref f) = true) (hb : Bd X.K fd ps n ks perm dfs dvs) (tk : Takes X Wx)
    (ha : DB X Wx (e :: es) m) (hkw : DK X Wx kws mk) (hall : (backToKw pos (keywordEach kws X.env)).all (·.1.isSome) = true := by rfl) (hks : (backToKw pos (keywordEach kws X.env)).filterMap (·.1) = ks := by rfl)
    (hdb : (x == ("__debug__" : Str)) = false := by decide) (he : starEach (e :: es) X.env = (false, eval e X.env) :: starEach es X.env := by rfl)
    (hpl : ((backTo pos (starEach (e :: es) X.env)).any (·.1) || (backToKw pos (keywordEach kws X.env)).any (·.1.isNone)) = false := by rfl) :
    DE X Wx (.Call (.Name x p) (e :: es) kws pos) (callK F perm dfs n ks.length m mk) := ⟨fun pins s σ H Q I ⟨G, st, rel, h⟩ => by
  refine wpAny_Call_Name_kw (ld_glob I hg hm (PySem.W.callWith_KW (h₀ := X.base) I.ok.mod.kin hk hall (thn (ha.run pos pins s σ H (fun vs H1 => upB X.K X.mg Wx mk σ H1 fun zs H2 => ∃ G2 st2 ws us, vs.length = n ∧ zs.length = ks.length ∧ Ex X.K σ G st H G2 st2 H2 ∧ RpB X.K G2 H2 st2 σ (ws ++ us) (vs ++ zs) ∧
    ResP X.K X.mg σ G Wx (callW F perm dfs (ws ++ us) st2) fun w st' => ∀ G' H' v, Ex X.K σ G st H G' st' H' → RpW X.K G' H' st' σ H w v → Q v H') I ?_) fun us s1 hh => ?_) hpl he) hdb)
  · refine stepB rel (.refl rel) h fun ws st1 G1 H1 vs x1 _ rb q => ?_
    refine stepB rel x1 q fun us st2 G2 H2 zs x2 x12 rb2 q2 => ?_
    split at q2
    · rename_i hl
      exact ⟨G2, st2, ws, us, (rpB_len rb).trans hl.1, (rpB_len rb2).trans hl.2, x2, rpB_app (rpB_mono x12 x1.rel rb) rb2, q2⟩
    · exact q2.elim
  · obtain ⟨vs, H1, I1, r1, hh⟩ := hh
    refine thn (hkw.run pos pins s1 σ H1 _ I1 hh) fun wv s2 hh2 => ?_
    obtain ⟨zs, H2, I2, r2, G2, st2, ws, us', l1, l2, x2, rb, q⟩ := hh2
    refine ⟨I2.kIn, ?_⟩
    rw [hks]
    exact run_g (ws := ws ++ us') fn hr hb tk I2 r1 r2 (r1.length.symm.trans l1) (r2.length.symm.trans l2) rel x2 rb q fun _ _ h => h⟩
theorem de_callK0 (fn : FnG X.prog X.w X.K X.mg X.base k f fd ps F) (hr : RoomG k X.A) (hg : Gl X x) (hm : X.mg x = some (.ref f)) (hk : PySem.W.keepIn X.K (.ref f) = true) (hb : Bd X.K fd ps 0 ks perm dfs dvs) (tk : Takes X Wx)
    (hkw : DK X Wx kws mk) (hall : (backToKw pos (keywordEach kws X.env)).all (·.1.isSome) = true := by rfl) (hks : (backToKw pos (keywordEach kws X.env)).filterMap (·.1) = ks := by rfl)
    (hdb : (x == ("__debug__" : Str)) = false := by decide)
    (hpl : ((backTo pos (starEach [] X.env)).any (·.1) || (backToKw pos (keywordEach kws X.env)).any (·.1.isNone)) = false := by rfl) :
    DE X Wx (.Call (.Name x p) [] kws pos) (callK F perm dfs 0 ks.length bNil mk) := ⟨fun pins s σ H Q I ⟨G, st, rel, h⟩ => by
  refine wpAny_Call_Name_kw (ld_glob I hg hm (PySem.W.callWith_KW0 (h₀ := X.base) I.ok.mod.kin hk hall (thn (hkw.run pos pins s σ H (fun zs H2 => ∃ G2 st2 us, zs.length = ks.length ∧ Ex X.K σ G st H G2 st2 H2 ∧ RpB X.K G2 H2 st2 σ us zs ∧
    ResP X.K X.mg σ G Wx (callW F perm dfs us st2) fun w st' => ∀ G' H' v, Ex X.K σ G st H G' st' H' → RpW X.K G' H' st' σ H w v → Q v H') I ?_) fun wv s2 hh => ?_) hpl) hdb)
  · have h' : ResP X.K X.mg σ G Wx (bindE mk (fun us => fun st => if ([] : List W).length = 0 ∧ us.length = ks.length then callW F perm dfs ([] ++ us) st else .stuck) st) _ := h
    refine stepB rel (.refl rel) h' fun us st2 G2 H2 zs x2 _ rb q => ?_
    split at q
    · rename_i hl
      exact ⟨G2, st2, us, (rpB_len rb).trans hl.2, x2, rb, q⟩
    · exact q.elim
  · obtain ⟨zs, H2, I2, r2, G2, st2, us, l2, x2, rb, q⟩ := hh
    refine ⟨I2.kIn, ?_⟩
    rw [hks]
    exact run_g (ws := us) (vs := []) (us := []) fn hr hb tk I2 .nil r2 rfl (r2.length.symm.trans l2) rel x2 rb q fun _ _ h => h⟩
variable {me : Ev W} {nm : Option Str} {kpos : Pos}
theorem db_nil : DB X Wx [] bNil := useA pa_nil fun σ H Q ⟨G, st, rel, h⟩ => h G H [] (.refl rel) trivial
theorem db_cons (he : DE X Wx e me) (hr : DB X Wx es m) (hs : starEach (e :: es) X.env = (false, eval e X.env) :: starEach es X.env := by rfl) : DB X Wx (e :: es) (bCons me m) :=
  useA (pa_cons he hr hs) fun σ H Q ⟨G, st, rel, h⟩ => step rel (.refl rel) h fun w st1 G1 H1 v x1 _ rw' q => by
    obtain ⟨G2, x2, fr, ru, nf⟩ := unfresh_ok rel x1 rw'
    exact stepB rel x2 q fun ws st3 G3 H3 vs x3 x23 rb q3 => q3 G3 H3 _ x3 ⟨⟨argW_mono x23 x2.rel ru nf, nf⟩, rb⟩
theorem dk_nil : DK X Wx [] bNil := useK pk_nil fun σ H Q ⟨G, st, rel, h⟩ => h G H [] (.refl rel) trivial
theorem dk_cons (he : DE X Wx e me) (hr : DK X Wx kws m) : DK X Wx (⟨nm, e, kpos⟩ :: kws) (bCons me m) :=
  useK (pk_cons he hr) fun σ H Q ⟨G, st, rel, h⟩ => step rel (.refl rel) h fun w st1 G1 H1 v x1 _ rw' q => by
    obtain ⟨G2, x2, fr, ru, nf⟩ := unfresh_ok rel x1 rw'
    exact stepB rel x2 q fun ws st3 G3 H3 vs x3 x23 rb q3 => q3 G3 H3 _ x3 ⟨⟨argW_mono x23 x2.rel ru nf, nf⟩, rb⟩
end
end Dl

namespace Dl
open PySem PySem.Spec PyProof.Rows L2

/-! ### a block's own names forgotten, and given back -/
def wipeR (ρ : List Slot) : List Nat → List Slot
  | [] => ρ
  | v :: vs => (wipeR ρ vs).set v .un
def restR (ρ0 ρ1 : List Slot) : List Nat → List Slot
  | [] => ρ1
  | v :: vs => (restR ρ0 ρ1 vs).set v (ρ0.getD v .un)
def Stt.wipe (st : Stt) (vs : List Nat) : Stt := ⟨wipeR st.ρ vs, st.dk⟩
def Stt.rest (st st0 : Stt) (vs : List Nat) : Stt := ⟨restR st0.ρ st.ρ vs, st.dk⟩
def notLv : Option Slot → Bool
  | some (.lv _) => false
  | _ => true
def noLv (st : Stt) (vs : List Nat) : Bool := vs.all fun v => notLv st.ρ[v]?
theorem setMapGet {α : Type} {l : List α} {v j : Nat} {x : α} : (l.set v x)[j]? = if j = v then l[j]?.map (fun _ => x) else l[j]? := by
  by_cases e : j = v
  · subst e
    rw [if_pos rfl]
    by_cases h : j < l.length
    · rw [List.getElem?_set_self h, List.getElem?_eq_getElem h] <;> rfl
    · rw [List.getElem?_eq_none (by rw [List.length_set]; omega), List.getElem?_eq_none (by omega)] <;> rfl
  · rw [if_neg e, List.getElem?_set_ne (Ne.symm e)]
theorem wipeR_get {ρ : List Slot} {j : Nat} : ∀ {vs : List Nat}, (wipeR ρ vs)[j]? = if j ∈ vs then ρ[j]?.map (fun _ => Slot.un) else ρ[j]?
  | [] => by simp [wipeR]
  | v :: vs => by
    unfold wipeR
    rw [setMapGet, wipeR_get (vs := vs)]
    by_cases e : j = v
    · subst e
      simp only [if_true, List.mem_cons, true_or]
      split <;> (cases ρ[j]? <;> rfl)
    · simp only [e, if_false, List.mem_cons, false_or]
theorem restR_get {ρ0 ρ1 : List Slot} {j : Nat} : ∀ {vs : List Nat}, (restR ρ0 ρ1 vs)[j]? = if j ∈ vs then ρ1[j]?.map (fun _ => ρ0.getD j .un) else ρ1[j]?
  | [] => by simp [restR]
  | v :: vs => by
    unfold restR
    rw [setMapGet, restR_get (vs := vs)]
    by_cases e : j = v
    · subst e
      simp only [if_true, List.mem_cons, true_or]
      split <;> (cases ρ1[j]? <;> rfl)
    · simp only [e, if_false, List.mem_cons, false_or]
theorem wipe_get {σ : Sg} {j : Nat} : ∀ {vs : List Nat}, (wipe σ vs)[j]? = if j ∈ vs then σ[j]?.map (fun _ => none) else σ[j]?
  | [] => by simp [wipe]
  | v :: vs => by
    unfold wipe
    rw [setMapGet, wipe_get (vs := vs)]
    by_cases e : j = v
    · subst e
      simp only [if_true, List.mem_cons, true_or]
      split <;> (cases σ[j]? <;> rfl)
    · simp only [e, if_false, List.mem_cons, false_or]
theorem wipeR_len {ρ : List Slot} : ∀ {vs : List Nat}, (wipeR ρ vs).length = ρ.length
  | [] => rfl
  | v :: vs => by unfold wipeR; rw [List.length_set, wipeR_len]
theorem restR_len {ρ0 ρ : List Slot} : ∀ {vs : List Nat}, (restR ρ0 ρ vs).length = ρ.length
  | [] => rfl
  | v :: vs => by unfold restR; rw [List.length_set, restR_len]
theorem wipe_val {ρ : List Slot} {vs : List Nat} {j : Nat} {s : Slot} (h : (wipeR ρ vs)[j]? = some s) (n : s ≠ .un) : j ∉ vs ∧ ρ[j]? = some s := by
  rw [wipeR_get] at h
  split at h
  · cases q : ρ[j]? with
    | none => rw [q] at h; cases h
    | some z => rw [q] at h; cases h; exact absurd rfl n
  · rename_i e
    exact ⟨e, h⟩
theorem wipe_keep {ρ : List Slot} {vs : List Nat} {j : Nat} (h : j ∉ vs) : (wipeR ρ vs)[j]? = ρ[j]? := by rw [wipeR_get, if_neg h]
theorem wipe_un {ρ : List Slot} {vs : List Nat} {j : Nat} {s : Slot} (h : j ∈ vs) (e : ρ[j]? = some s) : (wipeR ρ vs)[j]? = some .un := by rw [wipeR_get, if_pos h, e] <;> rfl
theorem wipeS_keep {σ : Sg} {vs : List Nat} {j : Nat} (h : j ∉ vs) : (wipe σ vs)[j]? = σ[j]? := by rw [wipe_get, if_neg h]
theorem wipeS_val {σ : Sg} {vs : List Nat} {j : Nat} {v : V} (h : (wipe σ vs)[j]? = some (some v)) : j ∉ vs ∧ σ[j]? = some (some v) := by
  rw [wipe_get] at h
  split at h
  · cases q : σ[j]? with
    | none => rw [q] at h; cases h
    | some z => rw [q] at h; cases h
  · rename_i e
    exact ⟨e, h⟩
theorem Out.wipe {is vs : List Nat} {σ σ' : Sg} (h : Out is σ σ') (s : ∀ i ∈ is, i ∈ vs) : L2.wipe σ' vs = L2.wipe σ vs := by
  refine List.ext_getElem? fun j => ?_
  rw [wipe_get, wipe_get]
  by_cases e : j ∈ vs
  · rw [if_pos e, if_pos e]
    by_cases hl : j < σ.length
    · rw [List.getElem?_eq_getElem hl, List.getElem?_eq_getElem (by rw [h.len]; exact hl)] <;> rfl
    · have hl' := h.len
      rw [List.getElem?_eq_none (by omega), List.getElem?_eq_none (by omega)]
  · rw [if_neg e, if_neg e]
    exact h.aw j fun z => e (s j z)
theorem wipe_wipe {σ : Sg} {vs ws : List Nat} (h : ∀ i ∈ ws, i ∈ vs) : L2.wipe (L2.wipe σ ws) vs = L2.wipe σ vs := by
  refine List.ext_getElem? fun j => ?_
  rw [wipe_get, wipe_get, wipe_get]
  by_cases e : j ∈ vs
  · rw [if_pos e, if_pos e]
    split <;> cases σ[j]? <;> rfl
  · rw [if_neg e, if_neg e, if_neg fun z => e (h j z)]
theorem wipeR_wipe {ρ : List Slot} {vs ws : List Nat} (h : ∀ i ∈ ws, i ∈ vs) : wipeR (wipeR ρ ws) vs = wipeR ρ vs := by
  refine List.ext_getElem? fun j => ?_
  rw [wipeR_get, wipeR_get, wipeR_get]
  by_cases e : j ∈ vs
  · rw [if_pos e, if_pos e]
    split <;> cases ρ[j]? <;> rfl
  · rw [if_neg e, if_neg e, if_neg fun z => e (h j z)]
theorem Stt.wipe_wipe {st : Stt} {vs ws : List Nat} (h : ∀ i ∈ ws, i ∈ vs) : (st.wipe ws).wipe vs = st.wipe vs := by
  unfold Stt.wipe
  rw [wipeR_wipe h]
/-- what a target's store does to the places -/
def GT (is : List Nat) (g : D → Stt → Option Stt) : Prop := ∀ d st st', g d st = some st' → st'.dk = st.dk ∧ st'.ρ.length = st.ρ.length ∧ (∀ j, j ∉ is → st'.ρ[j]? = st.ρ[j]?) ∧ ∀ (j : Nat) (e : D), st'.ρ[j]? = some (.lv e) → st.ρ[j]? = some (.lv e)
def GTs (is : List Nat) (g : List D → Stt → Option Stt) : Prop := ∀ d st st', g d st = some st' → st'.dk = st.dk ∧ st'.ρ.length = st.ρ.length ∧ (∀ j, j ∉ is → st'.ρ[j]? = st.ρ[j]?) ∧ ∀ (j : Nat) (e : D), st'.ρ[j]? = some (.lv e) → st.ρ[j]? = some (.lv e)
theorem gt_name {i : Nat} : GT [i] (nmG i) := fun d st st' h => by
  cases h
  refine ⟨rfl, by show (st.ρ.set i _).length = _; rw [List.length_set], fun j hj => ?_, fun j e h => ?_⟩
  · show (st.ρ.set i _)[j]? = _
    rw [List.getElem?_set_ne]
    rintro rfl
    exact hj List.mem_cons_self
  · rcases getSet h with ⟨rfl, z, _⟩ | ⟨n, h⟩
    · cases z
    · exact h
theorem gts_nil : GTs [] nilG := fun d st st' h => by
  cases d with
  | nil => cases h; exact ⟨rfl, rfl, fun _ _ => rfl, fun _ _ h => h⟩
  | cons _ _ => cases h
theorem gts_cons {is js : List Nat} {g : D → Stt → Option Stt} {h : List D → Stt → Option Stt} (h1 : GT is g) (h2 : GTs js h) : GTs (is ++ js) (consG g h) := fun d st st' e => by
  cases d with
  | nil => cases e
  | cons x r =>
    obtain ⟨s1, e1, e2⟩ := Option.bind_eq_some_iff.mp (show (g x st).bind (h r) = some st' from e)
    obtain ⟨a1, a2, a3, a4⟩ := h1 x st s1 e1
    obtain ⟨b1, b2, b3, b4⟩ := h2 r s1 st' e2
    exact ⟨b1.trans a1, b2.trans a2, fun j hj => (b3 j fun z => hj (List.mem_append_right _ z)).trans (a3 j fun z => hj (List.mem_append_left _ z)), fun j e h => a4 j e (b4 j e h)⟩
theorem gt_tup {is : List Nat} {n : Nat} {h : List D → Stt → Option Stt} (h1 : GTs is h) : GT is (tupG n h) := fun d st st' e => by
  unfold tupG at e
  split at e
  · split at e
    · exact h1 _ _ _ e
    · cases e
  · cases e
theorem GT.wipe {is vs : List Nat} {g : D → Stt → Option Stt} (h : GT is g) (s : ∀ i ∈ is, i ∈ vs) {d : D} {st st' : Stt} (e : g d st = some st') : st'.wipe vs = st.wipe vs := by
  obtain ⟨a1, a2, a3, _⟩ := h d st st' e
  unfold Stt.wipe
  rw [a1]
  congr 1
  refine List.ext_getElem? fun j => ?_
  rw [wipeR_get, wipeR_get]
  by_cases z : j ∈ vs
  · rw [if_pos z, if_pos z]
    by_cases hl : j < st.ρ.length
    · rw [List.getElem?_eq_getElem hl, List.getElem?_eq_getElem (by rw [a2]; exact hl)] <;> rfl
    · rw [List.getElem?_eq_none (by omega), List.getElem?_eq_none (by omega)]
  · rw [if_neg z, if_neg z]
    exact a3 j fun q => z (s j q)
/-- no container among the block's own names -/
def NoLv (st : Stt) (vs : List Nat) : Prop := ∀ j ∈ vs, ∀ d : D, st.ρ[j]? ≠ some (.lv d)
theorem noLv_ok {st : Stt} {vs : List Nat} (h : noLv st vs = true) : NoLv st vs := fun j hj d e => by
  have := List.all_eq_true.mp h j hj
  rw [e] at this
  cases this
theorem GT.nolv {is vs : List Nat} {g : D → Stt → Option Stt} (h : GT is g) {d : D} {st st' : Stt} (e : g d st = some st') (n : NoLv st vs) : NoLv st' vs := fun j hj d' z => n j hj d' ((h d st st' e).2.2.2 j d' z)
theorem nolv_wipe {st : Stt} {vs : List Nat} : NoLv (st.wipe vs) vs := fun j hj d e => (wipe_val e (fun z => by cases z)).1 hj

section
variable {K : PySem.W.Frag} {σ : Sg} {G G1 G2 : Gh} {st st1 st2 : Stt} {H H1 H2 : Hp} {vs ws : List Nat}
theorem NoLv.ex (n : NoLv st vs) (x : Ex K σ G st H G1 st1 H1) : NoLv st1 vs := fun j hj d e => by
  obtain ⟨d', e'⟩ := x.lives j d e
  exact n j hj d' e'
theorem Rel.wipe (r : Rel K G st σ H) : Rel K G (st.wipe vs) (L2.wipe σ vs) H :=
  ⟨r.g, r.dko, by show (wipeR _ _).length = _; rw [wipeR_len, wipe_length]; exact r.len, fun i d e => by
    obtain ⟨hj, e'⟩ := wipe_val e (fun z => by cases z)
    obtain ⟨v, s, q⟩ := r.fz i d e'
    exact ⟨v, (wipeS_keep hj).trans s, q⟩, fun i d e => by
    obtain ⟨hj, e'⟩ := wipe_val e (fun z => by cases z)
    obtain ⟨v, s, q⟩ := r.lv i d e'
    exact ⟨v, (wipeS_keep hj).trans s, q⟩, fun i j d e a h1 h2 s1 s2 =>
    r.ap i j d e a (wipe_val h1 (fun z => by cases z)).2 (wipe_val h2 (fun z => by cases z)).2 (wipeS_val s1).2 (wipeS_val s2).2⟩
theorem live_wipe (n : NoLv st vs) {a : Addr} (l : LiveAt st σ a) : LiveAt (st.wipe vs) (L2.wipe σ vs) a := by
  obtain ⟨i, d, e, s⟩ := l
  have hi : i ∉ vs := fun z => n i z d e
  exact ⟨i, d, (wipe_keep hi).trans e, (wipeS_keep hi).trans s⟩
theorem live_unwipe {a : Addr} (l : LiveAt (st.wipe vs) (L2.wipe σ vs) a) : LiveAt st σ a := by
  obtain ⟨i, d, e, s⟩ := l
  exact ⟨i, d, (wipe_val e (fun z => by cases z)).2, (wipeS_val s).2⟩
theorem Ex.wipe (n : NoLv st vs) (x : Ex K σ G st H G1 st1 H1) : Ex K (L2.wipe σ vs) G (st.wipe vs) H G1 (st1.wipe vs) H1 := by
  refine ⟨x.rel.wipe, x.bs, x.f, fun a h => ?_, fun a o e l d => x.keep a o e (fun z => l (live_wipe n z)) d, x.tr, fun i d e => ?_, fun i d e => ?_, fun i d e => ?_, fun i e => ?_, x.dkm, x.dkn⟩
  · rcases x.fn a h with z | z | z
    · exact .inl z
    · exact .inr (.inl z)
    · exact .inr (.inr (live_wipe n z))
  · obtain ⟨hj, e'⟩ := wipe_val e (fun z => by cases z)
    obtain ⟨d', q⟩ := x.lives i d e'
    exact ⟨d', (wipe_keep hj).trans q⟩
  · obtain ⟨hj, e'⟩ := wipe_val e (fun z => by cases z)
    exact (wipe_keep hj).trans (x.slf i d e')
  · obtain ⟨hj, e'⟩ := wipe_val e (fun z => by cases z)
    obtain ⟨d', q | q⟩ := x.sll i d e'
    · exact ⟨d', .inl ((wipe_keep hj).trans q)⟩
    · exact ⟨d', .inr ((wipe_keep hj).trans q)⟩
  · by_cases hj : i ∈ vs
    · have hl : i < (wipeR st.ρ vs).length := (List.getElem?_eq_some_iff.mp e).1
      rw [wipeR_len] at hl
      have hl1 : i < st1.ρ.length := by
        have a := x.rel.len
        obtain ⟨s0, hs0⟩ : ∃ s0, st.ρ[i]? = some s0 := ⟨_, List.getElem?_eq_getElem hl⟩
        cases s0 with
        | un => exact (List.getElem?_eq_some_iff.mp (x.slu i hs0)).1
        | fz d => exact (List.getElem?_eq_some_iff.mp (x.slf i d hs0)).1
        | lv d => exact absurd hs0 (n i hj d)
      exact wipe_un hj (List.getElem?_eq_getElem hl1)
    · exact (wipe_keep hj).trans (x.slu i ((wipe_keep hj).symm.trans e))
/-- behind the block -/
theorem Ex.unwipe (r : Rel K G st σ H) (n : NoLv st vs) (x : Ex K (L2.wipe σ vs) G (st.wipe vs) H G1 (st1.wipe vs) H1) : Ex K σ G st H G1 (st1.rest st vs) H1 := by
  have fr := x.fro r.wipe
  have len : st1.ρ.length = σ.length := by
    have := x.rel.len
    rw [wipe_length] at this
    rw [← this]
    exact wipeR_len.symm
  have get : ∀ {j : Nat} {s : Slot}, (restR st.ρ st1.ρ vs)[j]? = some s → s ≠ .un → (j ∈ vs ∧ st.ρ[j]? = some s) ∨ (j ∉ vs ∧ st1.ρ[j]? = some s) := fun {j s} e h => by
    rw [restR_get] at e
    split at e
    · rename_i hj
      have hl : j < st1.ρ.length := by
        cases q : st1.ρ[j]? with
        | none => rw [q] at e; cases e
        | some z => exact (List.getElem?_eq_some_iff.mp q).1
      have hl0 : j < st.ρ.length := by rw [r.len, ← len]; exact hl
      rw [List.getElem?_eq_getElem hl] at e
      simp only [Option.map_some, Option.some.injEq, List.getD_eq_getElem?_getD, List.getElem?_eq_getElem hl0, Option.getD_some] at e
      exact .inl ⟨hj, by rw [List.getElem?_eq_getElem hl0, e]⟩
    · rename_i hj
      exact .inr ⟨hj, e⟩
  have put : ∀ {j : Nat} {s : Slot}, j ∈ vs → st.ρ[j]? = some s → (restR st.ρ st1.ρ vs)[j]? = some s := fun {j s} hj e => by
    have hl : j < st1.ρ.length := by rw [len, ← r.len]; exact (List.getElem?_eq_some_iff.mp e).1
    rw [restR_get, if_pos hj, List.getElem?_eq_getElem hl]
    simp only [Option.map_some, Option.some.injEq, List.getD_eq_getElem?_getD, e, Option.getD_some]
  have out : ∀ {j : Nat}, j ∉ vs → (restR st.ρ st1.ρ vs)[j]? = st1.ρ[j]? := fun {j} hj => by rw [restR_get, if_neg hj]
  have lvs : ∀ {j : Nat} {d : D}, (restR st.ρ st1.ρ vs)[j]? = some (.lv d) → j ∉ vs ∧ (wipeR st1.ρ vs)[j]? = some (.lv d) := fun {j d} e => by
    rcases get e (fun z => by cases z) with ⟨hj, q⟩ | ⟨hj, q⟩
    · exact absurd q (n j hj d)
    · exact ⟨hj, (wipe_keep hj).trans q⟩
  refine ⟨⟨x.rel.g, x.rel.dko, by show (restR _ _ _).length = _; rw [restR_len]; exact len, fun i d e => ?_, fun i d e => ?_, fun i j d e a h1 h2 s1 s2 => ?_⟩, x.bs, x.f, fun a h => ?_, fun a o e l d => x.keep a o e (fun z => l (live_unwipe z)) d, x.tr, fun i d e => ?_, fun i d e => ?_, fun i d e => ?_, fun i e => ?_, x.dkm, x.dkn⟩
  · rcases get e (fun z => by cases z) with ⟨hj, q⟩ | ⟨hj, q⟩
    · obtain ⟨v, s, p⟩ := r.fz i d q
      exact ⟨v, s, p.mono fr⟩
    · obtain ⟨v, s, p⟩ := x.rel.fz i d ((wipe_keep hj).trans q)
      exact ⟨v, (wipeS_keep hj).symm.trans s, p⟩
  · obtain ⟨hj, q⟩ := lvs e
    obtain ⟨a, s, p⟩ := x.rel.lv i d q
    exact ⟨a, (wipeS_keep hj).symm.trans s, p⟩
  · obtain ⟨hi, q1⟩ := lvs h1
    obtain ⟨hj, q2⟩ := lvs h2
    exact x.rel.ap i j d e a q1 q2 ((wipeS_keep hi).trans s1) ((wipeS_keep hj).trans s2)
  · rcases x.fn a h with z | z | z
    · exact .inl z
    · exact .inr (.inl z)
    · exact .inr (.inr (live_unwipe z))
  · obtain ⟨hj, q⟩ := lvs e
    obtain ⟨d', q'⟩ := x.lives i d q
    exact ⟨d', (wipe_val q' (fun z => by cases z)).2⟩
  · by_cases hj : i ∈ vs
    · exact put hj e
    · exact (out hj).trans ((wipe_keep hj).symm.trans (x.slf i d ((wipe_keep hj).trans e)))
  · have hj : i ∉ vs := fun z => n i z d e
    obtain ⟨d', q | q⟩ := x.sll i d ((wipe_keep hj).trans e)
    · exact ⟨d', .inl ((out hj).trans ((wipe_keep hj).symm.trans q))⟩
    · exact ⟨d', .inr ((out hj).trans ((wipe_keep hj).symm.trans q))⟩
  · by_cases hj : i ∈ vs
    · exact put hj e
    · exact (out hj).trans ((wipe_keep hj).symm.trans (x.slu i ((wipe_keep hj).trans e)))

/-! ### the list that is being made -/
theorem ownUpd_fro {a : Addr} {u o : HO} (n : ¬ G.F a) (e : H a = some u) (b : isBo u) : Fro G H G (upd H a o) := by
  have tn : ∀ {c : Addr} {w : HO}, H c = some w → ¬ isBo w → c ≠ a := fun {c w} h nb z => by
    subst z
    rw [e] at h
    cases h
    exact nb b
  have fn : ∀ {c : Addr}, G.F c → c ≠ a := fun h z => n (z ▸ h)
  exact ⟨fun _ h => h, fun c xs f h => by rw [upd_ne (fn f)]; exact h, fun c w f h => by
    rcases h with h | ⟨q, h⟩
    · exact .inl (by rw [upd_ne (fn f)]; exact h)
    · exact .inr ⟨q, by rw [upd_ne (fn f)]; exact h⟩, fun c xs h => by rw [upd_ne (tn h id)]; exact h, fun c q xs h => by rw [upd_ne (tn h id)]; exact h, fun _ h => h⟩
theorem Rel.updOwn (r : Rel K G st σ H) {a : Addr} {u o : HO} (w : Own G a) (l : ¬ LiveAt st σ a) (e : H a = some u) (b : isBo u) : Rel K G st σ (upd H a o) := by
  have fr : Fro G H G (upd H a o) := ownUpd_fro w.nf e b
  have tr : ∀ c, H c ≠ none → upd H a o c ≠ none := fun c h => by
    by_cases z : c = a
    · subst z; rw [upd_same]; exact fun z => by cases z
    · rw [upd_ne z]; exact h
  refine ⟨⟨r.g.f0, r.g.fn, fun c f => tr c (r.g.ft c f), fun c v h d => ?_, fun c h => tr c (r.g.tr c h), r.g.d0, r.g.dn, r.g.nd⟩, ?_, r.len, fun i d h => ?_, fun i d h => ?_, r.ap⟩
  · have hc : c ≠ a := fun z => by
      subst z
      rw [w.h0] at h
      cases h
    rw [upd_ne hc]
    exact r.g.keep c v h d
  · have h := r.dko
    unfold DkOk at h ⊢
    cases q : G.dk with
    | none =>
      rw [q] at h
      cases q2 : st.dk with
      | none => trivial
      | some k => rw [q2] at h; exact h
    | some z =>
      obtain ⟨p', c'⟩ := z
      rw [q] at h
      cases q2 : st.dk with
      | none => rw [q2] at h; exact h
      | some k =>
        rw [q2] at h
        obtain ⟨h1, h2, h3⟩ := h
        have n1 : p' ≠ a := fun z => w.nd ⟨p', c', q, .inl z.symm⟩
        have n2 : c' ≠ a := fun z => w.nd ⟨p', c', q, .inr z.symm⟩
        exact ⟨by rw [upd_ne n1]; exact h1, by rw [upd_ne n2]; exact h2, h3⟩
  · obtain ⟨v, s, q⟩ := r.fz i d h
    exact ⟨v, s, q.mono fr⟩
  · obtain ⟨c, s, o', q⟩ := r.lv i d h
    have hc : c ≠ a := fun z => l (by subst z; exact ⟨i, d, h, s⟩)
    exact ⟨c, s, o', q.mono fr (upd_ne hc)⟩
theorem Ex.updOwn (x : Ex K σ G st H G1 st1 H1) {a : Addr} {u o : HO} (n : H a = none) (w : Own G1 a) (l : ¬ LiveAt st1 σ a) (e : H1 a = some u) (b : isBo u) : Ex K σ G st H G1 st1 (upd H1 a o) :=
  ⟨x.rel.updOwn w l e b, x.bs, x.f, x.fn, fun c v h q d => by rw [upd_ne (ne_of_none h n)]; exact x.keep c v h q d, fun c h => by
    by_cases z : c = a
    · subst z; rw [upd_same]; exact fun z => by cases z
    · rw [upd_ne z]; exact x.tr c h, x.lives, x.slf, x.sll, x.slu, x.dkm, x.dkn⟩
end

/-! ### comprehensions -/
/-- one clause: the items of ds, each stored, then the rest b with what is made so far -/
def lcL (vs : List Nat) (g : D → Stt → Option Stt) (b : List D → Ev (List D)) : List D → List D → Ev (List D)
  | [], acc => okE acc
  | d :: r, acc => fun st => match g d (st.wipe vs) with
    | none => .stuck
    | some st1 => match b acc st1 with
      | .ok acc' st2 => lcL vs g b r acc' st2
      | _ => .stuck
def lcB (t : Ev Bool) (k : List D → Ev (List D)) (acc : List D) : Ev (List D) := fun st => match t st with
  | .ok true st1 => k acc st1
  | .ok false st1 => .ok acc st1
  | _ => .stuck
def lcP (e : Ev W) (acc : List D) : Ev (List D) := fun st => match e st with
  | .ok w st1 => match keepW w st1 with
    | .ok y st2 => if acc.length < big then .ok (acc ++ [y]) st2 else .stuck
    | _ => .stuck
  | _ => .stuck
def lcI (m : Ev (List D)) (k : List D → List D → Ev (List D)) (acc : List D) : Ev (List D) := fun st => match m st with
  | .ok ds st1 => k ds acc st1
  | _ => .stuck
def lcE (vs : List Nat) (m : Ev (List D)) (g : D → Stt → Option Stt) (b : List D → Ev (List D)) : Ev W := bindE m fun ds st => if noLv st vs = true then match lcL vs g b ds [] st with
    | .ok acc st' => .ok (.fresh (.lst acc)) (st'.rest st vs)
    | _ => .stuck
  else .stuck
def WF : WX := fun _ _ _ _ => False
/-- the tests of a clause -/
abbrev DTs (X : Cx) (es : List Expr) (m : Ev Bool) : Prop := PTs X es (upT X.K X.mg WF m)
theorem useTs {X : Cx} {e : List Expr} {t t' : TT} (h : PTs X e t) (i : ∀ σ H Q, t' σ H Q → t σ H Q) : PTs X e t' := ⟨fun pins s σ H Q I q => h.run pins s σ H Q I (i σ H Q q)⟩
theorem dts_nil {X : Cx} : DTs X [] (okE true) := useTs pts_nil fun σ H Q ⟨G, st, r, h⟩ => h G H (.refl r)
theorem dts_one {X : Cx} {c : Expr} {m : Ev Bool} (h : DT X WF c m) : DTs X [c] m := pts_one h
/-- how things stand within a block: Hs the heap ahead of it, L the list that is made, acc what is in it -/
structure Mk (K : PySem.W.Frag) (vs : List Nat) (σ0 : Sg) (G0 : Gh) (st0 : Stt) (H0 : Hp) (L : Addr) (σ : Sg) (G : Gh) (st : Stt) (H : Hp) (acc : List D) : Prop where
  rel : Rel K G st σ H
  sg : wipe σ vs = wipe σ0 vs
  ex : Ex K (wipe σ0 vs) G0 (st0.wipe vs) H0 G (st.wipe vs) H
  nl : NoLv st vs
  l0 : H0 L = none
  own : Own G L
  l : ∃ xs, H L = some (.lst xs) ∧ RpL K G H xs acc
section
variable {K : PySem.W.Frag} {mg : Str → Option Value} {vs ws : List Nat} {σ0 σ σ1 : Sg} {G0 G G1 : Gh} {st0 st st1 : Stt} {H0 H H1 : Hp} {L : Addr} {acc : List D}
theorem Mk.nlive (k : Mk K vs σ0 G0 st0 H0 L σ G st H acc) (r0 : Rel K G0 st0 σ0 H0) : ¬ LiveAt st σ L := fun l => by
  have := live_wipe k.nl l
  rw [k.sg] at this
  exact fresh_nl r0.wipe k.ex k.l0 this
/-- an expression within -/
theorem Mk.step (k : Mk K vs σ0 G0 st0 H0 L σ G st H acc) (r0 : Rel K G0 st0 σ0 H0) (x : Ex K σ G st H G1 st1 H1) : Mk K vs σ0 G0 st0 H0 L σ G1 st1 H1 acc := by
  have xw := x.wipe (vs := vs) k.nl
  rw [k.sg] at xw
  obtain ⟨xs, e, rl⟩ := k.l
  have n := k.nlive r0
  refine ⟨x.rel, k.sg, k.ex.trans r0.wipe xw, k.nl.ex x, k.l0, ?_, xs, x.keep L _ e n k.own.nd, rl.mono (x.fro k.rel)⟩
  refine ⟨fun f => ?_, by rw [x.bs.h]; exact k.own.h0, fun d => ?_⟩
  · rcases x.fn L f with z | z | z
    · exact k.own.nf z
    · rw [e] at z; cases z
    · exact n z
  · rcases x.dkBack d with z | z
    · exact k.own.nd z
    · rw [e] at z; cases z
/-- a target's store -/
theorem Mk.tgt {is : List Nat} {g : D → Stt → Option Stt} {d : D} (k : Mk K vs σ0 G0 st0 H0 L σ G st H acc) (hg : GT is g) (hs : ∀ i ∈ is, i ∈ vs) (e : g d st = some st1) (r : Rel K G st1 σ1 H) (o : Out is σ σ1) : Mk K vs σ0 G0 st0 H0 L σ1 G st1 H acc :=
  ⟨r, (o.wipe hs).trans k.sg, by rw [hg.wipe hs e]; exact k.ex, hg.nolv e k.nl, k.l0, k.own, k.l⟩
theorem Mk.wipe (k : Mk K vs σ0 G0 st0 H0 L σ G st H acc) (h : ∀ i ∈ ws, i ∈ vs) : Mk K vs σ0 G0 st0 H0 L (L2.wipe σ ws) G (st.wipe ws) H acc :=
  ⟨k.rel.wipe, (wipe_wipe h).trans k.sg, by rw [Stt.wipe_wipe h]; exact k.ex, fun j hj d e => k.nl j hj d (wipe_val e (fun z => by cases z)).2, k.l0, k.own, k.l⟩
theorem Mk.grow (k : Mk K vs σ0 G0 st0 H0 L σ G st H acc) (r0 : Rel K G0 st0 σ0 H0) (h : H1 = H ∨ ∃ T vs, H T = none ∧ H1 = upd H T (.tup vs)) : Mk K vs σ0 G0 st0 H0 L σ G st H1 acc := by
  rcases h with rfl | ⟨T, us, n, rfl⟩
  · exact k
  · exact k.step r0 ((Ex.refl k.rel).alloc n)
theorem Mk.push {d : D} {xs : List V} {v : V} (k : Mk K vs σ0 G0 st0 H0 L σ G st H acc) (r0 : Rel K G0 st0 σ0 H0) (e : H L = some (.lst xs)) (rl : RpL K G H xs acc) (rd : Rp K G H v d) : Mk K vs σ0 G0 st0 H0 L σ G st (upd H L (.lst (xs ++ [v]))) (acc ++ [d]) := by
  have n := k.nlive r0
  have fr := ownUpd_fro (o := HO.lst (xs ++ [v])) k.own.nf e trivial
  have nw : ¬ LiveAt (st.wipe vs) (L2.wipe σ0 vs) L := fresh_nl r0.wipe k.ex k.l0
  exact ⟨k.rel.updOwn k.own n e trivial, k.sg, k.ex.updOwn k.l0 k.own nw e trivial, k.nl, k.l0, k.own, _, upd_same, (rl.append (.cons rd .nil)).mono fr⟩
end
end Dl

namespace Dl
open PySem PySem.Spec PyProof.Rows L2

section
variable {K : PySem.W.Frag} {mg : Str → Option Value} {vs ws : List Nat} {σ0 σ : Sg} {G0 G : Gh} {st0 st stF : Stt} {H0 H : Hp} {L : Addr} {acc accF : List D} {g : D → Stt → Option Stt} {b : List D → Ev (List D)}
theorem Mk.fro {G1 : Gh} {st1 : Stt} {H1 : Hp} (k : Mk K vs σ0 G0 st0 H0 L σ G st H acc) (x : Ex K σ G st H G1 st1 H1) : Fro G H G1 H1 := x.fro k.rel
/-- a clause's loop -/
theorem lc_loop {J : It} {ds : List D} {Gw : Gh} {Hw : Hp} {Qd : Hp → Prop} {body : V → Hp → (Hp → Prop) → Prop} (r0 : Rel K G0 st0 σ0 H0) (w : WalkD K Gw Hw J ds) (fw : Fro Gw Hw G H) (k : Mk K vs σ0 G0 st0 H0 L σ G st H acc) (e : lcL ws g b ds acc st = .ok accF stF)
    (hb : ∀ (d : D) (x : V) (acc : List D) (st st1 : Stt) (accN : List D) (stN : Stt) (σ' : Sg) (G' : Gh) (H' : Hp) (Nx : Hp → Prop), g d (st.wipe ws) = some st1 → b acc st1 = .ok accN stN → Mk K vs σ0 G0 st0 H0 L σ' G' st H' acc → wipe σ' ws = wipe σ ws → Rp K G' H' x d →
      (∀ σ2 G2 H2, Mk K vs σ0 G0 st0 H0 L σ2 G2 stN H2 accN → wipe σ2 ws = wipe σ ws → Fro G' H' G2 H2 → Nx H2) → body x H' Nx)
    (hd : ∀ σ' G' H', Mk K vs σ0 G0 st0 H0 L σ' G' stF H' accF → wipe σ' ws = wipe σ ws → Fro G H G' H' → Qd H') :
    ∃ W : Nat → Nat → Hp → Prop, (∃ m, W 0 m H) ∧ ∀ i m H, W i m H → (J.stop i H ∧ Qd H) ∨ (J.go i H ∧ ∃ Nx : Hp → Prop, (∀ H', Nx H' → ∃ m', m' < m ∧ W (i + 1) m' H') ∧ ∀ x H', J.yld i H x H' → body x H' Nx) := by
  refine ⟨fun i m H' => m = ds.length - i ∧ i ≤ ds.length ∧ ∃ σ' G' st' acc', Mk K vs σ0 G0 st0 H0 L σ' G' st' H' acc' ∧ wipe σ' ws = wipe σ ws ∧ Fro G H G' H' ∧ lcL ws g b (ds.drop i) acc' st' = .ok accF stF, ⟨ds.length, by simp, Nat.zero_le _, σ, G, st, acc, k, rfl, .refl, e⟩, ?_⟩
  rintro i m H1 ⟨rfl, hi, σ1, G1, st1, acc1, k1, s1, f1, e1⟩
  obtain ⟨w1, w2⟩ := w G1 H1 (fw.trans f1)
  by_cases hlt : i < ds.length
  · obtain ⟨go, yl⟩ := w2 i ds[i] (List.getElem?_eq_getElem hlt)
    rw [List.drop_eq_getElem_cons hlt] at e1
    simp only [lcL] at e1
    cases q1 : g ds[i] (st1.wipe ws) with
    | none => simp only [q1] at e1; cases e1
    | some st2 =>
      simp only [q1] at e1
      cases q2 : b acc1 st2 with
      | stuck => simp only [q2] at e1; cases e1
      | exc _ _ => simp only [q2] at e1; cases e1
      | ok acc3 st3 =>
        simp only [q2] at e1
        refine .inr ⟨go, fun H' => ∃ σ' G', Mk K vs σ0 G0 st0 H0 L σ' G' st3 H' acc3 ∧ wipe σ' ws = wipe σ ws ∧ Fro G H G' H', fun H' ⟨σ', G', k', s', f'⟩ => ⟨ds.length - (i + 1), by omega, rfl, hlt, σ', G', st3, acc3, k', s', f', e1⟩, fun x H2 hy => ?_⟩
        obtain ⟨gr, rp⟩ := yl x H2 hy
        have k2 := k1.grow r0 gr
        have f2 : Fro G H G1 H2 := f1.trans (by
          rcases gr with rfl | ⟨T, us, n, rfl⟩
          · exact .refl
          · exact upd_fro n)
        exact hb ds[i] x acc1 st1 st2 acc3 st3 σ1 G1 H2 _ q1 q2 k2 s1 rp fun σ4 G4 H4 k4 s4 f4 => ⟨σ4, G4, k4, s4, f2.trans f4⟩
  · have z : i = ds.length := by omega
    subst z
    rw [List.drop_length] at e1
    have e1 : R.ok acc1 st1 = .ok accF stF := e1
    cases e1
    exact .inl ⟨w1, hd σ1 G1 H1 k1 s1 f1⟩
/-- the tests -/
theorem lc_tests {t : Ev Bool} {kb : List D → Ev (List D)} {Nx : Hp → Prop} {T : Hp → Prop} (r0 : Rel K G0 st0 σ0 H0) (k : Mk K vs σ0 G0 st0 H0 L σ G st H acc) (e : lcB t kb acc st = .ok accF stF)
    (hN : ∀ G2 H2, Mk K vs σ0 G0 st0 H0 L σ G2 stF H2 accF → Fro G H G2 H2 → Nx H2) (hT : ∀ st1 G2 H2, Mk K vs σ0 G0 st0 H0 L σ G2 st1 H2 acc → Fro G H G2 H2 → kb acc st1 = .ok accF stF → T H2) :
    upT K mg WF t σ H fun b H3 => if b = true then T H3 else Nx H3 := by
  refine ⟨G, st, k.rel, ?_⟩
  unfold lcB at e
  cases q : t st with
  | stuck => rw [q] at e; cases e
  | exc _ _ => rw [q] at e; cases e
  | ok p st1 =>
    rw [q] at e
    intro G' H' x
    cases p with
    | true =>
      rw [if_pos rfl]
      exact hT st1 G' H' (k.step r0 x) (k.fro x) e
    | false =>
      rw [if_neg (by decide)]
      cases e
      exact hN G' H' (k.step r0 x) (k.fro x)
/-- the element -/
theorem lc_elt {m : Ev W} {Nx : Hp → Prop} (r0 : Rel K G0 st0 σ0 H0) (k : Mk K vs σ0 G0 st0 H0 L σ G st H acc) (e : lcP m acc st = .ok accF stF)
    (hN : ∀ G2 H2, Mk K vs σ0 G0 st0 H0 L σ G2 stF H2 accF → Fro G H G2 H2 → Nx H2) :
    upE K mg WF m σ H fun y H4 => ∃ acc, H4 L = some (.lst acc) ∧ acc.length < sizeLine ∧ Nx (upd H4 L (.lst (acc ++ [y]))) := by
  refine ⟨G, st, k.rel, ?_⟩
  unfold lcP at e
  cases q : m st with
  | stuck => rw [q] at e; cases e
  | exc _ _ => rw [q] at e; cases e
  | ok w st1 =>
    simp only [q] at e
    intro G' H' v x rw'
    cases q2 : keepW w st1 with
    | stuck => rw [q2] at e; cases e
    | exc _ _ => rw [q2] at e; cases e
    | ok d st2 =>
      simp only [q2] at e
      split at e
      · rename_i hl
        cases e
        obtain ⟨G2, x2, rd, fr⟩ := keepW_ok k.rel x rw' q2
        have k2 := k.step r0 x2
        obtain ⟨xs, e2, rl⟩ := k2.l
        refine ⟨xs, e2, by rw [rl.length]; exact hl, hN G2 _ (k2.push r0 e2 rl rd) ((k.fro x2).trans ?_)⟩
        exact ownUpd_fro k2.own.nf e2 trivial
      · cases e
end

section
variable {X : Cx} {Wx : WX} {elt tg iter tg1 iter1 : Expr} {ifs ifs1 : List Expr} {scope : Scope} {own : List (Str × Nat)} {pos : Pos} {m m1 : Ev (List D)} {is is1 vs1 : List Nat} {g g1 : D → Stt → Option Stt} {t t1 : Ev Bool} {e : Ev W}
theorem lc_up (hG : GT is g) (his : ∀ i ∈ is, i ∈ own.map (·.2)) {σ : Sg} {H : Hp} {Q : VK} (h : upE X.K X.mg Wx (lcE (own.map (·.2)) m g (lcB t (lcP e))) σ H Q) :
    tLc (upI X.K X.mg Wx m) (upG X.K is g) (upT X.K X.mg WF t) (upE X.K X.mg WF e) (own.map (·.2)) σ H Q := by
  obtain ⟨G, st, r, h⟩ := h
  refine ⟨G, st, r, (ResP.bind h).imp fun ds st1 _ p G1 H1 J x w L hL => ?_⟩
  generalize own.map (·.2) = vs at *
  split at p
  · rename_i hn
    cases q : lcL vs g (lcB t (lcP e)) ds [] st1 with
    | stuck => rw [q] at p; exact p.elim
    | exc _ _ => rw [q] at p; exact p.elim
    | ok accF stF =>
      rw [q] at p
      have nl := noLv_ok hn
      have r1 := x.rel
      have k0 : Mk X.K vs σ G1 st1 H1 L σ G1 st1 (upd H1 L (.lst [])) [] := ⟨r1.alloc hL, rfl, (Ex.refl r1.wipe).alloc hL, nl, hL, r1.own hL, [], upd_same, .nil⟩
      refine lc_loop (Qd := fun H => Q (.ref L) H) r1 w (upd_fro hL) k0 q ?_ ?_
      · intro d y acc st2 st3 accN stN σ2 G2 H2 Nx e1 e2 k2 s2 rd hN
        have k3 := k2.wipe (ws := vs) (fun _ h => h)
        rw [s2] at k3
        refine ⟨G2, st2.wipe vs, d, st3, k3.rel, rd, e1, fun σ4 r4 o4 => ?_⟩
        have k4 := k3.tgt hG his e1 r4 o4
        have s4 : wipe σ4 vs = wipe σ vs := (o4.wipe his).trans (wipe_wipe fun _ h => h)
        refine ⟨s4, ?_⟩
        exact lc_tests r1 k4 e2 (fun G5 H5 k5 f5 => hN σ4 G5 H5 k5 s4 f5) fun st5 G5 H5 k5 f5 e5 => lc_elt r1 k5 e5 fun G6 H6 k6 f6 => hN σ4 G6 H6 k6 s4 (f5.trans f6)
      · intro σ2 G2 H2 k2 s2 f2
        obtain ⟨xs, e2, rl⟩ := k2.l
        have x2 := k2.ex.unwipe r1 nl
        refine p G2 H2 (.ref L) (x.trans r x2) ⟨L, rfl, x.back hL, k2.own, .lst e2 rl⟩
  · exact p.elim
theorem lc_up2 (hG : GT is g) (his : ∀ i ∈ is, i ∈ own.map (·.2)) (hG1 : GT is1 g1) (his1 : ∀ i ∈ is1, i ∈ vs1) (hv : ∀ i ∈ vs1, i ∈ own.map (·.2)) {σ : Sg} {H : Hp} {Q : VK}
    (h : upE X.K X.mg Wx (lcE (own.map (·.2)) m g (lcB t (lcI m1 (lcL vs1 g1 (lcB t1 (lcP e)))))) σ H Q) :
    tLc2 (upI X.K X.mg Wx m) (upG X.K is g) (upT X.K X.mg WF t) (upI X.K X.mg WF m1) (upG X.K is1 g1) (upT X.K X.mg WF t1) (upE X.K X.mg WF e) (own.map (·.2)) vs1 σ H Q := by
  obtain ⟨G, st, r, h⟩ := h
  refine ⟨G, st, r, (ResP.bind h).imp fun ds st1 _ p G1 H1 J x w L hL => ?_⟩
  generalize own.map (·.2) = vs at *
  split at p
  · rename_i hn
    cases q : lcL vs g (lcB t (lcI m1 (lcL vs1 g1 (lcB t1 (lcP e))))) ds [] st1 with
    | stuck => rw [q] at p; exact p.elim
    | exc _ _ => rw [q] at p; exact p.elim
    | ok accF stF =>
      rw [q] at p
      have nl := noLv_ok hn
      have r1 := x.rel
      have k0 : Mk X.K vs σ G1 st1 H1 L σ G1 st1 (upd H1 L (.lst [])) [] := ⟨r1.alloc hL, rfl, (Ex.refl r1.wipe).alloc hL, nl, hL, r1.own hL, [], upd_same, .nil⟩
      refine lc_loop (Qd := fun H => Q (.ref L) H) r1 w (upd_fro hL) k0 q ?_ ?_
      · intro d y acc st2 st3 accN stN σ2 G2 H2 Nx e1 e2 k2 s2 rd hN
        have k3 := k2.wipe (ws := vs) (fun _ h => h)
        rw [s2] at k3
        refine ⟨G2, st2.wipe vs, d, st3, k3.rel, rd, e1, fun σ4 r4 o4 => ?_⟩
        have k4 := k3.tgt hG his e1 r4 o4
        have s4 : wipe σ4 vs = wipe σ vs := (o4.wipe his).trans (wipe_wipe fun _ h => h)
        refine ⟨s4, ?_⟩
        refine lc_tests r1 k4 e2 (fun G5 H5 k5 f5 => hN σ4 G5 H5 k5 s4 f5) fun st5 G5 H5 k5 f5 e5 => ?_
        refine ⟨G5, st5, k5.rel, ?_⟩
        unfold lcI at e5
        cases q6 : m1 st5 with
        | stuck => rw [q6] at e5; cases e5
        | exc _ _ => rw [q6] at e5; cases e5
        | ok ds1 st6 =>
          rw [q6] at e5
          intro G6 H6 J1 x6 w1
          have k6 := k5.step r1 x6
          have f6 := f5.trans (k5.fro x6)
          refine lc_loop (Qd := Nx) r1 w1 .refl k6 e5 ?_ ?_
          · intro d7 y7 acc7 st7 st8 accM stM σ7 G7 H7 Nx1 e7 e8 k7 s7 rd7 hM
            have k8 := k7.wipe (ws := vs1) hv
            rw [s7] at k8
            refine ⟨G7, st7.wipe vs1, d7, st8, k8.rel, rd7, e7, fun σ9 r9 o9 => ?_⟩
            have k9 := k8.tgt hG1 (fun i hi => hv i (his1 i hi)) e7 r9 o9
            have s9 : wipe σ9 vs1 = wipe σ4 vs1 := (o9.wipe his1).trans (wipe_wipe fun _ h => h)
            refine ⟨s9, ?_⟩
            exact lc_tests r1 k9 e8 (fun G5 H5 k5 f5 => hM σ9 G5 H5 k5 s9 f5) fun st5 G5 H5 k5 f5 e5 => lc_elt r1 k5 e5 fun G6 H6 k6 f6 => hM σ9 G6 H6 k6 s9 (f5.trans f6)
          · intro σ7 G7 H7 k7 s7 f7
            exact hN σ7 G7 H7 k7 (by rw [← wipe_wipe (σ := σ7) hv, s7, wipe_wipe hv, s4]) (f6.trans f7)
      · intro σ2 G2 H2 k2 s2 f2
        obtain ⟨xs, e2, rl⟩ := k2.l
        have x2 := k2.ex.unwipe r1 nl
        refine p G2 H2 (.ref L) (x.trans r x2) ⟨L, rfl, x.back hL, k2.own, .lst e2 rl⟩
  · exact p.elim
end
/-- what is shown of each block's parts, wherever it starts -/
abbrev BG (X : Cx) (scope : Scope) (tg : Expr) (is : List Nat) (g : D → Stt → Option Stt) : Prop := ∀ (s : Shared) (H : Hp) (C : Addr) (cl : List (Str × Addr)) (fp : List Addr), DG (X.blk s H scope (compEnvC scope cl C X.env) fp) tg is g
abbrev BTs (X : Cx) (scope : Scope) (ifs : List Expr) (t : Ev Bool) : Prop := ∀ (s : Shared) (H : Hp) (C : Addr) (cl : List (Str × Addr)) (fp : List Addr), DTs (X.blk s H scope (compEnvC scope cl C X.env) fp) ifs t
abbrev BE (X : Cx) (scope : Scope) (elt : Expr) (e : Ev W) : Prop := ∀ (s : Shared) (H : Hp) (C : Addr) (cl : List (Str × Addr)) (fp : List Addr), DE (X.blk s H scope (compEnvC scope cl C X.env) fp) WF elt e
abbrev BI (X : Cx) (scope : Scope) (tg e : Expr) (m : Ev (List D)) : Prop := ∀ (s : Shared) (H : Hp) (C : Addr) (cl : List (Str × Addr)) (fp : List Addr), DI (X.blk s H scope (compEnvC scope cl C X.env) fp) WF tg e m
section
variable {X : Cx} {Wx : WX} {elt tg iter tg1 iter1 : Expr} {ifs ifs1 : List Expr} {scope : Scope} {own : List (Str × Nat)} {pos py spos : Pos} {m m1 : Ev (List D)} {is is1 vs1 : List Nat} {g g1 : D → Stt → Option Stt} {t t1 : Ev Bool} {e : Ev W} {i : Nat} {y : Str}
theorem de_lc (hc : X.calm = true) (hN : X.N.Nodup) (ok : BlkOk X.N X.env.scope scope own) (hi : DI X Wx tg iter m) (hG : GT is g) (his : ∀ i ∈ is, i ∈ own.map (·.2)) (hg : BG X scope tg is g) (ht : BTs X scope ifs t) (he : BE X scope elt e)
    (hs : ∀ x, foldedSetIterable iter X.env x = pure x := by intro _; rfl) : DE X Wx (.ListComp elt [⟨tg, iter, ifs, 0⟩] scope pos) (lcE (own.map (·.2)) m g (lcB t (lcP e))) :=
  useE (pe_lc hc hN hi ok hg ht he hs) fun σ H Q h => lc_up hG his h
theorem ds_setLc (hc : X.calm = true) (hN : X.N.Nodup) (ok : BlkOk X.N X.env.scope scope own) (hi : DI X Wx tg iter m) (hG : GT is g) (his : ∀ i ∈ is, i ∈ own.map (·.2)) (hg : BG X scope tg is g) (ht : BTs X scope ifs t) (he : BE X scope elt e)
    (hy : X.N[i]? = some y) (hyl : X.env.scope.names.lookup y = some .local) (hsw : swapsWith (.ListComp elt [⟨tg, iter, ifs, 0⟩] scope pos) (some (.Name y py)) spos.line X.env = pure true)
    (hs : ∀ x, foldedSetIterable iter X.env x = pure x := by intro _; rfl) : DS X Wx (.Assign [.Name y py] (.ListComp elt [⟨tg, iter, ifs, 0⟩] scope pos) spos) (setS i (lcE (own.map (·.2)) m g (lcB t (lcP e)))) :=
  useS (ps_setLc hc hN hy hyl hsw hi ok hg ht he hs) fun D' σ H ⟨G, st, rel, h⟩ => lc_up hG his (stepS rel h fun w st1 G1 H1 v x r p => setW_ok rel x r p)
theorem de_lc2 (hc : X.calm = true) (hN : X.N.Nodup) (ok : BlkOk X.N X.env.scope scope own) (hv : ∀ i ∈ vs1, i ∈ own.map (·.2)) (hi : DI X Wx tg iter m) (hG : GT is g) (his : ∀ i ∈ is, i ∈ own.map (·.2)) (hg : BG X scope tg is g) (ht : BTs X scope ifs t)
    (hi1 : BI X scope tg1 iter1 m1) (hG1 : GT is1 g1) (his1 : ∀ i ∈ is1, i ∈ vs1) (hg1 : BG X scope tg1 is1 g1) (ht1 : BTs X scope ifs1 t1) (he : BE X scope elt e)
    (hs : ∀ x, foldedSetIterable iter X.env x = pure x := by intro _; rfl) (hs1 : ∀ env x, foldedSetIterable iter1 env x = pure x := by intro _ _; rfl) :
    DE X Wx (.ListComp elt [⟨tg, iter, ifs, 0⟩, ⟨tg1, iter1, ifs1, 0⟩] scope pos) (lcE (own.map (·.2)) m g (lcB t (lcI m1 (lcL vs1 g1 (lcB t1 (lcP e)))))) :=
  useE (pe_lc2 hc hN hi ok hv hg ht hi1 hg1 ht1 he hs hs1) fun σ H Q h => lc_up2 hG his hG1 his1 hv h
theorem ds_setLc2 (hc : X.calm = true) (hN : X.N.Nodup) (ok : BlkOk X.N X.env.scope scope own) (hv : ∀ i ∈ vs1, i ∈ own.map (·.2)) (hi : DI X Wx tg iter m) (hG : GT is g) (his : ∀ i ∈ is, i ∈ own.map (·.2)) (hg : BG X scope tg is g) (ht : BTs X scope ifs t)
    (hi1 : BI X scope tg1 iter1 m1) (hG1 : GT is1 g1) (his1 : ∀ i ∈ is1, i ∈ vs1) (hg1 : BG X scope tg1 is1 g1) (ht1 : BTs X scope ifs1 t1) (he : BE X scope elt e)
    (hy : X.N[i]? = some y) (hyl : X.env.scope.names.lookup y = some .local) (hsw : swapsWith (.ListComp elt [⟨tg, iter, ifs, 0⟩, ⟨tg1, iter1, ifs1, 0⟩] scope pos) (some (.Name y py)) spos.line X.env = pure true)
    (hs : ∀ x, foldedSetIterable iter X.env x = pure x := by intro _; rfl) (hs1 : ∀ env x, foldedSetIterable iter1 env x = pure x := by intro _ _; rfl) :
    DS X Wx (.Assign [.Name y py] (.ListComp elt [⟨tg, iter, ifs, 0⟩, ⟨tg1, iter1, ifs1, 0⟩] scope pos) spos) (setS i (lcE (own.map (·.2)) m g (lcB t (lcI m1 (lcL vs1 g1 (lcB t1 (lcP e))))))) :=
  useS (ps_setLc2 hc hN hy hyl hsw hi ok hv hg ht hi1 hg1 ht1 he hs hs1) fun D' σ H ⟨G, st, rel, h⟩ => lc_up2 hG his hG1 his1 hv (stepS rel h fun w st1 G1 H1 v x r p => setW_ok rel x r p)
end
end Dl

namespace Dl
open PySem PySem.Spec PyProof.Rows L2

/-! ### what is walked -/
/-- a list's, a tuple's or a text's items -/
def iAny (K : PySem.W.Frag) (te : TE) : TI := fun σ H R => te σ H fun v H1 => (∃ a, v = .ref a ∧ (∃ xs, SqL K H1 a xs) ∧ R (Itl K a) H1) ∨ (∃ a, v = .ref a ∧ (∃ xs, SqT K H1 a xs) ∧ R (Itt K a) H1) ∨ ∃ x, v = .str x ∧ R (Its x) H1
theorem pi_any {X : Cx} {tg e : Expr} {te : TE} (he : PE X e te) : PI X tg e (iAny X.K te) := by
  refine ⟨fun pins s σ H R I h => ?_⟩
  refine thn (he.run pins s σ H _ I h) fun v s1 ⟨y, H1, I1, r1, q⟩ => ?_
  rcases q with ⟨a, rfl, ⟨xs, hq⟩, q⟩ | ⟨a, rfl, ⟨xs, hq⟩, q⟩ | ⟨x, rfl, q⟩
  · cases r1
    obtain ⟨its, rv, p, hz⟩ := I1.list hq
    exact wpAny_pyIter_list p.isList (pi_one (tk := s1.toks) I1 _ (turn_list a _) ⟨_, Heap.get?_push_size _ rfl, rfl, rfl⟩ q)
  · cases r1
    obtain ⟨its, rv, p, hz⟩ := I1.tuple hq
    exact wpAny_pyIter_tuple (show s1.heap.IsTuple a its.toArray from p) (pi_one (tk := s1.toks) I1 _ (turn_tuple a _) ⟨_, Heap.get?_push_size _ rfl, rfl, rfl⟩ q)
  · obtain ⟨t, rfl⟩ := r1
    cases ha : x.cps.all (· < 128)
    · exact wpAny_pyIter_wide ha (pi_one (tk := s1.toks) I1 _ (turn_str _ x t "str_iterator" (.inr rfl)) ⟨_, Heap.get?_push_size _ rfl, rfl, rfl⟩ q)
    · exact wpAny_pyIter_ascii ha (pi_one (tk := s1.toks) I1 _ (turn_str _ x t "str_ascii_iterator" (.inl rfl)) ⟨_, Heap.get?_push_size _ rfl, rfl, rfl⟩ q)
/-- enumerate(tuple) -/
def IteT (K : PySem.W.Frag) (a : Addr) : It :=
  ⟨fun i H => ∃ (xs : List V) (x : V), SqT K H a xs ∧ xs[i]? = some x, fun i H v H' => ∃ T x, v = .ref T ∧ H T = none ∧ H' = upd H T (.tup [.int (i : Nat), x]) ∧ ∀ xs, SqT K H a xs → xs[i]? = some x, fun i H => ∃ xs : List V, SqT K H a xs ∧ xs.length = i⟩
theorem turn_enumT {P : Program} {w : World} {K : PySem.W.Frag} {elts : List Expr} {kk : Nat} {tpos : Pos} (a e it : Addr) (hea : e ≠ a) (hia : a ≠ it) :
    Turn P w K (.Tuple elts kk tpos) (IteT K a) [e, it] e (fun i h => (∃ old, IsEnum h e it ((i : Nat) : Int) old) ∧ h.IsTupleIter it a i ∧ e ≠ it) where
  mem := by simp
  obj := fun i h st b hb => by
    obtain ⟨⟨old, he⟩, ⟨o, ho, hc, hd⟩, _⟩ := st
    have e' : b = e ∨ b = it := by simpa using hb
    rcases e' with z | z
    · rw [z]; exact ⟨_, he, fun v q => nomatch q⟩
    · rw [z]; exact ⟨o, ho, fun v q => by rw [hd] at q; cases q⟩
  keep := fun i h h' st k => let ⟨⟨old, he⟩, hi, hne⟩ := st; ⟨⟨old, k e (by simp) _ he⟩, hi.at fun o q => k it (by simp) o q, hne⟩
  item := by
    intro X hP hw hK hc i pins s σ H E I hf st hg
    subst hP hw hK
    obtain ⟨⟨old, he⟩, hit, hne⟩ := st
    obtain ⟨xs, x, hq, hx⟩ := hg
    obtain ⟨its, rv, p, hz⟩ := I.tuple hq
    obtain ⟨u, hu, ru⟩ := rv.get hx
    have hel : e < s.heap.objs.size := Heap.lt_size he
    have hil : it < s.heap.objs.size := by obtain ⟨_, q, _⟩ := hit; exact Heap.lt_size q
    have hlt : i < its.toArray.size := by
      have := (List.getElem?_eq_some_iff.mp hu).1
      simpa using this
    refine wpAny_pyNext_enum_itemD (Draws.tuple (show X.A.in1.handled = none from I.ok.hd hc) it a hia its.toArray) he ⟨hit, p⟩ hlt hne (by simp [hne, hea]) fun x' h' tk hP ho hst hT hsz hk => ?_
    have ex : x' = u := by
      have hP : its.toArray[i]? = some x' := hP
      rw [List.getElem?_toArray, hu] at hP
      cases hP
      rfl
    subst ex
    obtain ⟨hit', _⟩ := hst
    refine ⟨_, rfl, wpAny_letOwnedTupleGo_enum (s := { s with heap := h', toks := tk + 1 }) ho fun h'' he' sb => ?_⟩
    have hT2 : h''.get? s.heap.objs.size = some { cls := .type "tuple", data := .seq #[.int i tk, x'] } := (sb.2 _ (Nat.ne_of_gt hel)).trans hT
    have new : ObjOk X.prog X.w (upd H s.heap.objs.size (.tup [.int (i : Nat), x])) h'' s.heap.objs.size (.tup [.int (i : Nat), x]) :=
      ⟨by show 2 ≤ sizeLine; decide, [.int i tk, x'], .cons ⟨_, rfl⟩ (.cons ru .nil), ⟨_, hT2, rfl, _, rfl⟩⟩
    have I1 : Inv X pins σ (upd H s.heap.objs.size (.tup [.int (i : Nat), x])) { s with heap := h'', toks := tk + 1 } :=
      I.turnedNew (ch := [e, it]) (fun b ob hb q => (sb.2 b (fun z => hb (by simp [z]))).trans (hk b ob (fun z => hb (by simp [z])) (fun z => hb (by simp [z])) q)) hf (Nat.le_refl _) new
    refine ⟨.ref s.heap.objs.size, _, I1, rfl, ⟨_, x, rfl, I.hok.fresh (Nat.le_refl _), rfl, fun ys hy => by rw [I.tuple_inj hy hq]; exact hx⟩, ⟨⟨x', ?_⟩, hit'.at fun o q => (sb.2 it (Ne.symm hne)).trans q, hne⟩, fun b hb => ?_⟩
    · have e1 : ((i + 1 : Nat) : Int) = (i : Int) + 1 := by omega
      rw [e1]; exact he'
    · have hb' : b < s.heap.objs.size := by
        have e' : b = e ∨ b = it := by simpa using hb
        rcases e' with z | z
        · rw [z]; exact hel
        · rw [z]; exact hil
      rw [upd_ne (Nat.ne_of_lt hb')]
      exact (hf b hb).1
  done := by
    intro X hP hw hK hc i pins s σ H E I hf st hg
    subst hP hw hK
    obtain ⟨⟨old, he⟩, hit, hne⟩ := st
    obtain ⟨xs, hq, hx⟩ := hg
    obtain ⟨its, rv, p, hz⟩ := I.tuple hq
    obtain ⟨f0, f1, f2, f3, f4, f5⟩ := hf it (by simp)
    have hl := rv.length
    have hsz : its.toArray.size = i := by simp; omega
    exact wpAny_pyNext_enum_endD (Draws.tuple (show X.A.in1.handled = none from I.ok.hd hc) it a hia its.toArray) he (by rw [hsz]; exact ⟨hit, p⟩) fun h' eb => ⟨rfl, I.turned (t' := s.toks) (fun b o hb q => eb b o hb q) f0 f1 f3 f4 f5⟩
  self := fun A i s Q E st h => let ⟨⟨_, he⟩, _⟩ := st; wpAny_pyIter_enum he h
set_option maxHeartbeats 1000000 in
theorem meets_enum1 {v : Value} {o : Obj} {H : Heap → Prop} (B : Begins v o H) :
    Meets (Builtin.«enumerate.__new__» ⟨[.type "enumerate", v], []⟩) (fun _ R s => H s.heap ∧
      R (.ok (.ret (.ref (s.heap.push o).objs.size))) { s with heap := (s.heap.push o).push { cls := .type "enumerate", data := .fields #[.none, .bool false, .ref s.heap.objs.size, rawInt 0, .none, .none] } }) :=
  .of_wp fun prog w A R s h => by
    obtain ⟨hp, g, d, tk, os⟩ := s
    obtain ⟨h1, h⟩ := h
    have hsub := sub_enumerate
    have q1 : ∀ {A' : Around} {E : Value → Shared → Prop} {Q : Value → Shared → Prop}, Q (.ref hp.objs.size) ⟨hp.push o, g, d, tk, os⟩ → wpAny (model prog w) A' (pyIter v) Q E ⟨hp, g, d, tk, os⟩ :=
      fun q => B.iter prog w _ _ ⟨hp, g, d, tk, os⟩ _ h1 q
    wp_walk using q1
    refine wpAny_stack_any fun st => wpAny_pure ?_
    split
    · rename_i c _ _ _ _ _
      cases (c == Value.type "enumerate") <;>
      · wp_walk using q1
        exact ⟨_, rfl, h⟩
    · wp_walk using q1
      exact ⟨_, rfl, h⟩
theorem enum1 {prog : Program} {w : World} {A : Around} {E : Value → Shared → Prop} {s : Shared} {v : Value} {o : Obj} {H : Heap → Prop} {Q : Value → Shared → Prop} (B : Begins v o H) (h1 : H s.heap)
    (h : ∀ h', IsEnum h' (s.heap.objs.size + 1) s.heap.objs.size 0 .none → h'.get? s.heap.objs.size = some o → h'.objs.size = s.heap.objs.size + 2 →
      (∀ b o, s.heap.get? b = some o → h'.get? b = some o) → Q (.ref (s.heap.objs.size + 1)) { s with heap := h' }) :
    wpAny (model prog w) A (call (.type "enumerate") [v]) Q E s := by
  refine callType_new F.called_enumerate (by decide) (F.typeCall_enumerate_1 _) (F.newCall_enumerate_1 _) (fun obj => F.args_object_init_2 obj _) F.entry_enumerate_new
    (meets_enum1 B) ⟨h1, ?_⟩
  have hz : (s.heap.push o).objs.size = s.heap.objs.size + 1 := Heap.size_push ..
  show _ ∧ _
  rw [hz]
  have he : IsEnum ((s.heap.push o).push { cls := .type "enumerate", data := .fields #[.none, .bool false, .ref s.heap.objs.size, rawInt 0, .none, .none] }) (s.heap.objs.size + 1) s.heap.objs.size 0 .none := by
    have q := Heap.get?_push_size (s.heap.push o) (o := { cls := .type "enumerate", data := .fields #[.none, .bool false, .ref s.heap.objs.size, rawInt 0, .none, .none] }) rfl
    rw [hz] at q
    exact q
  exact ⟨⟨_, he, rfl⟩, h _ he (Heap.get?_push_of_some _ (Heap.get?_push_size _ B.free)) (by rw [Heap.size_push, hz]) fun b o x => Heap.get?_push_of_some _ (Heap.get?_push_of_some _ x)⟩
def iEnumA (K : PySem.W.Frag) (ta : TA) : TI := fun σ H R => ta σ H fun vs H1 => ∃ a xs, vs = [.ref a] ∧ ((SqL K H1 a xs ∧ R (Ite K a) H1) ∨ (SqT K H1 a xs ∧ R (IteT K a) H1))
theorem pi_enumA {X : Cx} {e : Expr} {ta : TA} {p pos tpos : Pos} {elts : List Expr} {kk : Nat} (hg : Gl X "enumerate") (hm : X.mg "enumerate" = none) (ha : PA X [e] ta) (hs : starEach [e] X.env = [(false, eval e X.env)] := by rfl) :
    PI X (.Tuple elts kk tpos) (.Call (.Name "enumerate" p) [e] [] pos) (iEnumA X.K ta) := by
  refine ⟨fun pins s σ H R I h => ?_⟩
  refine Call_ (ld_blt I hg hm boot_enumerate (PyProof.Rows.callWith_type1 (thn (ha.run pos pins s σ H _ I h) fun us s1 ⟨vs, H1, I1, r1, q1⟩ => ?_) hs rfl))
  obtain ⟨a, xs, ex, hq⟩ := q1
  subst ex
  cases r1 with
  | cons r rr =>
    cases rr
    cases r
    have fin : ∀ (h' : Heap), (∀ b o, s1.heap.get? b = some o → h'.get? b = some o) → ∀ b ∈ [s1.heap.objs.size + 1, s1.heap.objs.size], FpOk X pins H1 b := fun h' hk b hb => by
      have e' : b = s1.heap.objs.size + 1 ∨ b = s1.heap.objs.size := by simpa using hb
      have hle : s1.heap.objs.size ≤ b := by
        rcases e' with z | z
        · rw [z]; exact Nat.le_add_right _ _
        · rw [z]; exact Nat.le_refl _
      exact I1.fpOk hle (I1.hok.fresh hle)
    rcases hq with ⟨hq, q⟩ | ⟨hq, q⟩
    · obtain ⟨its, rv, p', hz⟩ := I1.list hq
      refine call_enumerate_list p'.isList fun h' he hit hsz hk => wpAny_pyIter_enum he ?_
      have I2 : Inv X pins σ H1 { s1 with heap := h' } := I1.kept (t' := s1.toks) hk
      exact ⟨s1.heap.objs.size + 1, [s1.heap.objs.size + 1, s1.heap.objs.size], _, _, H1, rfl, I2, turn_enum a (s1.heap.objs.size + 1) s1.heap.objs.size, ⟨⟨.none, he⟩, hit, Nat.succ_ne_self _⟩, fin h' hk, q⟩
    · obtain ⟨its, rv, p', hz⟩ := I1.tuple hq
      have la : a < s1.heap.objs.size := by
        obtain ⟨o, ho, _⟩ := p'
        exact Heap.lt_size ho
      refine enum1 (begins_tuple a its.toArray) p' fun h' he hit hsz hk => wpAny_pyIter_enum he ?_
      have I2 : Inv X pins σ H1 { s1 with heap := h' } := I1.kept (t' := s1.toks) hk
      exact ⟨s1.heap.objs.size + 1, [s1.heap.objs.size + 1, s1.heap.objs.size], _, _, H1, rfl, I2, turn_enumT a (s1.heap.objs.size + 1) s1.heap.objs.size (Nat.ne_of_gt (Nat.lt_succ_of_lt la)) (Nat.ne_of_lt la), ⟨⟨.none, he⟩, ⟨_, hit, rfl, rfl⟩, Nat.succ_ne_self _⟩, fin h' hk, q⟩
end Dl

namespace Dl
open PySem PySem.Spec PyProof.Rows L2

/-- what a value gives, walked -/
def itemsOf : D → Option (List D)
  | .tup ds => some ds
  | .lst ds => some ds
  | .scr ns => some (ns.map .int)
  | .str z => some (z.cps.toList.map fun c => .str ⟨#[c]⟩)
  | _ => none
def seqOf : D → Option (List D)
  | .tup ds => some ds
  | .lst ds => some ds
  | _ => none
def seqM (m : Ev W) : Ev (List D) := bindE m fun w => bindE (keepW w) fun d st => match itemsOf d with
  | some ds => .ok ds st
  | none => .stuck
def inR (i : Int) : Bool := decide (-(2 ^ 62) ≤ i) && decide (i < 2 ^ 62)
def upTo (i : Int) (n : Nat) : List D := (List.range n).map fun k => .int (i + (k : Nat))
def downFrom (i : Int) (n : Nat) : List D := (List.range n).map fun k => .int (i - (k : Nat))
/-- i, i + c, .. below j -/
def byStep (i c : Int) (n : Nat) : List D := (List.range n).map fun k => .int (i + (k : Nat) * c)
def rng1 : List D → Option (List D)
  | [.int j] => if inR j = true then some (upTo 0 j.toNat) else none
  | _ => none
def rng2 : List D → Option (List D)
  | [.int i, .int j] => if (inR i && inR j) = true then some (upTo i (j - i).toNat) else none
  | _ => none
def rng3 : List D → Option (List D)
  | [.int i, .int j, .int c] => if c ≠ 0 ∧ c.natAbs < 1073741824 ∧ Builtin.Range.small i j c = true ∧ 0 ≤ Builtin.Range.rangeSize i j c then some (byStep i c (Builtin.Range.rangeSize i j c).toNat) else none
  | _ => none
def ofL (f : List D → Option (List D)) (m : Ev (List D)) : Ev (List D) := bindE m fun ds st => match f ds with
  | some r => .ok r st
  | none => .stuck
def enumD : Nat → List D → List D
  | _, [] => []
  | n, d :: r => .tup [.int (n : Nat), d] :: enumD (n + 1) r
def enumOf : List D → Option (List D)
  | [.lst r] => some (enumD 0 r)
  | [.tup r] => some (enumD 0 r)
  | _ => none
def zipD : List D → List D → List D
  | x :: xs, y :: ys => .tup [x, y] :: zipD xs ys
  | _, _ => []
def zipOf : List D → Option (List D)
  | [.lst xs, .lst ys] => some (zipD xs ys)
  | [.tup xs, .tup ys] => some (zipD xs ys)
  | _ => none
theorem enumD_get : ∀ {ds : List D} {n i : Nat} {e : D}, (enumD n ds)[i]? = some e → ∃ d, ds[i]? = some d ∧ e = .tup [.int ((n + i : Nat) : Int), d]
  | [], _, _, _, h => by simp [enumD] at h
  | d :: r, n, 0, e, h => by
    simp only [enumD, List.getElem?_cons_zero, Option.some.injEq] at h
    exact ⟨d, rfl, h.symm⟩
  | d :: r, n, i + 1, e, h => by
    simp only [enumD, List.getElem?_cons_succ] at h
    obtain ⟨x, h1, h2⟩ := enumD_get h
    exact ⟨x, by simpa using h1, by rw [h2, show n + 1 + i = n + (i + 1) by omega]⟩
theorem enumD_len : ∀ {ds : List D} {n : Nat}, (enumD n ds).length = ds.length
  | [], _ => rfl
  | _ :: r, n => by simp only [enumD, List.length_cons, enumD_len]
theorem zipD_get : ∀ {xs ys : List D} {i : Nat} {e : D}, (zipD xs ys)[i]? = some e → ∃ x y, xs[i]? = some x ∧ ys[i]? = some y ∧ e = .tup [x, y]
  | [], _, _, _, h => by simp [zipD] at h
  | _ :: _, [], _, _, h => by simp [zipD] at h
  | x :: xs, y :: ys, 0, e, h => by
    simp only [zipD, List.getElem?_cons_zero, Option.some.injEq] at h
    exact ⟨x, y, rfl, rfl, h.symm⟩
  | x :: xs, y :: ys, i + 1, e, h => by
    simp only [zipD, List.getElem?_cons_succ] at h
    obtain ⟨a, b, h1, h2, h3⟩ := zipD_get h
    exact ⟨a, b, by simpa using h1, by simpa using h2, h3⟩
theorem zipD_len : ∀ {xs ys : List D}, (zipD xs ys).length = min xs.length ys.length
  | [], _ => by simp [zipD]
  | _ :: _, [] => by simp [zipD]
  | _ :: xs, _ :: ys => by simp only [zipD, List.length_cons, zipD_len]; omega
section
variable {K : PySem.W.Frag} {G : Gh} {H : Hp} {a b : Addr} {ds es : List D} {vs us : List V}
theorem seqL_of {H1 : Hp} {G1 : Gh} (h : Rp K G1 H1 (.ref a) (.lst ds)) : ∃ xs, SqL K H1 a xs ∧ RpL K G1 H1 xs ds := by
  cases h with
  | lst _ e r => exact ⟨_, .of e, r⟩
theorem seqT_of {H1 : Hp} {G1 : Gh} (h : Rp K G1 H1 (.ref a) (.tup ds)) : ∃ xs, SqT K H1 a xs ∧ RpL K G1 H1 xs ds := by
  cases h with
  | tup e r => exact ⟨_, .of e, r⟩
theorem seqS_of {H1 : Hp} {G1 : Gh} {ns : List Int} (h : Rp K G1 H1 (.ref a) (.scr ns)) : ∃ xs, SqL K H1 a xs ∧ RpL K G1 H1 xs (ns.map .int) := by
  cases h with
  | scr e =>
    refine ⟨ns.map V.int, ?_, .ints ns⟩
    rcases e with ⟨o, e⟩ | e
    · exact .inl (.inr ⟨o, e⟩)
    · exact e H1
theorem wk_list (h : ∀ G1 H1, Fro G H G1 H1 → ∃ xs, SqL K H1 a xs ∧ RpL K G1 H1 xs ds) : WalkD K G H (Itl K a) ds := fun G1 H1 fr => by
  obtain ⟨xs, q, r⟩ := h G1 H1 fr
  refine ⟨⟨xs, q, by rw [r.length]; exact Nat.le_refl _⟩, fun i d hd => ?_⟩
  obtain ⟨v, hv, rv⟩ := r.get hd
  refine ⟨⟨xs, v, q, hv⟩, fun x H2 y => ?_⟩
  obtain ⟨e, y⟩ := y
  subst e
  have := y xs q
  rw [hv] at this
  cases this
  exact ⟨.inl rfl, rv⟩
theorem wk_tup (h : ∀ G1 H1, Fro G H G1 H1 → ∃ xs, SqT K H1 a xs ∧ RpL K G1 H1 xs ds) : WalkD K G H (Itt K a) ds := fun G1 H1 fr => by
  obtain ⟨xs, q, r⟩ := h G1 H1 fr
  refine ⟨⟨xs, q, by rw [r.length]; exact Nat.le_refl _⟩, fun i d hd => ?_⟩
  obtain ⟨v, hv, rv⟩ := r.get hd
  refine ⟨⟨xs, v, q, hv⟩, fun x H2 y => ?_⟩
  obtain ⟨e, y⟩ := y
  subst e
  have := y xs q
  rw [hv] at this
  cases this
  exact ⟨.inl rfl, rv⟩
theorem pair_rp {T : Addr} {G1 : Gh} {H1 : Hp} {x y : V} {d e : D} (n : H1 T = none) (rx : Rp K G1 H1 x d) (ry : Rp K G1 H1 y e) : Rp K G1 (upd H1 T (.tup [x, y])) (.ref T) (.tup [d, e]) :=
  .tup upd_same (RpL.mono (upd_fro n) (.cons rx (.cons ry .nil)))
theorem wk_enumL (h : ∀ G1 H1, Fro G H G1 H1 → ∃ xs, SqL K H1 a xs ∧ RpL K G1 H1 xs ds) : WalkD K G H (Ite K a) (enumD 0 ds) := fun G1 H1 fr => by
  obtain ⟨xs, q, r⟩ := h G1 H1 fr
  refine ⟨⟨xs, q, by rw [r.length, enumD_len]; exact Nat.le_refl _⟩, fun i d hd => ?_⟩
  obtain ⟨d', hd', rfl⟩ := enumD_get hd
  obtain ⟨v, hv, rv⟩ := r.get hd'
  refine ⟨⟨xs, v, q, hv⟩, fun x H2 ⟨T, y, e1, n, e2, y3⟩ => ?_⟩
  have := y3 xs q
  rw [hv] at this
  cases this
  subst e1 e2
  refine ⟨.inr ⟨T, _, n, rfl⟩, pair_rp n ?_ rv⟩
  rw [Nat.zero_add]
  exact .int _
theorem wk_enumT (h : ∀ G1 H1, Fro G H G1 H1 → ∃ xs, SqT K H1 a xs ∧ RpL K G1 H1 xs ds) : WalkD K G H (IteT K a) (enumD 0 ds) := fun G1 H1 fr => by
  obtain ⟨xs, q, r⟩ := h G1 H1 fr
  refine ⟨⟨xs, q, by rw [r.length, enumD_len]⟩, fun i d hd => ?_⟩
  obtain ⟨d', hd', rfl⟩ := enumD_get hd
  obtain ⟨v, hv, rv⟩ := r.get hd'
  refine ⟨⟨xs, v, q, hv⟩, fun x H2 ⟨T, y, e1, n, e2, y3⟩ => ?_⟩
  have := y3 xs q
  rw [hv] at this
  cases this
  subst e1 e2
  refine ⟨.inr ⟨T, _, n, rfl⟩, pair_rp n ?_ rv⟩
  rw [Nat.zero_add]
  exact .int _
theorem wk_zipL (h : ∀ G1 H1, Fro G H G1 H1 → ∃ xs, SqL K H1 a xs ∧ RpL K G1 H1 xs ds) (h' : ∀ G1 H1, Fro G H G1 H1 → ∃ xs, SqL K H1 b xs ∧ RpL K G1 H1 xs es) : WalkD K G H (Itz K a b) (zipD ds es) := fun G1 H1 fr => by
  obtain ⟨xs, q, r⟩ := h G1 H1 fr
  obtain ⟨ys, q', r'⟩ := h' G1 H1 fr
  refine ⟨⟨xs, ys, q, q', by rw [r.length, r'.length, zipD_len]; omega⟩, fun i d hd => ?_⟩
  obtain ⟨d1, d2, h1, h2, rfl⟩ := zipD_get hd
  obtain ⟨v, hv, rv⟩ := r.get h1
  obtain ⟨u, hu, ru⟩ := r'.get h2
  refine ⟨⟨xs, ys, v, u, q, q', hv, hu⟩, fun x H2 ⟨T, y, z, e1, n, e2, y3, y4⟩ => ?_⟩
  have t1 := y3 xs q
  rw [hv] at t1
  cases t1
  have t2 := y4 ys q'
  rw [hu] at t2
  cases t2
  subst e1 e2
  exact ⟨.inr ⟨T, _, n, rfl⟩, pair_rp n rv ru⟩
theorem wk_zipT (h : ∀ G1 H1, Fro G H G1 H1 → ∃ xs, SqT K H1 a xs ∧ RpL K G1 H1 xs ds) (h' : ∀ G1 H1, Fro G H G1 H1 → ∃ xs, SqT K H1 b xs ∧ RpL K G1 H1 xs es) : WalkD K G H (RZ.ItzT K a b) (zipD ds es) := fun G1 H1 fr => by
  obtain ⟨xs, q, r⟩ := h G1 H1 fr
  obtain ⟨ys, q', r'⟩ := h' G1 H1 fr
  refine ⟨⟨xs, ys, q, q', by rw [r.length, r'.length, zipD_len]; omega⟩, fun i d hd => ?_⟩
  obtain ⟨d1, d2, h1, h2, rfl⟩ := zipD_get hd
  obtain ⟨v, hv, rv⟩ := r.get h1
  obtain ⟨u, hu, ru⟩ := r'.get h2
  refine ⟨⟨xs, ys, v, u, q, q', hv, hu⟩, fun x H2 ⟨T, y, z, e1, n, e2, y3, y4⟩ => ?_⟩
  have t1 := y3 xs q
  rw [hv] at t1
  cases t1
  have t2 := y4 ys q'
  rw [hu] at t2
  cases t2
  subst e1 e2
  exact ⟨.inr ⟨T, _, n, rfl⟩, pair_rp n rv ru⟩
theorem wk_str {z : Str} : WalkD K G H (Its z) (z.cps.toList.map fun c => .str ⟨#[c]⟩) := fun G1 H1 fr => by
  refine ⟨?_, fun i d hd => ?_⟩
  · show z.cps.size ≤ _
    simp
  · rw [List.getElem?_map] at hd
    obtain ⟨c, hc, rfl⟩ := Option.map_eq_some_iff.mp hd
    have hc' : z.cps[i]? = some c := by simpa using hc
    refine ⟨(Array.getElem?_eq_some_iff.mp hc').1, fun x H2 ⟨e, c', h1, h2⟩ => ?_⟩
    rw [hc'] at h1
    cases h1
    subst e h2
    exact ⟨.inl rfl, .str _⟩
theorem wk_range {lo : Int} {n : Nat} : WalkD K G H (Itr lo n) (upTo lo n) := fun G1 H1 fr => by
  refine ⟨?_, fun i d hd => ?_⟩
  · show n ≤ _
    simp [upTo]
  · unfold upTo at hd
    rw [List.getElem?_map] at hd
    obtain ⟨k, hk, rfl⟩ := Option.map_eq_some_iff.mp hd
    obtain ⟨hl, e⟩ := List.getElem?_eq_some_iff.mp hk
    rw [List.getElem_range] at e
    subst e
    refine ⟨show i < n by simpa using hl, fun x H2 ⟨e1, e2⟩ => ?_⟩
    subst e1 e2
    exact ⟨.inl rfl, .int _⟩
theorem wk_rangeC {lo c : Int} {n : Nat} : WalkD K G H (Itc lo c n) (byStep lo c n) := fun G1 H1 fr => by
  refine ⟨?_, fun i d hd => ?_⟩
  · show n ≤ _
    simp [byStep]
  · unfold byStep at hd
    rw [List.getElem?_map] at hd
    obtain ⟨k, hk, rfl⟩ := Option.map_eq_some_iff.mp hd
    obtain ⟨hl, e⟩ := List.getElem?_eq_some_iff.mp hk
    rw [List.getElem_range] at e
    subst e
    refine ⟨show i < n by simpa using hl, fun x H2 ⟨e1, e2⟩ => ?_⟩
    subst e1 e2
    exact ⟨.inl rfl, .int _⟩
end
section
variable {X : Cx} {Wx : WX} {tg e : Expr} {es : List Expr} {m : Ev W} {ms : Ev (List D)} {p pos tpos : Pos}
theorem di_seq (he : DE X Wx e m) : DI X Wx tg e (seqM m) := useI (pi_any he) fun σ H R ⟨G, st, rel, h⟩ => stepK rel (.refl rel) h fun d st2 G2 H2 v x _ r q => by
  cases hi : itemsOf d with
  | none => simp only [hi] at q; exact q.elim
  | some ds =>
    simp only [hi] at q
    unfold itemsOf at hi
    split at hi
    · cases hi
      have r' := r
      cases r with
      | tup hp rl =>
        rename_i a vs
        exact .inr (.inl ⟨a, rfl, ⟨_, .of hp⟩, q G2 H2 _ x (wk_tup fun G1 H1 fr => seqT_of (r'.mono fr))⟩)
    · cases hi
      have r' := r
      cases r with
      | lst f hp rl =>
        rename_i a vs
        exact .inl ⟨a, rfl, ⟨_, .of hp⟩, q G2 H2 _ x (wk_list fun G1 H1 fr => seqL_of (r'.mono fr))⟩
    · cases hi
      have r' := r
      cases r with
      | scr hp =>
        rename_i ns a
        obtain ⟨xs, hx, _⟩ := seqS_of r'
        exact .inl ⟨a, rfl, ⟨_, hx⟩, q G2 H2 _ x (wk_list fun G1 H1 fr => seqS_of (r'.mono fr))⟩
    · cases hi
      cases r with
      | str _ => exact .inr (.inr ⟨_, rfl, q G2 H2 _ x wk_str⟩)
    · cases hi
theorem up_ofL {K : PySem.W.Frag} {mg : Str → Option Value} {σ : Sg} {H : Hp} {f : List D → Option (List D)} {R : It → Hp → Prop} {P : List V → Hp → Prop} (h : upI K mg Wx (ofL f ms) σ H R)
    (t : ∀ ds vs l G2 H2, f ds = some l → RpL K G2 H2 vs ds → (∀ J, WalkD K G2 H2 J l → R J H2) → P vs H2) : upA K mg Wx ms σ H P := by
  obtain ⟨G, st, rel, h⟩ := h
  refine ⟨G, st, rel, (ResP.bind h).imp fun ds st2 _ q G2 H2 vs x r => ?_⟩
  cases hi : f ds with
  | none => simp only [hi] at q; exact q.elim
  | some l =>
    simp only [hi] at q
    exact t ds vs l G2 H2 hi r fun J w => q G2 H2 J x w
theorem di_range1 (hg : Gl X "range") (hm : X.mg "range" = none) (ha : DA X Wx [e] ms) (hs : starEach [e] X.env = [(false, eval e X.env)] := by rfl) : DI X Wx tg (.Call (.Name "range" p) [e] [] pos) (ofL rng1 ms) :=
  useI (pi_range1 hg hm ha hs) fun σ H R h => up_ofL h fun ds vs l G2 H2 hi r q => by
    unfold rng1 at hi
    split at hi
    · split at hi
      · rename_i hc
        cases hi
        simp only [inR, Bool.and_eq_true, decide_eq_true_eq] at hc
        exact ⟨_, RpL.of_ints (ns := [_]) r, hc.1, hc.2, q _ wk_range⟩
      · cases hi
    · cases hi
theorem di_range2 {e2 : Expr} (hg : Gl X "range") (hm : X.mg "range" = none) (ha : DA X Wx [e, e2] ms) (hs : starEach [e, e2] X.env = [(false, eval e X.env), (false, eval e2 X.env)] := by rfl) (hs2 : starEach [e2] X.env = [(false, eval e2 X.env)] := by rfl) :
    DI X Wx tg (.Call (.Name "range" p) [e, e2] [] pos) (ofL rng2 ms) :=
  useI (pi_range2 hg hm ha hs hs2) fun σ H R h => up_ofL h fun ds vs l G2 H2 hi r q => by
    unfold rng2 at hi
    split at hi
    · split at hi
      · rename_i hc
        cases hi
        simp only [inR, Bool.and_eq_true, decide_eq_true_eq] at hc
        exact ⟨_, _, RpL.of_ints (ns := [_, _]) r, ⟨hc.1.1, hc.1.2, hc.2.1, hc.2.2⟩, q _ wk_range⟩
      · cases hi
    · cases hi
theorem di_range3 {e2 e3 : Expr} (hg : Gl X "range") (hm : X.mg "range" = none) (ha : DA X Wx [e, e2, e3] ms) (hs : starEach [e, e2, e3] X.env = (false, eval e X.env) :: starEach [e2, e3] X.env := by rfl) (hpl : (backTo pos (starEach [e2, e3] X.env)).any (·.1) = false := by rfl) :
    DI X Wx tg (.Call (.Name "range" p) [e, e2, e3] [] pos) (ofL rng3 ms) :=
  useI (pi_range3 hg hm ha hs hpl) fun σ H R h => up_ofL h fun ds vs l G2 H2 hi r q => by
    unfold rng3 at hi
    split at hi
    · split at hi
      · rename_i hc
        cases hi
        exact ⟨_, _, _, _, RpL.of_ints (ns := [_, _, _]) r, ⟨hc.1, hc.2.1, hc.2.2.1, (Int.toNat_of_nonneg hc.2.2.2).symm⟩, q _ wk_rangeC⟩
      · cases hi
    · cases hi
/-- two things kept do not change -/
theorem two {K : PySem.W.Frag} {G : Gh} {H : Hp} {vs : List V} {d : D} (r : RpL K G H vs [d]) : ∃ v, vs = [v] ∧ Rp K G H v d := by
  cases r with
  | cons h r =>
    cases r
    exact ⟨_, rfl, h⟩
theorem two2 {K : PySem.W.Frag} {G : Gh} {H : Hp} {vs : List V} {d e : D} (r : RpL K G H vs [d, e]) : ∃ v u, vs = [v, u] ∧ Rp K G H v d ∧ Rp K G H u e := by
  cases r with
  | cons h r =>
    obtain ⟨u, rfl, h2⟩ := two r
    exact ⟨_, _, rfl, h, h2⟩
theorem di_enum {elts : List Expr} {kk : Nat} (hg : Gl X "enumerate") (hm : X.mg "enumerate" = none) (ha : DA X Wx [e] ms) (hs : starEach [e] X.env = [(false, eval e X.env)] := by rfl) : DI X Wx (.Tuple elts kk tpos) (.Call (.Name "enumerate" p) [e] [] pos) (ofL enumOf ms) :=
  useI (pi_enumA hg hm ha hs) fun σ H R h => up_ofL h fun ds vs l G2 H2 hi r q => by
    unfold enumOf at hi
    split at hi
    · cases hi
      obtain ⟨v, rfl, r1⟩ := two r
      have r' := r1
      cases r1 with
      | lst f hp rl => exact ⟨_, _, rfl, .inl ⟨.of hp, q _ (wk_enumL fun G1 H1 fr => seqL_of (r'.mono fr))⟩⟩
    · cases hi
      obtain ⟨v, rfl, r1⟩ := two r
      have r' := r1
      cases r1 with
      | tup hp rl => exact ⟨_, _, rfl, .inr ⟨.of hp, q _ (wk_enumT fun G1 H1 fr => seqT_of (r'.mono fr))⟩⟩
    · cases hi
theorem di_zip {elts : List Expr} {kk : Nat} {e2 : Expr} (hg : Gl X "zip") (hm : X.mg "zip" = none) (ha : DA X Wx [e, e2] ms) (hs : starEach [e, e2] X.env = (false, eval e X.env) :: starEach [e2] X.env := by rfl) (hpl : (backTo pos (starEach [e2] X.env)).any (·.1) = false := by rfl) :
    DI X Wx (.Tuple elts kk tpos) (.Call (.Name "zip" p) [e, e2] [] pos) (ofL zipOf ms) :=
  useI (RZ.pi_zipA hg hm ha hs hpl) fun σ H R h => up_ofL h fun ds vs l G2 H2 hi r q => by
    unfold zipOf at hi
    split at hi
    · cases hi
      obtain ⟨v, u, rfl, r1, s⟩ := two2 r
      have r' := r1
      have s' := s
      cases r1 with
      | lst f hp rl =>
        cases s with
        | lst f2 hp2 rl2 => exact ⟨_, _, _, _, rfl, .inl ⟨.of hp, .of hp2, q _ (wk_zipL (fun G1 H1 fr => seqL_of (r'.mono fr)) fun G1 H1 fr => seqL_of (s'.mono fr))⟩⟩
    · cases hi
      obtain ⟨v, u, rfl, r1, s⟩ := two2 r
      have r' := r1
      have s' := s
      cases r1 with
      | tup hp rl =>
        cases s with
        | tup hp2 rl2 => exact ⟨_, _, _, _, rfl, .inr ⟨.of hp, .of hp2, q _ (wk_zipT (fun G1 H1 fr => seqT_of (r'.mono fr)) fun G1 H1 fr => seqT_of (s'.mono fr))⟩⟩
    · cases hi
end
end Dl

namespace Dl
open PySem PySem.Spec PyProof.Rows L2

/-! ### a name's container is changed -/
section
variable {K : PySem.W.Frag} {mg : Str → Option Value} {σ : Sg} {G G1 G2 : Gh} {Wx : WX} {st st1 st2 : Stt} {H H1 H2 : Hp} {a : Addr} {i : Nat} {d d' : D} {o : HO}
theorem Rel.updLive (r : Rel K G st σ H) (e : st.ρ[i]? = some (.lv d)) (s : σ[i]? = some (some (.ref a))) (b : Bo K G (upd H a o) a d') : Rel K G (st.put i (.lv d')) σ (upd H a o) := by
  obtain ⟨a', s', w, q⟩ := r.lv i d e
  rw [s] at s'
  cases s'
  obtain ⟨u, ea, bu⟩ := q.at
  have fr : Fro G H G (upd H a o) := ownUpd_fro w.nf ea bu
  have tr : ∀ c, H c ≠ none → upd H a o c ≠ none := fun c h => by
    by_cases z : c = a
    · subst z; rw [upd_same]; exact fun z => by cases z
    · rw [upd_ne z]; exact h
  refine ⟨⟨r.g.f0, r.g.fn, fun c f => tr c (r.g.ft c f), fun c v h d => ?_, fun c h => tr c (r.g.tr c h), r.g.d0, r.g.dn, r.g.nd⟩, ?_, ?_, fun j d1 h => ?_, fun j d1 h => ?_, fun j k d1 d2 c h1 h2 s1 s2 => ?_⟩
  · have hc : c ≠ a := fun z => by
      subst z
      rw [w.h0] at h
      cases h
    rw [upd_ne hc]
    exact r.g.keep c v h d
  · have h := r.dko
    unfold DkOk at h ⊢
    show match G.dk, st.dk with
      | none, none => True
      | some (p, c), some k => DkAt (upd H a o) p c k
      | _, _ => False
    cases q : G.dk with
    | none =>
      rw [q] at h
      cases q2 : st.dk with
      | none => trivial
      | some k => rw [q2] at h; exact h
    | some z =>
      obtain ⟨p', c'⟩ := z
      rw [q] at h
      cases q2 : st.dk with
      | none => rw [q2] at h; exact h
      | some k =>
        rw [q2] at h
        obtain ⟨h1, h2, h3⟩ := h
        have n1 : p' ≠ a := fun z => w.nd ⟨p', c', q, .inl z.symm⟩
        have n2 : c' ≠ a := fun z => w.nd ⟨p', c', q, .inr z.symm⟩
        exact ⟨by rw [upd_ne n1]; exact h1, by rw [upd_ne n2]; exact h2, h3⟩
  · show (st.ρ.set i _).length = _
    rw [List.length_set]
    exact r.len
  · rcases getSet h with ⟨rfl, z, _⟩ | ⟨n, h⟩
    · cases z
    · obtain ⟨v, s1, q1⟩ := r.fz j d1 h
      exact ⟨v, s1, q1.mono fr⟩
  · rcases getSet h with ⟨rfl, z, _⟩ | ⟨n, h⟩
    · cases z
      exact ⟨a, s, w, b⟩
    · obtain ⟨c, s1, w1, q1⟩ := r.lv j d1 h
      have hc : c ≠ a := fun z => n (by subst z; exact r.ap j i d1 d c h e s1 s)
      exact ⟨c, s1, w1, q1.mono fr (upd_ne hc)⟩
  · have back : ∀ {j : Nat} {d1 : D}, (st.put i (.lv d')).ρ[j]? = some (.lv d1) → ∃ d2 : D, st.ρ[j]? = some (.lv d2) := fun {j d1} h => by
      rcases getSet h with ⟨rfl, z, _⟩ | ⟨n, h⟩
      · exact ⟨d, e⟩
      · exact ⟨d1, h⟩
    obtain ⟨e1, h1⟩ := back h1
    obtain ⟨e2, h2⟩ := back h2
    exact r.ap j k e1 e2 c h1 h2 s1 s2
theorem Ex.updLive (x : Ex K σ G st H G1 st1 H1) (e : st1.ρ[i]? = some (.lv d)) (s : σ[i]? = some (some (.ref a))) (b : Bo K G1 (upd H1 a o) a d') : Ex K σ G st H G1 (st1.put i (.lv d')) (upd H1 a o) := by
  have la : LiveAt st σ a := x.liveBack ⟨i, d, e, s⟩
  refine ⟨x.rel.updLive e s b, x.bs, x.f, x.fn, fun c v h l q => ?_, fun c h => ?_, fun j d1 h => ?_, fun j d1 h => ?_, fun j d1 h => ?_, fun j h => ?_, x.dkm, x.dkn⟩
  · rw [upd_ne fun z => l (by subst z; exact la)]
    exact x.keep c v h l q
  · by_cases z : c = a
    · subst z; rw [upd_same]; exact fun z => by cases z
    · rw [upd_ne z]; exact x.tr c h
  · rcases getSet h with ⟨rfl, z, _⟩ | ⟨n, h⟩
    · exact x.lives _ d e
    · exact x.lives j d1 h
  · have h1 := x.slf j d1 h
    show (st1.ρ.set i _)[j]? = _
    rw [List.getElem?_set_ne]
    · exact h1
    · rintro rfl
      rw [e] at h1
      cases h1
  · obtain ⟨d2, h1⟩ := x.sll j d1 h
    show ∃ d3 : D, (st1.ρ.set i _)[j]? = some (.lv d3) ∨ (st1.ρ.set i _)[j]? = some (.fz d3)
    by_cases z : j = i
    · subst z
      exact ⟨d', .inl (setSelf e)⟩
    · exact ⟨d2, by rw [List.getElem?_set_ne (Ne.symm z)]; exact h1⟩
  · have h1 := x.slu j h
    show (st1.ρ.set i _)[j]? = _
    rw [List.getElem?_set_ne]
    · exact h1
    · rintro rfl
      rw [e] at h1
      cases h1
/-- the list of the i-th name -/
theorem live_lst {ds : List D} (r : Rel K G st σ H) (e : st.ρ[i]? = some (.lv (.lst ds))) : ∃ a vs, σ[i]? = some (some (.ref a)) ∧ Own G a ∧ H a = some (.lst vs) ∧ RpL K G H vs ds := by
  obtain ⟨a, s, w, q⟩ := r.lv i _ e
  cases q with
  | lst h rl => exact ⟨a, _, s, w, h, rl⟩
/-- it gets the items ds' -/
theorem put_lst {ds ds' : List D} {vs vs' : List V} (x : Ex K σ G st H G1 st1 H1) (e : st1.ρ[i]? = some (.lv (.lst ds))) (s : σ[i]? = some (some (.ref a))) (w : Own G1 a) (h : H1 a = some (.lst vs)) (rl : RpL K G1 H1 vs' ds') :
    Ex K σ G st H G1 (st1.put i (.lv (.lst ds'))) (upd H1 a (.lst vs')) ∧ Fro G1 H1 G1 (upd H1 a (.lst vs')) :=
  ⟨x.updLive e s (.lst upd_same (rl.mono (ownUpd_fro w.nf h trivial))), ownUpd_fro w.nf h trivial⟩
end

/-! ### methods of a name's list -/
/-- f: from the items and the arguments to the new items and the answer -/
def mutL (f : List D → List D → Option (List D × D)) (w : W) (as : List D) : Ev W := fun st => match w with
  | .live i => match st.ρ[i]? with
    | some (.lv (.lst ds)) => match f ds as with
      | some (ds', d) => .ok (.val d) (st.put i (.lv (.lst ds')))
      | none => .stuck
    | _ => .stuck
  | _ => .stuck
def methL (f : List D → List D → Option (List D × D)) (mo : Ev W) (ma : Ev (List D)) : Ev W := bindE mo fun w st => match content st w with
  | some (.lst _) => bindE ma (fun as => mutL f w as) st
  | _ => .stuck
def appD : List D → List D → Option (List D × D)
  | ds, [d] => if ds.length < big then some (ds ++ [d], .non) else none
  | _, _ => none
def extD : List D → List D → Option (List D × D)
  | ds, [.lst es] => if ds.length + es.length ≤ big then some (ds ++ es, .non) else none
  | _, _ => none
def popD : List D → List D → Option (List D × D)
  | ds, [] => (ds[ds.length - 1]?).map fun d => (ds.dropLast, d)
  | _, _ => none
def popAtD : List D → List D → Option (List D × D)
  | ds, [.int i] => if inR i = true then (seqIndex? i ds.length).bind fun k => (ds[k]?).map fun d => (ds.eraseIdx k, d) else none
  | _, _ => none
/-- a method and its mirror -/
def MuL (K : PySem.W.Frag) (r : V → List V → Hp → VK → Prop) (f : List D → List D → Option (List D × D)) : Prop :=
  ∀ (σ : Sg) (Gs : Gh) (ss : Stt) (Hs : Hp) (G : Gh) (st : Stt) (H : Hp) (i : Nat) (a : Addr) (ds as ds' : List D) (xs vs : List V) (d : D) (Q : VK), Rel K Gs ss σ Hs → Ex K σ Gs ss Hs G st H → st.ρ[i]? = some (.lv (.lst ds)) → σ[i]? = some (some (.ref a)) → Own G a →
    H a = some (.lst xs) → RpL K G H xs ds → RpL K G H vs as → f ds as = some (ds', d) → (∀ H' v, Ex K σ Gs ss Hs G (st.put i (.lv (.lst ds'))) H' → Rp K G H' v d → Q v H') → r (.ref a) vs H Q
section
variable {K : PySem.W.Frag} {mg : Str → Option Value} {σ : Sg} {G : Gh} {Wx : WX} {st : Stt} {H : Hp}
theorem RpL.drop1 {vs : List V} {ds : List D} (r : RpL K G H vs ds) : RpL K G H vs.dropLast ds.dropLast := by
  rw [List.dropLast_eq_take, List.dropLast_eq_take, r.length]
  exact r.take _
theorem RpL.erase : ∀ {vs : List V} {ds : List D} (n : Nat), RpL K G H vs ds → RpL K G H (vs.eraseIdx n) (ds.eraseIdx n)
  | _, _, _, .nil => .nil
  | _, _, 0, .cons h r => r
  | _, _, n + 1, .cons h r => .cons h (RpL.erase n r)
theorem mu_app : MuL K rAppend appD := fun σ Gs ss Hs G st H i a ds as ds' xs vs d Q r x e s w h rl ra hf q => by
  unfold appD at hf
  split at hf
  · split at hf
    · rename_i hl
      cases hf
      cases ra with
      | cons ra rn =>
        cases rn
        refine ⟨a, xs, _, rfl, rfl, h, by rw [rl.length]; exact hl, ?_⟩
        obtain ⟨x2, fr⟩ := put_lst x e s w h (rl.append (.cons ra .nil))
        exact q _ _ x2 .non
    · cases hf
  · cases hf
theorem mu_ext : MuL K rExtend extD := fun σ Gs ss Hs G st H i a ds as ds' xs vs d Q r x e s w h rl ra hf q => by
  unfold extD at hf
  split at hf
  · split at hf
    · rename_i hl
      cases hf
      cases ra with
      | cons ra rn =>
        cases rn
        cases ra with
        | lst f hb rb =>
          refine ⟨a, _, xs, _, rfl, rfl, h, hb, by rw [rl.length, rb.length]; exact hl, ?_⟩
          obtain ⟨x2, fr⟩ := put_lst x e s w h (rl.append rb)
          exact q _ _ x2 .non
    · cases hf
  · cases hf
theorem mu_pop : MuL K rPop popD := fun σ Gs ss Hs G st H i a ds as ds' xs vs d Q r x e s w h rl ra hf q => by
  unfold popD at hf
  split at hf
  · obtain ⟨y, hy, ey⟩ := Option.map_eq_some_iff.mp hf
    cases ey
    cases ra
    obtain ⟨v, hv, rv⟩ := rl.get hy
    rw [← rl.length] at hv
    refine ⟨a, xs, v, rfl, rfl, h, hv, ?_⟩
    obtain ⟨x2, fr⟩ := put_lst x e s w h rl.drop1
    exact q _ _ x2 (rv.mono fr)
  · cases hf
theorem mu_popAt : MuL K rPopAt popAtD := fun σ Gs ss Hs G st H i a ds as ds' xs vs d Q r x e s w h rl ra hf q => by
  unfold popAtD at hf
  split at hf
  · split at hf
    · rename_i hc
      simp only [inR, Bool.and_eq_true, decide_eq_true_eq] at hc
      obtain ⟨k, hk, hf⟩ := Option.bind_eq_some_iff.mp hf
      obtain ⟨y, hy, ey⟩ := Option.map_eq_some_iff.mp hf
      cases ey
      have := RpL.of_ints (ns := [_]) ra
      subst this
      obtain ⟨v, hv, rv⟩ := rl.get hy
      refine ⟨a, xs, _, k, v, rfl, rfl, h, by omega, by omega, by rw [rl.length]; exact hk, hv, ?_⟩
      obtain ⟨x2, fr⟩ := put_lst x e s w h (rl.erase k)
      exact q _ _ x2 (rv.mono fr)
    · cases hf
  · cases hf
theorem tyL {v : V} {ds : List D} (h : Hd K G H v (.lst ds)) : tyV K "list" v H := by
  obtain ⟨a, vs, rfl, hl, _⟩ := h.lst
  exact .inl ⟨rfl, vs, .of hl⟩
theorem up_meth {r : V → List V → Hp → VK → Prop} {f : List D → List D → Option (List D × D)} (hf : MuL K r f) {mo : Ev W} {ma : Ev (List D)} {Q : VK} (h : upE K mg Wx (methL f mo ma) σ H Q) :
    upE K mg Wx mo σ H fun x H1 => tyV K "list" x H1 ∧ upA K mg Wx ma σ H1 fun xs H2 => r x xs H2 Q := by
  obtain ⟨G, st, rel, h⟩ := h
  refine step rel (.refl rel) h fun w st1 G1 H1 v x1 _ r1 h1 => ?_
  split at h1
  · rename_i ds hc
    refine ⟨tyL (r1.hd x1.rel hc), stepA rel x1 h1 fun as st2 G2 H2 vs x2 x12 ra h2 => ?_⟩
    have r2 := r1.mono rel x1 x12
    unfold mutL at h2
    cases w with
    | val d => exact h2.elim
    | fresh d => exact h2.elim
    | live i =>
      simp only at h2
      split at h2
      · rename_i ds2 e2
        split at h2
        · rename_i ds3 d e3
          obtain ⟨a, xs, s, w, hl, rl⟩ := live_lst x2.rel e2
          obtain ⟨s2, _⟩ := r2
          rw [s] at s2
          cases s2
          exact hf σ G st H G2 st2 H2 i a ds2 as ds3 xs vs d Q rel x2 e2 s w hl rl ra e3 fun H' u x3 ru => h2 G2 H' u x3 ru
        · exact h2.elim
      · exact h2.elim
  · exact h1.elim
end
section
variable {K : PySem.W.Frag} {mg : Str → Option Value} {σ : Sg} {Wx : WX} {H : Hp}
theorem up_meth0 {r : V → List V → Hp → VK → Prop} {f : List D → List D → Option (List D × D)} (hf : MuL K r f) {mo : Ev W} {Q : VK} (h : upE K mg Wx (methL f mo aNil) σ H Q) :
    upE K mg Wx mo σ H fun x H1 => tyV K "list" x H1 ∧ r x [] H1 Q := by
  obtain ⟨G, st, rel, h⟩ := h
  refine step rel (.refl rel) h fun w st1 G1 H1 v x1 _ r1 h1 => ?_
  split at h1
  · rename_i ds hc
    refine ⟨tyL (r1.hd x1.rel hc), ?_⟩
    have h2 : ResP K mg σ G Wx (mutL f w [] st1) _ := h1
    unfold mutL at h2
    cases w with
    | val d => exact h2.elim
    | fresh d => exact h2.elim
    | live i =>
      simp only at h2
      split at h2
      · rename_i ds2 e2
        split at h2
        · rename_i ds3 d e3
          obtain ⟨a, xs, s, w, hl, rl⟩ := live_lst x1.rel e2
          obtain ⟨s2, _⟩ := r1
          rw [s] at s2
          cases s2
          exact hf σ G st H G1 st1 H1 i a ds2 [] ds3 xs [] d Q rel x1 e2 s w hl rl .nil e3 fun H' u x3 ru => h2 G1 H' u x3 ru
        · exact h2.elim
      · exact h2.elim
  · exact h1.elim
end
section
variable {X : Cx} {Wx : WX} {o e : Expr} {es : List Expr} {mo : Ev W} {ma : Ev (List D)} {apos cpos : Pos}
theorem de_append (ho : DE X Wx o mo) (ha : DA X Wx [e] ma) (hbase : attributeBase o "append" X.env (eval o X.env) = eval o X.env := by rfl)
    (hfew : ((backTo cpos (starEach [e] X.env)).all (fun x => !x.1) && (backToKw cpos (keywordEach [] X.env)).all (fun x => x.1.isSome) && decide (([e] : List Expr).length + ([] : List Keyword).length + (if ([] : List Keyword).isEmpty then 0 else 1) < 30)) = true := by rfl)
    (hline : (apos.endLine == cpos.line) = true := by rfl) (hs : starEach [e] X.env = (false, eval e X.env) :: starEach [] X.env := by rfl) (hpl : (backTo cpos (starEach [] X.env)).any (·.1) = false := by rfl) :
    DE X Wx (.Call (.Attribute o "append" apos) [e] [] cpos) (methL appD mo ma) :=
  useE (pe_bm F.plainAttrs_list F.slot_list_append F.type_list_append mt_append ho ha hbase hfew hline hs hpl) fun σ H Q h => up_meth mu_app h
theorem de_extend (ho : DE X Wx o mo) (ha : DA X Wx [e] ma) (hbase : attributeBase o "extend" X.env (eval o X.env) = eval o X.env := by rfl)
    (hfew : ((backTo cpos (starEach [e] X.env)).all (fun x => !x.1) && (backToKw cpos (keywordEach [] X.env)).all (fun x => x.1.isSome) && decide (([e] : List Expr).length + ([] : List Keyword).length + (if ([] : List Keyword).isEmpty then 0 else 1) < 30)) = true := by rfl)
    (hline : (apos.endLine == cpos.line) = true := by rfl) (hs : starEach [e] X.env = (false, eval e X.env) :: starEach [] X.env := by rfl) (hpl : (backTo cpos (starEach [] X.env)).any (·.1) = false := by rfl) :
    DE X Wx (.Call (.Attribute o "extend" apos) [e] [] cpos) (methL extD mo ma) :=
  useE (pe_bm F.plainAttrs_list F.slot_list_extend F.type_list_extend mt_extend ho ha hbase hfew hline hs hpl) fun σ H Q h => up_meth mu_ext h
theorem de_popAt (ho : DE X Wx o mo) (ha : DA X Wx [e] ma) (hbase : attributeBase o "pop" X.env (eval o X.env) = eval o X.env := by rfl)
    (hfew : ((backTo cpos (starEach [e] X.env)).all (fun x => !x.1) && (backToKw cpos (keywordEach [] X.env)).all (fun x => x.1.isSome) && decide (([e] : List Expr).length + ([] : List Keyword).length + (if ([] : List Keyword).isEmpty then 0 else 1) < 30)) = true := by rfl)
    (hline : (apos.endLine == cpos.line) = true := by rfl) (hs : starEach [e] X.env = (false, eval e X.env) :: starEach [] X.env := by rfl) (hpl : (backTo cpos (starEach [] X.env)).any (·.1) = false := by rfl) :
    DE X Wx (.Call (.Attribute o "pop" apos) [e] [] cpos) (methL popAtD mo ma) :=
  useE (pe_bm F.plainAttrs_list F.slot_list_pop F.type_list_pop mt_popAt ho ha hbase hfew hline hs hpl) fun σ H Q h => up_meth mu_popAt h
theorem de_pop (ho : DE X Wx o mo) (hbase : attributeBase o "pop" X.env (eval o X.env) = eval o X.env := by rfl) (hline : (apos.endLine == cpos.line) = true := by rfl) :
    DE X Wx (.Call (.Attribute o "pop" apos) [] [] cpos) (methL popD mo aNil) :=
  useE (pe_bm0 F.plainAttrs_list F.slot_list_pop F.type_list_pop mt_pop ho hbase hline) fun σ H Q h => up_meth0 mu_pop h
end
end Dl

namespace Dl
open PySem PySem.Spec PyProof.Rows L2

/-! ### d[k] = v -/
def replL : List D → List D → D → D → List D
  | k0 :: ks, v0 :: vs, k, v => (if eqd k0 k = true then v else v0) :: replL ks vs k v
  | _, vs, _, _ => vs
def putL (ks vs : List D) (k v : D) : List D × List D := if (lookL ks vs k).isSome = true then (ks, replL ks vs k v) else (ks ++ [k], vs ++ [v])
/-- what a container is behind the store -/
def storeD (d k v : D) : Option D := match d, k with
  | .lst ds, .int i => (ixN ds.length i).map fun j => .lst (ds.set j v)
  | .dct t ks vs, k => if isKey t k = true ∧ ks.length < big then some (.dct t (putL ks vs k v).1 (putL ks vs k v).2) else none
  | _, _ => none
def storeW (wo wi : W) (v : D) : Ev Fl := fun st => match wo, content st wi with
  | .live i, some k => match st.ρ[i]? with
    | some (.lv d) => match storeD d k v with
      | some d' => .ok .next (st.put i (.lv d'))
      | none => .stuck
    | _ => .stuck
  | _, _ => .stuck
def rStore : TSet := fun o i v H Q => rSetL o i v H Q ∨ ∃ a H4, o = .ref a ∧ DPut H a i v H4 ∧ Q H4
theorem set_any {X : Cx} (hu : X.A.units + 1 < cLine) : PSet X rStore := by
  intro pins s σ H o i v ov iv u Q I ro ri rv h
  rcases h with h | ⟨a, H4, rfl, g, q⟩
  · exact set_list pins s σ H o i v ov iv u Q I ro ri rv h
  · obtain rfl : ov = Value.ref a := ro
    exact d_setItem hu I g ri rv fun s4 I4 => ⟨H4, I4, q⟩
section
variable {K : PySem.W.Frag} {mg : Str → Option Value} {σ : Sg} {G G1 : Gh} {Wx : WX} {st st1 : Stt} {H H1 : Hp}
theorem repl_map {κ : Type} [DecidableEq κ] {f : κ → D} (hf : ∀ a b, eqd (f a) (f b) = decide (a = b)) {k : κ} {v : V} {d : D} (rv : Rp K G H v d) : ∀ {kvs : List (κ × V)} {vs : List D}, RpL K G H (kvs.map Prod.snd) vs →
    (kvs.map fun kv => if kv.1 = k then (kv.1, v) else kv).map (fun p => f p.1) = kvs.map (fun p => f p.1) ∧ RpL K G H ((kvs.map fun kv => if kv.1 = k then (kv.1, v) else kv).map Prod.snd) (replL (kvs.map fun p => f p.1) vs (f k) d)
  | [], _, h => by
    cases h
    exact ⟨rfl, .nil⟩
  | p :: kvs, _, h => by
    cases h with
    | cons h1 h2 =>
      obtain ⟨e, r⟩ := repl_map hf rv h2
      simp only [List.map_cons, replL, hf]
      by_cases z : p.1 = k
      · rw [if_pos z, if_pos (decide_eq_true z)]
        exact ⟨by rw [e], .cons rv r⟩
      · rw [if_neg z, if_neg (by simpa using z)]
        exact ⟨by rw [e], .cons h1 r⟩
theorem look_any {κ : Type} [DecidableEq κ] {f : κ → D} (hf : ∀ a b, eqd (f a) (f b) = decide (a = b)) {k : κ} : ∀ {kvs : List (κ × V)} {vs : List D}, RpL K G H (kvs.map Prod.snd) vs → (lookL (kvs.map fun p => f p.1) vs (f k)).isSome = kvs.any fun kv => decide (kv.1 = k)
  | [], _, h => by cases h; rfl
  | p :: kvs, _, h => by
    cases h with
    | cons h1 h2 =>
      simp only [List.map_cons, lookL, hf, List.any_cons]
      by_cases z : p.1 = k
      · rw [if_pos (decide_eq_true z), decide_eq_true z]
        rfl
      · rw [if_neg (by simpa using z), decide_eq_false z, Bool.false_or]
        exact look_any hf h2
theorem put_rp {κ : Type} [DecidableEq κ] {f : κ → D} (hf : ∀ a b, eqd (f a) (f b) = decide (a = b)) {k : κ} {v : V} {d : D} (rv : Rp K G H v d) {kvs : List (κ × V)} {vs : List D} (h : RpL K G H (kvs.map Prod.snd) vs) :
    (putK kvs k v).map (fun p => f p.1) = (putL (kvs.map fun p => f p.1) vs (f k) d).1 ∧ RpL K G H ((putK kvs k v).map Prod.snd) (putL (kvs.map fun p => f p.1) vs (f k) d).2 := by
  unfold putK putL
  rw [look_any hf h]
  by_cases z : (kvs.any fun kv => decide (kv.1 = k)) = true
  · rw [if_pos z, if_pos z]
    exact repl_map hf rv h
  · rw [if_neg z, if_neg z]
    exact ⟨by simp, by rw [List.map_append]; exact h.append (.cons rv .nil)⟩
theorem storeW_ok {wo wi : W} {o i v : V} {d : D} {D' : Ends} (r : Rel K G st σ H) (x : Ex K σ G st H G1 st1 H1) (ro : RpW K G1 H1 st1 σ H wo o) (ri : RpW K G1 H1 st1 σ H wi i) (rv : Rp K G1 H1 v d) (p : SRes K mg Wx G H (storeW wo wi d st1) D') : rStore o i v H1 (fun H3 => D'.nx σ H3) := by
  unfold storeW at p
  split at p
  · rename_i j k ek
    have hk := ri.hd x.rel ek
    split at p
    · rename_i d0 e0
      split at p
      · rename_i d' e1
        obtain ⟨s, _⟩ := ro
        obtain ⟨a, s', w, b⟩ := x.rel.lv j d0 e0
        rw [s] at s'
        cases s'
        unfold storeD at e1
        split at e1
        · obtain ⟨m, hm, rfl⟩ := Option.map_eq_some_iff.mp e1
          cases b with
          | lst hl rl =>
            obtain ⟨x2, fr⟩ := put_lst x e0 s w hl (rl.set rv m)
            exact .inl ⟨a, _, _, m, rfl, hk.int, hl, by rw [rl.length]; exact hm, p _ _ _ x2.rel (x2.gt r)⟩
        · rename_i t ks vs
          split at e1
          · rename_i hc
            cases e1
            obtain ⟨hkey, hsz⟩ := hc
            cases t with
            | true =>
              obtain ⟨kk, hkk⟩ := Option.isSome_iff_exists.mp (show (keyK k).isSome = true from hkey)
              have hd := keyK_eq hkk
              subst hd
              have ey : i = kV kk := by
                rcases hk with h2 | ⟨b', rfl, h2⟩
                · exact rp_kD h2
                · cases kk <;> cases h2
              cases b with
              | dK hl rl =>
                rename_i kvs
                obtain ⟨q1, q2⟩ := put_rp (f := kD) (k := kk) eqd_kD rv rl
                have fr := ownUpd_fro (o := HO.dK (putK kvs kk v)) w.nf hl trivial
                have bo : Bo K G1 (upd H1 a (.dK (putK kvs kk v))) a (.dct true (putL (kvs.map fun p => kD p.1) vs (kD kk) d).1 (putL (kvs.map fun p => kD p.1) vs (kD kk) d).2) := by
                  rw [← q1]
                  exact .dK upd_same (q2.mono fr)
                have x2 := x.updLive e0 s bo
                refine .inr ⟨a, _, rfl, .inl ⟨kvs, kk, hl, ey, ?_, rfl⟩, p _ _ _ x2.rel (x2.gt r)⟩
                have hz : kvs.length < big := by simpa using hsz
                exact hz
            | false =>
              obtain ⟨kk, hkk⟩ := Option.isSome_iff_exists.mp (show (keyT k).isSome = true from hkey)
              have hd := keyT_eq hkk
              subst hd
              obtain ⟨b', us, rfl, hb, rb⟩ := hk.tup
              rw [rpL_kD rb] at hb
              cases b with
              | dT hl rl =>
                rename_i kvs
                obtain ⟨q1, q2⟩ := put_rp (f := fun k => D.tup (k.map kD)) (k := kk) (fun a b => by simp only [eqd, eqdL_kD]) rv rl
                have fr := ownUpd_fro (o := HO.dT (putK kvs kk v)) w.nf hl trivial
                have bo : Bo K G1 (upd H1 a (.dT (putK kvs kk v))) a (.dct false (putL (kvs.map fun p => .tup (p.1.map kD)) vs (.tup (kk.map kD)) d).1 (putL (kvs.map fun p => .tup (p.1.map kD)) vs (.tup (kk.map kD)) d).2) := by
                  rw [← q1]
                  exact .dT upd_same (q2.mono fr)
                have x2 := x.updLive e0 s bo
                refine .inr ⟨a, _, rfl, .inr ⟨kvs, kk, b', hl, rfl, hb, ?_, rfl⟩, p _ _ _ x2.rel (x2.gt r)⟩
                have hz : kvs.length < big := by simpa using hsz
                exact hz
          · cases e1
        · cases e1
      · exact p.elim
    · exact p.elim
  · exact p.elim
theorem keepW_sres' {D' : Ends} {w : W} {k : D → Ev Fl} (h : SRes K mg Wx G H (bindE (keepW w) k st1) D') : ∃ d st2, keepW w st1 = .ok d st2 ∧ SRes K mg Wx G H (k d st2) D' := keepW_sres h
/-- an operand within a statement -/
theorem stepS2 {D' : Ends} {m : Ev W} {k : W → Ev Fl} {T : VK} (r : Rel K G st σ H) (x : Ex K σ G st H G1 st1 H1) (h : SRes K mg Wx G H (bindE m k st1) D')
    (t : ∀ w st2 G2 H2 v, Ex K σ G st H G2 st2 H2 → Ex K σ G1 st1 H1 G2 st2 H2 → RpW K G2 H2 st2 σ H w v → SRes K mg Wx G H (k w st2) D' → T v H2) : upE K mg Wx m σ H1 T := by
  refine ⟨G1, st1, x.rel, ?_⟩
  unfold bindE at h
  cases q : m st1 with
  | stuck => rw [q] at h; exact h
  | exc y s => rw [q] at h; exact fun G' H' cl dx r' b' q' => h G' σ H' cl dx r' (x.bs.trans b') q'
  | ok w s =>
    rw [q] at h
    exact fun G2 H2 v y rw' => t w s G2 H2 v (x.trans r y) y (rw'.start x) h
end
def storeS (mv mo mi : Ev W) : Ev Fl := bindE mv fun w => bindE (keepW w) fun v => bindE mo fun wo => bindE mi fun wi => storeW wo wi v
section
variable {X : Cx} {Wx : WX} {o i e : Expr} {mo mi me : Ev W} {pos pos' : Pos}
theorem ds_store (hu : X.A.units + 1 < cLine) (he : DE X Wx e me) (ho : DE X Wx o mo) (hi : DE X Wx i mi) (hs : swapsWithSole [.Subscript o i pos'] e pos.line X.env = pure false := by rfl) (hw : swappedStores [.Subscript o i pos'] e X.env = pure none := by rfl)
    (h1 : (assignEach [.Subscript o i pos'] X.env).map (·.2) = [assign (.Subscript o i pos') X.env] := by rfl)
    (ha : ∀ v, assign (.Subscript o i pos') X.env v = (do
      let ov ← holding [v] (eval o X.env)
      let iv ← holding [v, ov] (eval i X.env)
      standAt pos'
      holding [v, ov, iv] (setItem ov iv v)
      release [v, ov, iv] []) := by intro _; rfl) : DS X Wx (.Assign [.Subscript o i pos'] e pos) (storeS me mo mi) :=
  useS (ps_asg he (pg_sub ho hi (set_any hu) ha) hs hw h1) fun D' σ H ⟨G, st, rel, h⟩ => stepS rel h fun w st1 G1 H1 v x r p => by
    obtain ⟨d, st2, e, p2⟩ := keepW_sres p
    obtain ⟨G2, x2, rd, fr⟩ := keepW_ok rel x r e
    refine stepS2 rel x2 p2 fun wo st3 G3 H3 vo x3 x23 ro p3 => ?_
    refine stepS2 rel x3 p3 fun wi st4 G4 H4 vi x4 x34 ri p4 => ?_
    exact storeW_ok rel x4 (ro.mono rel x3 x34) ri ((rd.mono (x23.fro x2.rel)).mono (x34.fro x3.rel)) p4
end

/-! ### x += e -/
def augS (i : Nat) (f : D → D → Option W) (me : Ev W) : Ev Fl := fun st => match st.ρ[i]? with
  | some (.fz d) => match me st with
    | .ok w st1 => match content st1 w with
      | some d2 => match f d d2 with
        | some (.val d3) => .ok .next (st1.put i (.fz d3))
        | _ => .stuck
      | none => .stuck
    | .exc x st1 => .exc x st1
    | .stuck => .stuck
  | _ => .stuck
/-- an in-place operator on values -/
def Pi2 (K : PySem.W.Frag) (r : TIp) (f : D → D → Option W) : Prop := ∀ (σ : Sg) (Gs : Gh) (ss : Stt) (Hs : Hp) (G : Gh) (st : Stt) (H : Hp) (x y : V) (a b c : D) (Q : VK), Rel K Gs ss σ Hs → Ex K σ Gs ss Hs G st H → Rp K G H x a → Hd K G H y b → f a b = some (.val c) →
  (∀ H' v, Ex K σ Gs ss Hs G st H' → Rp K G H' v c → Q v H') → r x y H Q
theorem pi_add {K : PySem.W.Frag} {f : D → D → Option W} {g : Int → Int → Int} (hf : ∀ a b c, f a b = some (.val c) → ∃ i j, a = .int i ∧ b = .int j ∧ c = .int (g i j)) : Pi2 K (ipI g) f := fun σ Gs ss Hs G st H x y a b c Q r e h1 h2 hw q => by
  obtain ⟨i, j, rfl, rfl, rfl⟩ := hf a b c hw
  exact ⟨i, j, (Hd.int (.inl h1)), h2.int, q H _ e (.int _)⟩
section
variable {X : Cx} {Wx : WX} {e : Expr} {me : Ev W} {pos pos' : Pos} {op : Operator}
theorem ds_aug {r : TIp} {f : D → D → Option W} {i : Nat} {x : Str} (ho : PIp X op r) (hf : Pi2 X.K r f) (hN : X.N.Nodup) (hi : X.N[i]? = some x) (hx : Loc X.env.scope x) (he : DE X Wx e me)
    (hff : X.fn x = true ∨ X.env.scope.names.lookup x = some .local := by first | exact .inl rfl | exact .inr rfl | assumption) : DS X Wx (.AugAssign (.Name x pos') op e pos) (augS i f me) :=
  useS (ps_aug hN hi hx he ho hff) fun D' σ H ⟨G, st, rel, h⟩ => by
    unfold augS at h
    split at h
    · rename_i d hd
      obtain ⟨v, s, rp⟩ := rel.fz i d hd
      refine ⟨v, s, G, st, rel, ?_⟩
      split at h
      · rename_i w st1 hm
        rw [hm]
        split at h
        · rename_i d2 hc
          split at h
          · rename_i d3 h3
            exact fun G1 H1 y x1 rw' => hf σ G st H G1 st1 H1 v y d d2 d3 _ rel x1 (rp.mono (x1.fro rel)) (rw'.hd x1.rel hc) h3 fun H2 z x2 rz => h G1 _ H2 (x2.rel.putFz rz) (x2.gt rel)
          · exact h.elim
        · exact h.elim
      · rename_i y st1 hm
        rw [hm]
        exact fun G' H' cl dx r b q => h G' σ H' cl dx r b q
      · exact h.elim
    · exact h.elim
end
def addI (a b : D) : Option W := match a, b with
  | .int i, .int j => some (.val (.int (i + j)))
  | _, _ => none
def subI (a b : D) : Option W := match a, b with
  | .int i, .int j => some (.val (.int (i - j)))
  | _, _ => none
theorem pi_plus {K : PySem.W.Frag} : Pi2 K (ipI fun i j => i + j) addI := pi_add fun a b c h => by
  unfold addI at h
  split at h
  · cases h; exact ⟨_, _, rfl, rfl, rfl⟩
  · cases h
theorem pi_minus {K : PySem.W.Frag} : Pi2 K (ipI fun i j => i - j) subI := pi_add fun a b c h => by
  unfold subI at h
  split at h
  · cases h; exact ⟨_, _, rfl, rfl, rfl⟩
  · cases h

/-! ### a, b = x, y -/
def rNil : Ev (List W) := okE []
def rCons (m : Ev W) (r : Ev (List W)) : Ev (List W) := bindE m fun w => bindE r fun ws => okE (w :: ws)
def NotIn (v : V) (ws : List W) (vs : List V) : Prop := ∀ (j : Nat) (e : D), ws[j]? = some (.fresh e) → vs[j]? = some v → False
def RpR (K : PySem.W.Frag) (G : Gh) (H : Hp) (st : Stt) (σ : Sg) (Hs : Hp) : List W → List V → Prop
  | [], [] => True
  | w :: ws, v :: vs => RpW K G H st σ Hs w v ∧ (∀ d, w = .fresh d → NotIn v ws vs) ∧ RpR K G H st σ Hs ws vs
  | _, _ => False
def upR (K : PySem.W.Frag) (mg : Str → Option Value) (Wx : WX) (m : Ev (List W)) : TA := fun σ H Q => ∃ G st, Rel K G st σ H ∧
  ResP K mg σ G Wx (m st) fun ws st' => ∀ G' H' vs, Ex K σ G st H G' st' H' → RpR K G' H' st' σ H ws vs → Q vs H'
abbrev DR (X : Cx) (Wx : WX) (es : List Expr) (m : Ev (List W)) : Prop := PA X es (upR X.K X.mg Wx m)
/-- names' containers among the values are kept -/
def resoW : List W → Ev (List W)
  | [] => okE []
  | .live j :: ws => bindE (keepW (.live j)) fun d => bindE (resoW ws) fun r => okE (.val d :: r)
  | w :: ws => bindE (resoW ws) fun r => okE (w :: r)
def putA : List Nat → List W → Stt → Option Stt
  | i :: is, .val d :: ws, st => putA is ws (st.put i (.fz d))
  | i :: is, .fresh d :: ws, st => putA is ws (st.put i (.lv d))
  | [], [], st => some st
  | _, _, _ => none
def parS (is : List Nat) (m : Ev (List W)) : Ev Fl := bindE m fun ws => bindE (resoW ws) fun rs st => match putA is rs st with
  | some st' => .ok .next st'
  | none => .stuck
def setAll : List Nat → List V → Sg → Sg
  | i :: is, v :: vs, σ => setAll is vs (σ.set i (some v))
  | _, _, σ => σ
section
variable {K : PySem.W.Frag} {mg : Str → Option Value} {σ : Sg} {G G1 G2 : Gh} {Wx : WX} {st st1 st2 : Stt} {H H1 H2 Hs : Hp}
theorem rpR_start (x : Ex K σ G st H G1 st1 H1) : ∀ {ws : List W} {vs : List V}, RpR K G2 H2 st2 σ H1 ws vs → RpR K G2 H2 st2 σ H ws vs
  | [], [], h => h
  | [], _ :: _, h => h
  | _ :: _, [], h => h
  | _ :: _, _ :: _, h => ⟨h.1.start x, h.2.1, rpR_start x h.2.2⟩
theorem rpR_fresh : ∀ {ws : List W} {vs : List V}, RpR K G H st σ Hs ws vs → ∀ (j : Nat) (e : D) (v : V), ws[j]? = some (.fresh e) → vs[j]? = some v → ∃ a, v = .ref a ∧ Hs a = none
  | [], [], _, j, e, v, h1, _ => by simp at h1
  | [], _ :: _, h, _, _, _, _, _ => h.elim
  | _ :: _, [], h, _, _, _, _, _ => h.elim
  | w :: ws, u :: vs, h, 0, e, v, h1, h2 => by
    simp only [List.getElem?_cons_zero, Option.some.injEq] at h1 h2
    subst h1 h2
    obtain ⟨a, ea, hs, _⟩ := h.1
    exact ⟨a, ea, hs⟩
  | w :: ws, u :: vs, h, j + 1, e, v, h1, h2 => rpR_fresh h.2.2 j e v (by simpa using h1) (by simpa using h2)
theorem rpR_len : ∀ {ws : List W} {vs : List V}, RpR K G H st σ Hs ws vs → vs.length = ws.length
  | [], [], _ => rfl
  | [], _ :: _, h => h.elim
  | _ :: _, [], h => h.elim
  | _ :: _, _ :: _, h => by rw [List.length_cons, List.length_cons, rpR_len h.2.2]
theorem rpR_mono {G0 : Gh} {st0 : Stt} {H0 : Hp} (r : Rel K G0 st0 σ H0) (x : Ex K σ G0 st0 H0 G1 st1 H1) (y : Ex K σ G1 st1 H1 G2 st2 H2) : ∀ {ws : List W} {vs : List V}, RpR K G1 H1 st1 σ H0 ws vs → RpR K G2 H2 st2 σ H0 ws vs
  | [], [], h => h
  | [], _ :: _, h => h
  | _ :: _, [], h => h
  | _ :: _, _ :: _, h => ⟨h.1.mono r x y, h.2.1, rpR_mono r x y h.2.2⟩
/-- values that wait for their names -/
def Pend (K : PySem.W.Frag) (G : Gh) (H : Hp) (st : Stt) (σ : Sg) : List W → List V → Prop
  | [], [] => True
  | .val d :: ws, v :: vs => Rp K G H v d ∧ Pend K G H st σ ws vs
  | .fresh d :: ws, v :: vs => (∃ a, v = .ref a ∧ Own G a ∧ Bo K G H a d ∧ ¬ LiveAt st σ a ∧ NotIn v ws vs) ∧ Pend K G H st σ ws vs
  | _, _ => False
theorem reso_ok (r : Rel K G st σ H) : ∀ {ws rs : List W} {vs : List V} {st1 st2 : Stt} {G1 : Gh}, Ex K σ G st H G1 st1 H1 → RpR K G1 H1 st1 σ H ws vs → resoW ws st1 = .ok rs st2 →
    ∃ G2, Ex K σ G st H G2 st2 H1 ∧ Ex K σ G1 st1 H1 G2 st2 H1 ∧ Pend K G2 H1 st2 σ rs vs ∧ ∀ (j : Nat) (e : D), rs[j]? = some (.fresh e) → ws[j]? = some (.fresh e)
  | [], rs, vs, st1, st2, G1, x, h, e => by
    cases e
    cases vs with
    | nil => exact ⟨G1, x, .refl x.rel, trivial, fun j e h => by simp at h⟩
    | cons _ _ => exact h.elim
  | w :: ws, rs, [], st1, st2, G1, x, h, e => h.elim
  | .live i :: ws, rs, v :: vs, st1, st2, G1, x, h, e => by
    have e : bindE (keepW (.live i)) (fun d => bindE (resoW ws) fun r => okE (.val d :: r)) st1 = .ok rs st2 := e
    unfold bindE at e
    cases q : keepW (.live i) st1 with
    | stuck => rw [q] at e; cases e
    | exc _ _ => rw [q] at e; cases e
    | ok d st3 =>
      simp only [q] at e
      cases q2 : resoW ws st3 with
      | stuck => rw [q2] at e; cases e
      | exc _ _ => rw [q2] at e; cases e
      | ok rs' st4 =>
        simp only [q2] at e
        cases e
        obtain ⟨G3, x3, rd, fr⟩ := keepW_ok x.rel (.refl x.rel) (show RpW K G1 H1 st1 σ H1 (.live i) v from h.1) q
        obtain ⟨G4, x4, y4, p4, f4⟩ := reso_ok r (x.trans r x3) (rpR_mono r x x3 h.2.2) q2
        refine ⟨G4, x4, x3.trans x.rel y4, ⟨rd.mono (y4.fro x3.rel), p4⟩, fun j e hj => ?_⟩
        cases j with
        | zero => cases hj
        | succ j => simpa using f4 j e (by simpa using hj)
  | .val d :: ws, rs, v :: vs, st1, st2, G1, x, h, e => by
    have e : bindE (resoW ws) (fun r => okE (.val d :: r)) st1 = .ok rs st2 := e
    unfold bindE at e
    cases q2 : resoW ws st1 with
    | stuck => rw [q2] at e; cases e
    | exc _ _ => rw [q2] at e; cases e
    | ok rs' st4 =>
      simp only [q2] at e
      cases e
      obtain ⟨G4, x4, y4, p4, f4⟩ := reso_ok r x h.2.2 q2
      refine ⟨G4, x4, y4, ⟨Rp.mono (y4.fro x.rel) h.1, p4⟩, fun j e hj => ?_⟩
      cases j with
      | zero => cases hj
      | succ j => simpa using f4 j e (by simpa using hj)
  | .fresh d :: ws, rs, v :: vs, st1, st2, G1, x, h, e => by
    have e : bindE (resoW ws) (fun r => okE (.fresh d :: r)) st1 = .ok rs st2 := e
    unfold bindE at e
    cases q2 : resoW ws st1 with
    | stuck => rw [q2] at e; cases e
    | exc _ _ => rw [q2] at e; cases e
    | ok rs' st4 =>
      simp only [q2] at e
      cases e
      obtain ⟨G4, x4, y4, p4, f4⟩ := reso_ok r x h.2.2 q2
      obtain ⟨a, ea, hs, o, b⟩ := h.1.mono r x y4
      refine ⟨G4, x4, y4, ⟨⟨a, ea, o, b, fresh_nl r x4 hs, fun j e hj hv => h.2.1 d rfl j e (f4 j e hj) hv⟩, p4⟩, fun j e hj => ?_⟩
      cases j with
      | zero => cases hj; rfl
      | succ j => simpa using f4 j e (by simpa using hj)
theorem live_putFz {i : Nat} {d : D} {v : V} {a : Addr} (l : LiveAt (st.put i (.fz d)) (σ.set i (some v)) a) : LiveAt st σ a := by
  obtain ⟨j, e, h, s⟩ := l
  rcases getSet h with ⟨rfl, z, _⟩ | ⟨n, h⟩
  · cases z
  · rw [List.getElem?_set_ne (Ne.symm n)] at s
    exact ⟨j, e, h, s⟩
theorem live_putLv {i : Nat} {d : D} {a b : Addr} (l : LiveAt (st.put i (.lv d)) (σ.set i (some (.ref b))) a) : a = b ∨ LiveAt st σ a := by
  obtain ⟨j, e, h, s⟩ := l
  rcases getSet h with ⟨rfl, z, _⟩ | ⟨n, h⟩
  · rcases getSet s with ⟨_, z2, _⟩ | ⟨n, _⟩
    · cases z2
      exact .inl rfl
    · exact absurd rfl n
  · rw [List.getElem?_set_ne (Ne.symm n)] at s
    exact .inr ⟨j, e, h, s⟩
theorem pend_mono {st' : Stt} {σ' : Sg} : ∀ {ws : List W} {vs : List V}, (∀ (a : Addr) (j : Nat) (e : D), ws[j]? = some (.fresh e) → vs[j]? = some (.ref a) → LiveAt st' σ' a → LiveAt st σ a) → Pend K G H st σ ws vs → Pend K G H st' σ' ws vs
  | [], [], _, h => h
  | [], _ :: _, _, h => h.elim
  | .val d :: ws, v :: vs, f, h => ⟨h.1, pend_mono (fun a j e h1 h2 => f a (j + 1) e (by simpa using h1) (by simpa using h2)) h.2⟩
  | .fresh d :: ws, v :: vs, f, ⟨⟨a, ea, o, b, n, m⟩, h⟩ => ⟨⟨a, ea, o, b, fun l => n (f a 0 d rfl (by rw [ea] <;> rfl) l), m⟩, pend_mono (fun a j e h1 h2 => f a (j + 1) e (by simpa using h1) (by simpa using h2)) h⟩
  | .val _ :: _, [], _, h => h.elim
  | .fresh _ :: _, [], _, h => h.elim
  | .live _ :: _, [], _, h => h.elim
  | .live _ :: _, _ :: _, _, h => h.elim
theorem put_ok : ∀ {is : List Nat} {ws : List W} {vs : List V} {st st' : Stt} {σ : Sg}, Rel K G st σ H → Pend K G H st σ ws vs → putA is ws st = some st' → Rel K G st' (setAll is vs σ) H ∧ vs.length = is.length
  | [], [], vs, st, st', σ, r, h, e => by
    cases e
    cases vs with
    | nil => exact ⟨r, rfl⟩
    | cons _ _ => exact h.elim
  | [], _ :: _, vs, st, st', σ, r, h, e => by cases e
  | _ :: _, [], vs, st, st', σ, r, h, e => by cases e
  | _ :: _, .live _ :: _, vs, st, st', σ, r, h, e => by cases e
  | _ :: _, .val _ :: _, [], st, st', σ, r, h, e => h.elim
  | _ :: _, .fresh _ :: _, [], st, st', σ, r, h, e => h.elim
  | i :: is, .val d :: ws, v :: vs, st, st', σ, r, h, e => by
    obtain ⟨a, b⟩ := put_ok (r.putFz (i := i) h.1) (pend_mono (fun a j e _ _ l => live_putFz l) h.2) (show putA is ws (st.put i (.fz d)) = some st' from e)
    exact ⟨a, by rw [List.length_cons, List.length_cons, b]⟩
  | i :: is, .fresh d :: ws, v :: vs, st, st', σ, r, ⟨⟨a, ea, o, b, n, m⟩, h⟩, e => by
    subst ea
    obtain ⟨q1, q2⟩ := put_ok (r.putLv (i := i) o b n) (pend_mono (fun c j e h1 h2 l => by
      rcases live_putLv l with z | z
      · subst z
        exact (m j e h1 h2).elim
      · exact z) h) (show putA is ws (st.put i (.lv d)) = some st' from e)
    exact ⟨q1, by rw [List.length_cons, List.length_cons, q2]⟩
/-- the statement's end -/
theorem par_ok {D' : Ends} {is : List Nat} {ws : List W} {vs : List V} (r : Rel K G st σ H) (x : Ex K σ G st H G1 st1 H1) (h : RpR K G1 H1 st1 σ H ws vs) (p : SRes K mg Wx G H (bindE (resoW ws) (fun rs st => match putA is rs st with
    | some st' => R.ok Fl.next st'
    | none => .stuck) st1) D') : vs.length = is.length ∧ ∀ (H2 : Hp), (H2 = H1 ∨ ∃ T vs, H1 T = none ∧ H2 = upd H1 T (.tup vs)) → D'.nx (setAll is vs σ) H2 := by
  unfold bindE at p
  cases q : resoW ws st1 with
  | stuck => rw [q] at p; exact p.elim
  | exc y s =>
    have no : ∀ {ws : List W} {st1 : Stt}, resoW ws st1 ≠ .exc y s := by
      intro ws
      induction ws with
      | nil => intro st1 z; cases z
      | cons w ws ih =>
        intro st1 z
        cases w with
        | val d =>
          have z : bindE (resoW ws) (fun r => okE (.val d :: r)) st1 = .exc y s := z
          unfold bindE at z
          cases q : resoW ws st1 with
          | stuck => rw [q] at z; cases z
          | ok _ _ => rw [q] at z; cases z
          | exc _ _ => rw [q] at z; cases z; exact ih q
        | fresh d =>
          have z : bindE (resoW ws) (fun r => okE (.fresh d :: r)) st1 = .exc y s := z
          unfold bindE at z
          cases q : resoW ws st1 with
          | stuck => rw [q] at z; cases z
          | ok _ _ => rw [q] at z; cases z
          | exc _ _ => rw [q] at z; cases z; exact ih q
        | live i =>
          have z : bindE (keepW (.live i)) (fun d => bindE (resoW ws) fun r => okE (.val d :: r)) st1 = .exc y s := z
          unfold bindE at z
          cases q0 : keepW (.live i) st1 with
          | stuck => rw [q0] at z; cases z
          | exc _ _ =>
            unfold keepW at q0
            simp only at q0
            split at q0 <;> cases q0
          | ok d st3 =>
            simp only [q0] at z
            cases q : resoW ws st3 with
            | stuck => rw [q] at z; cases z
            | ok _ _ => rw [q] at z; cases z
            | exc _ _ => rw [q] at z; cases z; exact ih q
    exact absurd q no
  | ok rs st2 =>
    simp only [q] at p
    obtain ⟨G2, x2, _, pe, _⟩ := reso_ok r x h q
    cases q2 : putA is rs st2 with
    | none => rw [q2] at p; exact p.elim
    | some st3 =>
      rw [q2] at p
      obtain ⟨r3, hl⟩ := put_ok x2.rel pe q2
      refine ⟨hl, fun H2 g => ?_⟩
      obtain ⟨r4, g4⟩ := grow_rel r3 g
      exact p G2 _ H2 r4 ((x2.gt r).trans g4)
end
section
variable {X : Cx} {Wx : WX} {e : Expr} {es : List Expr} {me : Ev W} {m : Ev (List W)}
theorem dr_nil : DR X Wx [] rNil := useA pa_nil fun σ H Q ⟨G, st, rel, h⟩ => h G H [] (.refl rel) trivial
theorem dr_cons (he : DE X Wx e me) (hr : DR X Wx es m) (hs : starEach (e :: es) X.env = (false, eval e X.env) :: starEach es X.env := by rfl) : DR X Wx (e :: es) (rCons me m) :=
  useA (pa_cons he hr hs) fun σ H Q ⟨G, st, rel, h⟩ => step rel (.refl rel) h fun w st1 G1 H1 v x1 _ r1 q =>
    ⟨G1, st1, x1.rel, ((ResP.bind q).bs x1.bs).imp fun ws st2 _ q2 G2 H2 vs x12 rr => by
      have no : ∀ d, w = .fresh d → NotIn v ws vs := fun d ew j e' hj hv => by
        subst ew
        obtain ⟨a, rfl, _, _, b⟩ := r1
        obtain ⟨u, ea, _⟩ := b.at
        obtain ⟨a', e2, h2⟩ := rpR_fresh rr j e' _ hj hv
        cases e2
        rw [ea] at h2
        cases h2
      exact q2 G2 H2 _ (x1.trans rel x12) ⟨r1.mono rel x1 x12, no, rpR_start x1 rr⟩⟩
/-- names as targets -/
abbrev DN (X : Cx) (tgs : List Expr) (is : List Nat) : Prop := PGs X tgs fun vs σ H Q => vs.length = is.length ∧ Q (setAll is vs σ) H
theorem dn_nil : DN X [] [] := useGs pgs_nil fun vs σ H Q ⟨h, q⟩ => by
  cases vs with
  | nil => exact ⟨rfl, q⟩
  | cons _ _ => cases h
theorem dn_cons {i : Nat} {x : Str} {pos : Pos} {tgs : List Expr} {is : List Nat} (hN : X.N.Nodup) (hi : X.N[i]? = some x) (hx : Loc X.env.scope x) (h2 : DN X tgs is) (hf : X.fn x = true ∨ X.env.scope.names.lookup x = some .local := by first | exact .inl rfl | exact .inr rfl | assumption)
    (hs : (assignEach (.Name x pos :: tgs) X.env).map (·.2) = assign (.Name x pos) X.env :: (assignEach tgs X.env).map (·.2) := by rfl) : DN X (.Name x pos :: tgs) (i :: is) :=
  useGs (pgs_cons (pg_name hN hi hx hf) h2 hs) fun vs σ H Q ⟨h, q⟩ => by
    cases vs with
    | nil => cases h
    | cons v vs => exact ⟨v, vs, rfl, by simpa using h, q⟩
theorem ds_par {i j : Nat} {x y : Str} {a b : Expr} {px py pt pos : Pos} {kt k2 pt2} (hc : X.calm = true) (hN : X.N.Nodup) (hi : X.N[i]? = some x) (hj : X.N[j]? = some y) (hij : i ≠ j)
    (hx : X.env.scope.names.lookup x = some .local) (hy : X.env.scope.names.lookup y = some .local) (ha : DR X Wx [a, b] m)
    (hw : swappedStores [.Tuple [.Name x px, .Name y py] kt pt] (.Tuple [a, b] k2 pt2) X.env = pure (some [x, y]))
    (hs : swapsWithSole [.Tuple [.Name x px, .Name y py] kt pt] (.Tuple [a, b] k2 pt2) pos.line X.env = pure false := by rfl) :
    DS X Wx (.Assign [.Tuple [.Name x px, .Name y py] kt pt] (.Tuple [a, b] k2 pt2) pos) (parS [i, j] m) :=
  useS (ps_par hc hN hi hj hij hx hy ha hw hs) fun D' σ H ⟨G, st, rel, h⟩ => ⟨G, st, rel, (sres_bind h).imp fun ws st1 _ p G1 H1 vs x1 rr => by
    obtain ⟨hl, q⟩ := par_ok rel x1 rr p
    match vs, hl with
    | [v, w], _ => exact ⟨v, w, rfl, q H1 (.inl rfl)⟩⟩
theorem ds_par3 {i j l : Nat} {x y z : Str} {a b c : Expr} {px py pz pt pos : Pos} {kt k2 pt2} (hc : X.calm = true) (hN : X.N.Nodup) (hi : X.N[i]? = some x) (hj : X.N[j]? = some y) (hl : X.N[l]? = some z) (hij : i ≠ j) (hil : i ≠ l) (hjl : j ≠ l)
    (hx : X.env.scope.names.lookup x = some .local) (hy : X.env.scope.names.lookup y = some .local) (hz : X.env.scope.names.lookup z = some .local) (ha : DR X Wx [a, b, c] m)
    (hw : swappedStores [.Tuple [.Name x px, .Name y py, .Name z pz] kt pt] (.Tuple [a, b, c] k2 pt2) X.env = pure (some [x, y, z]))
    (hs : swapsWithSole [.Tuple [.Name x px, .Name y py, .Name z pz] kt pt] (.Tuple [a, b, c] k2 pt2) pos.line X.env = pure false := by rfl) :
    DS X Wx (.Assign [.Tuple [.Name x px, .Name y py, .Name z pz] kt pt] (.Tuple [a, b, c] k2 pt2) pos) (parS [i, j, l] m) :=
  useS (ps_par3 hc hN hi hj hl hij hil hjl hx hy hz ha hw hs) fun D' σ H ⟨G, st, rel, h⟩ => ⟨G, st, rel, (sres_bind h).imp fun ws st1 _ p G1 H1 vs x1 rr => by
    obtain ⟨hl, q⟩ := par_ok rel x1 rr p
    match vs, hl with
    | [u, v, w], _ => exact ⟨u, v, w, rfl, q H1 (.inl rfl)⟩⟩
/-- a, b, .. = x, y, .. by way of a tuple -/
theorem ds_parT {tgs : List Expr} {kt k2 : _} {pt pt2 pos : Pos} {is : List Nat} {n : Nat} (hc : X.calm = true) (hg : DN X tgs is) (ha : DR X Wx es m) (hl : is.length ≤ big)
    (hn : (assignEach tgs X.env).length = n := by rfl) (hni : is.length = n := by rfl) (hst : (assignEach tgs X.env).findIdx? (·.1) = none := by rfl)
    (hs : swapsWithSole [.Tuple tgs kt pt] (.Tuple es k2 pt2) pos.line X.env = pure false := by rfl) (hw : swappedStores [.Tuple tgs kt pt] (.Tuple es k2 pt2) X.env = pure none := by rfl)
    (h1 : (assignEach [.Tuple tgs kt pt] X.env).map (·.2) = [assign (.Tuple tgs kt pt) X.env] := by rfl) : DS X Wx (.Assign [.Tuple tgs kt pt] (.Tuple es k2 pt2) pos) (parS is m) :=
  useS (ps_asg (pe_tup ha) (pg_tup hc hg hn hst) hs hw h1) fun D' σ H ⟨G, st, rel, h⟩ => ⟨G, st, rel, (sres_bind h).imp fun ws st1 _ p G1 H1 vs x1 rr => by
    obtain ⟨he, q⟩ := par_ok rel x1 rr p
    exact ⟨by rw [he]; exact hl, fun T hT => ⟨T, vs, rfl, .of upd_same, he.trans hni, he, q _ (.inr ⟨T, vs, hT, rfl⟩)⟩⟩⟩
/-- a, b, .. = a tuple or a list of so many -/
def seqG (n : Nat) (g : List D → Stt → Option Stt) : D → Stt → Option Stt
  | .tup ds, st => if ds.length = n then g ds st else none
  | .lst ds, st => if ds.length = n then g ds st else none
  | _, _ => none
theorem gt_seq {is : List Nat} {n : Nat} {h : List D → Stt → Option Stt} (h1 : GTs is h) : GT is (seqG n h) := fun d st st' e => by
  unfold seqG at e
  split at e
  · split at e
    · exact h1 _ _ _ e
    · cases e
  · split at e
    · exact h1 _ _ _ e
    · cases e
  · cases e
theorem dg_seq {tgs : List Expr} {is : List Nat} {h : List D → Stt → Option Stt} {k : Nat} {n : Nat} {pos : Pos} (hc : X.calm = true) (hh : DGs X tgs is h) (hn : (assignEach tgs X.env).length = n := by rfl) (hst : (assignEach tgs X.env).findIdx? (·.1) = none := by rfl) : DG X (.Tuple tgs k pos) is (seqG n h) :=
  ⟨fun pins s σ H v u Q I r ⟨G, st, d, st', rel, rp, e, q⟩ => by
    unfold seqG at e
    split at e
    · split at e
      · rename_i hl
        cases rp with
        | tup hp rl => exact (pg_tup hc hh hn hst).run pins s σ H _ u Q I r ⟨_, _, rfl, .of hp, by rw [rl.length]; exact hl, G, st, _, st', rel, rl, e, q⟩
      · cases e
    · split at e
      · rename_i hl
        cases rp with
        | lst f hp rl => exact (pg_unl hc hh hn hst).run pins s σ H _ u Q I r ⟨_, _, rfl, .of hp, by rw [rl.length]; exact hl, G, st, _, st', rel, rl, e, q⟩
      · cases e
    · cases e⟩
end
end Dl

namespace Dl
open PySem PySem.Spec PyProof.Rows L2

/-! ### built-in functions -/
def HdL (K : PySem.W.Frag) (G : Gh) (H : Hp) : List V → List D → Prop
  | [], [] => True
  | v :: vs, d :: ds => Hd K G H v d ∧ HdL K G H vs ds
  | _, _ => False
def bltE (f : List D → Option W) (m : Ev (List W)) : Ev W := bindE m fun ws st => match contents st ws with
  | some ds => match f ds with
    | some w => .ok w st
    | none => .stuck
  | none => .stuck
def PuB (K : PySem.W.Frag) (r : List V → Hp → VK → Prop) (f : List D → Option W) : Prop :=
  ∀ (σ : Sg) (Gs : Gh) (ss : Stt) (Hs : Hp) (G : Gh) (st : Stt) (H : Hp) (vs : List V) (ds : List D) (w : W) (Q : VK), Rel K Gs ss σ Hs → Ex K σ Gs ss Hs G st H → HdL K G H vs ds → f ds = some w → Ans K σ Gs ss Hs G st H w Q → r vs H Q
section
variable {K : PySem.W.Frag} {mg : Str → Option Value} {σ : Sg} {G : Gh} {Wx : WX} {st : Stt} {H Hs : Hp}
theorem rpR_hd (r : Rel K G st σ H) : ∀ {ws : List W} {vs : List V} {ds : List D}, RpR K G H st σ Hs ws vs → contents st ws = some ds → HdL K G H vs ds
  | [], [], ds, _, e => by cases e; trivial
  | [], _ :: _, _, h, _ => h.elim
  | _ :: _, [], _, h, _ => h.elim
  | w :: ws, v :: vs, ds, h, e => by
    unfold contents at e
    split at e
    · rename_i d ds' e1 e2
      cases e
      exact ⟨h.1.hd r e1, rpR_hd r h.2.2 e2⟩
    · cases e
theorem up_blt {r : List V → Hp → VK → Prop} {f : List D → Option W} (hf : PuB K r f) {m : Ev (List W)} {Q : VK} (h : upE K mg Wx (bltE f m) σ H Q) : upR K mg Wx m σ H fun vs H1 => r vs H1 Q := by
  obtain ⟨G, st, rel, h⟩ := h
  refine ⟨G, st, rel, (ResP.bind h).imp fun ws st1 _ p G1 H1 vs x rr => ?_⟩
  split at p
  · rename_i ds e
    split at p
    · rename_i w e2
      exact hf σ G st H G1 st1 H1 vs ds w Q rel x (rpR_hd x.rel rr e) e2 fun G' H' v a _ b => p G' H' v a b
    · exact p.elim
  · exact p.elim
theorem HdL.one {vs : List V} {d : D} (h : HdL K G H vs [d]) : ∃ v, vs = [v] ∧ Hd K G H v d := by
  match vs, h with
  | [v], h => exact ⟨v, rfl, h.1⟩
theorem HdL.two {vs : List V} {d e : D} (h : HdL K G H vs [d, e]) : ∃ v u, vs = [v, u] ∧ Hd K G H v d ∧ Hd K G H u e := by
  match vs, h with
  | [v, u], h => exact ⟨v, u, rfl, h.1, h.2.1⟩
end
section
variable {X : Cx} {Wx : WX} {x : Str} {p pos : Pos} {e : Expr} {es : List Expr} {m : Ev (List W)} {id T : String} {r : List V → Hp → VK → Prop} {f : List D → Option W}
theorem de_blt (hc : CallR X (.builtin id) r) (hf : PuB X.K r f) (hg : Gl X x) (hm : X.mg x = none) (hv : bootBuiltins x = some (.builtin id)) (ha : DR X Wx (e :: es) m) (hn : x ≠ "__name__" := by decide) (hdb : (x == ("__debug__" : Str)) = false := by decide)
    (he : starEach (e :: es) X.env = (false, eval e X.env) :: starEach es X.env := by rfl) (hpl : (backTo pos (starEach es X.env)).any (·.1) = false := by rfl) : DE X Wx (.Call (.Name x p) (e :: es) [] pos) (bltE f m) :=
  useE (pe_callB hc hg hm hv ha hn hdb he hpl) fun σ H Q h => up_blt hf h
theorem de_blty (hc : CallR X (.type T) r) (hf : PuB X.K r f) (hg : Gl X x) (hm : X.mg x = none) (hv : bootBuiltins x = some (.type T)) (ha : DR X Wx (e :: es) m) (hn : x ≠ "__name__" := by decide) (hdb : (x == ("__debug__" : Str)) = false := by decide)
    (he : starEach (e :: es) X.env = (false, eval e X.env) :: starEach es X.env := by rfl) (hpl : (backTo pos (starEach es X.env)).any (·.1) = false := by rfl) : DE X Wx (.Call (.Name x p) (e :: es) [] pos) (bltE f m) :=
  useE (pe_callTy hc hg hm hv ha hn hdb he hpl) fun σ H Q h => up_blt hf h
end

/-! ### len, abs, min, max, int, str -/
def lenW : List D → Option W
  | [.tup ds] => some (.val (.int ds.length))
  | [.lst ds] => some (.val (.int ds.length))
  | [.str z] => if z.length ≤ big then some (.val (.int z.length)) else none
  | _ => none
def absW : List D → Option W
  | [.int i] => some (.val (.int (if i < 0 then -i else i)))
  | _ => none
def max2W : List D → Option W
  | [.int i, .int j] => some (.val (.int (if j > i then j else i)))
  | _ => none
def min2W : List D → Option W
  | [.int i, .int j] => some (.val (.int (if j < i then j else i)))
  | _ => none
def intW : List D → Option W
  | [.int i] => some (.val (.int i))
  | [.bl k] => some (.val (.int (if k then 1 else 0)))
  | _ => none
def strW : List D → Option W
  | [.int i] => if i.natAbs.log2 < 1920 then some (.val (.str (toString i))) else none
  | _ => none
def tupW : List D → Option W
  | [.tup ds] => some (.val (.tup ds))
  | [.lst ds] => some (.val (.tup ds))
  | _ => none
def listW : List D → Option W
  | [.tup ds] => some (.fresh (.lst ds))
  | [.lst ds] => some (.fresh (.lst ds))
  | [.scr ns] => some (.fresh (.lst (ns.map .int)))
  | [.dct _ ks _] => some (.fresh (.lst ks))
  | _ => none
def intsOf : List D → Option (List Int)
  | [] => some []
  | .int i :: r => (intsOf r).map (i :: ·)
  | _ => none
def blsOf : List D → Option (List Bool)
  | [] => some []
  | .bl i :: r => (blsOf r).map (i :: ·)
  | _ => none
def sumW : List D → Option W
  | [.lst ds] => (intsOf ds).map fun ns => .val (.int ns.sum)
  | _ => none
def allW : List D → Option W
  | [.lst ds] => (blsOf ds).map fun bs => .val (.bl (bs.all id))
  | _ => none
def anyW : List D → Option W
  | [.lst ds] => (blsOf ds).map fun bs => .val (.bl (bs.any id))
  | _ => none
theorem intsOf_eq : ∀ {ds : List D} {ns : List Int}, intsOf ds = some ns → ds = ns.map .int
  | [], _, h => by cases h; rfl
  | .int i :: r, ns, h => by
    obtain ⟨ms, h1, rfl⟩ := Option.map_eq_some_iff.mp (show (intsOf r).map (i :: ·) = some ns from h)
    rw [intsOf_eq h1] <;> rfl
theorem blsOf_eq : ∀ {ds : List D} {ns : List Bool}, blsOf ds = some ns → ds = ns.map .bl
  | [], _, h => by cases h; rfl
  | .bl i :: r, ns, h => by
    obtain ⟨ms, h1, rfl⟩ := Option.map_eq_some_iff.mp (show (blsOf r).map (i :: ·) = some ns from h)
    rw [blsOf_eq h1] <;> rfl
section
variable {K : PySem.W.Frag} {G : Gh} {H : Hp}
theorem Hd.scr {v : V} {ns : List Int} (h : Hd K G H v (.scr ns)) : ∃ a, v = .ref a ∧ SqL K H a (ns.map V.int) := by
  rcases h with h | ⟨a, _, h⟩
  · cases h with
    | scr h =>
      rename_i a
      refine ⟨a, rfl, ?_⟩
      rcases h with ⟨o, h⟩ | h
      · exact .inl (.inr ⟨o, h⟩)
      · exact h H
  · cases h
theorem pb_len : PuB K (fun xs H Q => ∃ x n, xs = [x] ∧ LenV K x H n ∧ Q (.int n) H) lenW := fun σ Gs ss Hs G st H vs ds w Q r x h hf q => by
  unfold lenW at hf
  split at hf
  · cases hf
    obtain ⟨v, rfl, k1⟩ := h.one
    obtain ⟨a, us, rfl, hl, rl⟩ := k1.tup
    exact ⟨_, _, rfl, .inr ⟨us, .of hl, rfl⟩, by rw [rl.length]; exact q.val x (.int _)⟩
  · cases hf
    obtain ⟨v, rfl, k1⟩ := h.one
    obtain ⟨a, us, rfl, hl, rl⟩ := k1.lst
    exact ⟨_, _, rfl, .inl ⟨us, .of hl, rfl⟩, by rw [rl.length]; exact q.val x (.int _)⟩
  · split at hf
    · rename_i hz
      cases hf
      obtain ⟨v, rfl, k1⟩ := h.one
      rw [k1.str]
      exact ⟨_, _, rfl, ⟨hz, rfl⟩, q.val x (.int _)⟩
    · cases hf
  · cases hf
theorem pb_abs : PuB K (fun xs H Q => ∃ i, xs = [.int i] ∧ Q (.int (if i < 0 then -i else i)) H) absW := fun σ Gs ss Hs G st H vs ds w Q r x h hf q => by
  unfold absW at hf
  split at hf
  · cases hf
    obtain ⟨v, rfl, k1⟩ := h.one
    rw [k1.int]
    exact ⟨_, rfl, q.val x (.int _)⟩
  · cases hf
theorem pb_max2 : PuB K (fun xs H Q => ∃ i j, xs = [.int i, .int j] ∧ Q (.int (if j > i then j else i)) H) max2W := fun σ Gs ss Hs G st H vs ds w Q r x h hf q => by
  unfold max2W at hf
  split at hf
  · cases hf
    obtain ⟨v, u, rfl, h1, h2⟩ := h.two
    rw [h1.int, h2.int]
    exact ⟨_, _, rfl, q.val x (.int _)⟩
  · cases hf
theorem pb_min2 : PuB K (fun xs H Q => ∃ i j, xs = [.int i, .int j] ∧ Q (.int (if j < i then j else i)) H) min2W := fun σ Gs ss Hs G st H vs ds w Q r x h hf q => by
  unfold min2W at hf
  split at hf
  · cases hf
    obtain ⟨v, u, rfl, h1, h2⟩ := h.two
    rw [h1.int, h2.int]
    exact ⟨_, _, rfl, q.val x (.int _)⟩
  · cases hf
theorem pb_int : PuB K (fun xs H Q => (∃ i, xs = [.int i] ∧ Q (.int i) H) ∨ ∃ k, xs = [.bl k] ∧ Q (.int (if k then 1 else 0)) H) intW := fun σ Gs ss Hs G st H vs ds w Q r x h hf q => by
  unfold intW at hf
  split at hf
  · cases hf
    obtain ⟨v, rfl, k1⟩ := h.one
    rw [k1.int]
    exact .inl ⟨_, rfl, q.val x (.int _)⟩
  · cases hf
    obtain ⟨v, rfl, k1⟩ := h.one
    rw [k1.bl]
    exact .inr ⟨_, rfl, q.val x (.int _)⟩
  · cases hf
theorem pb_str : PuB K (fun xs H Q => ∃ i, xs = [.int i] ∧ i.natAbs.log2 < 1920 ∧ Q (.str (toString i)) H) strW := fun σ Gs ss Hs G st H vs ds w Q r x h hf q => by
  unfold strW at hf
  split at hf
  · split at hf
    · rename_i hz
      cases hf
      obtain ⟨v, rfl, k1⟩ := h.one
      rw [k1.int]
      exact ⟨_, rfl, hz, q.val x (.str _)⟩
    · cases hf
  · cases hf
theorem pb_tup : PuB K (fun xs H Q => ∃ p ys, xs = [.ref p] ∧ ((SqL K H p ys ∧ ∀ l, H l = none → Q (.ref l) (upd H l (.tup ys))) ∨ (SqT K H p ys ∧ Q (.ref p) H))) tupW := fun σ Gs ss Hs G st H vs ds w Q r x h hf q => by
  unfold tupW at hf
  split at hf
  · cases hf
    obtain ⟨v, rfl, k1⟩ := h.one
    obtain ⟨a, us, rfl, hl, rl⟩ := k1.tup
    exact ⟨_, us, rfl, .inr ⟨.of hl, q.val x (.tup hl rl)⟩⟩
  · cases hf
    obtain ⟨v, rfl, k1⟩ := h.one
    obtain ⟨a, us, rfl, hl, rl⟩ := k1.lst
    exact ⟨_, us, rfl, .inl ⟨.of hl, fun l n => q.tup x n rl⟩⟩
  · cases hf
theorem pb_sum : PuB K (rSum K) sumW := fun σ Gs ss Hs G st H vs ds w Q r x h hf q => by
  unfold sumW at hf
  split at hf
  · obtain ⟨ns, e, rfl⟩ := Option.map_eq_some_iff.mp hf
    obtain ⟨v, rfl, k1⟩ := h.one
    obtain ⟨a, us, rfl, hl, rl⟩ := k1.lst
    rw [intsOf_eq e] at rl
    rw [RpL.of_ints rl] at hl
    exact ⟨a, ns, rfl, .of hl, q.val x (.int _)⟩
  · cases hf
theorem pb_all : PuB K (rAll K) allW := fun σ Gs ss Hs G st H vs ds w Q r x h hf q => by
  unfold allW at hf
  split at hf
  · obtain ⟨ns, e, rfl⟩ := Option.map_eq_some_iff.mp hf
    obtain ⟨v, rfl, k1⟩ := h.one
    obtain ⟨a, us, rfl, hl, rl⟩ := k1.lst
    rw [blsOf_eq e] at rl
    rw [RpL.of_bls rl] at hl
    exact ⟨a, ns, rfl, .of hl, q.val x (.bl _)⟩
  · cases hf
theorem pb_any : PuB K (rAny K) anyW := fun σ Gs ss Hs G st H vs ds w Q r x h hf q => by
  unfold anyW at hf
  split at hf
  · obtain ⟨ns, e, rfl⟩ := Option.map_eq_some_iff.mp hf
    obtain ⟨v, rfl, k1⟩ := h.one
    obtain ⟨a, us, rfl, hl, rl⟩ := k1.lst
    rw [blsOf_eq e] at rl
    rw [RpL.of_bls rl] at hl
    exact ⟨a, ns, rfl, .of hl, q.val x (.bl _)⟩
  · cases hf
theorem keys_rp : ∀ {kvs : List (Key × V)}, RpL K G H (kvs.map fun kv => kV kv.1) (kvs.map fun p => kD p.1)
  | [] => .nil
  | p :: kvs => .cons (kD_rp p.1) keys_rp
theorem keys_rpL : ∀ (ks : List Key), RpL K G H (ks.map kV) (ks.map kD)
  | [] => .nil
  | k :: ks => .cons (kD_rp k) (keys_rpL ks)
theorem keys_rpT : ∀ {kvs : List (List Key × V)} {bs : List Addr}, IsKeys H kvs bs → RpL K G H (bs.map V.ref) (kvs.map fun p => .tup (p.1.map kD))
  | [], _, h => by cases h; exact .nil
  | p :: kvs, _, h => by
    cases h with
    | cons h1 h2 => exact .cons (.tup h1 (keys_rpL _)) (keys_rpT h2)
def rListAll (K : PySem.W.Frag) : List V → Hp → VK → Prop := fun xs H Q => (∃ p ys, xs = [.ref p] ∧ (SqL K H p ys ∨ SqT K H p ys) ∧ ∀ l, H l = none → Q (.ref l) (upd H l (.lst ys))) ∨
  (∃ (a : Addr) (kvs : List (Key × V)), xs = [.ref a] ∧ Rd H a (.dK kvs) ∧ ∀ p, H p = none → Q (.ref p) (upd H p (.lst (kvs.map fun kv => kV kv.1)))) ∨
  (∃ d kvs, xs = [V.ref d] ∧ Rd H d (.dT kvs) ∧ ∀ p bs, H p = none → IsKeys H kvs bs → Q (.ref p) (upd H p (.lst (bs.map V.ref))))
theorem call_listAll {X : Cx} (hc : X.calm = true) : CallR X (.type "list") (rListAll X.K) := call_list_of.or ((call_listD hc).or (call_list_dT hc))
/-- what a dict's value is in the heap -/
theorem Hd.dct {v : V} {t : Bool} {ks vs : List D} (h : Hd K G H v (.dct t ks vs)) : ∃ a, v = .ref a ∧ ((∃ kvs, Rd H a (.dK kvs) ∧ ks = (kvs.map fun p => kD p.1) ∧ RpL K G H (kvs.map Prod.snd) vs ∧ t = true) ∨
    ∃ kvs, Rd H a (.dT kvs) ∧ ks = (kvs.map fun p => .tup (p.1.map kD)) ∧ RpL K G H (kvs.map Prod.snd) vs ∧ t = false) := by
  rcases h with h | ⟨a, rfl, h⟩
  · cases h with
    | dK f h r => exact ⟨_, rfl, .inl ⟨_, h, rfl, r, rfl⟩⟩
    | dT f h r => exact ⟨_, rfl, .inr ⟨_, h, rfl, r, rfl⟩⟩
  · cases h with
    | dK h r => exact ⟨_, rfl, .inl ⟨_, .inl h, rfl, r, rfl⟩⟩
    | dT h r => exact ⟨_, rfl, .inr ⟨_, .inl h, rfl, r, rfl⟩⟩
theorem pb_list : PuB K (rListAll K) listW := fun σ Gs ss Hs G st H vs ds w Q r x h hf q => by
  unfold listW at hf
  split at hf
  · cases hf
    obtain ⟨v, rfl, k1⟩ := h.one
    obtain ⟨a, us, rfl, hl, rl⟩ := k1.tup
    exact .inl ⟨a, us, rfl, .inr (.of hl), fun l n => q.lst x n rl⟩
  · cases hf
    obtain ⟨v, rfl, k1⟩ := h.one
    obtain ⟨a, us, rfl, hl, rl⟩ := k1.lst
    exact .inl ⟨a, us, rfl, .inl (.of hl), fun l n => q.lst x n rl⟩
  · cases hf
    obtain ⟨v, rfl, k1⟩ := h.one
    obtain ⟨a, rfl, hl⟩ := k1.scr
    exact .inl ⟨a, _, rfl, .inl hl, fun l n => q.lst x n (.ints _)⟩
  · cases hf
    obtain ⟨v, rfl, k1⟩ := h.one
    obtain ⟨a, rfl, ⟨kvs, hr, rfl, rl, rfl⟩ | ⟨kvs, hr, rfl, rl, rfl⟩⟩ := k1.dct
    · exact .inr (.inl ⟨a, kvs, rfl, hr, fun l n => q.lst x n keys_rp⟩)
    · exact .inr (.inr ⟨a, kvs, rfl, hr, fun l bs n hk => q.lst x n (keys_rpT hk)⟩)
  · cases hf
end

/-! ### isinstance -/
def tyN : D → String
  | .non => "NoneType"
  | .bl _ => "bool"
  | .int _ => "int"
  | .str _ => "str"
  | .tup _ => "tuple"
  | .lst _ => "list"
  | .dct _ _ _ => "dict"
  | .deck => "dict"
  | .scr _ => "list"
def isTy (T n : String) : Bool := n == T || (T == "int" && n == "bool")
def tyOk (T : String) : Bool := ["int", "bool", "str", "tuple", "list", "dict"].contains T
def isiB (T : String) : D → Option Bool
  | .deck => none
  | .scr _ => none
  | d => some (isTy T (tyN d))
def isiE (T : String) (m : Ev W) : Ev W := bindE m fun w st => match content st w with
  | some d => match isiB T d with
    | some b => .ok (.val (.bl b)) st
    | none => .stuck
  | none => .stuck
section
variable {K : PySem.W.Frag} {G : Gh} {H : Hp}
theorem kit_ty {T : String} (hT : tyOk T = true) {d : D} {b : Bool} (e : isiB T d = some b) : PySem.W.kitOne K (.type (tyN d)) (.type T) = some b := by
  have hT' : T = "int" ∨ T = "bool" ∨ T = "str" ∨ T = "tuple" ∨ T = "list" ∨ T = "dict" := by simpa [tyOk] using hT
  rcases hT' with rfl | rfl | rfl | rfl | rfl | rfl <;> cases d <;> first
    | (cases e; done)
    | (cases e; rfl)
/-- a value's type, a locked dict too -/
def TyY (K : PySem.W.Frag) (H : Hp) (x : V) (t : Value) : Prop := TyX K H x t ∨ (t = .type "dict" ∧ ∃ (a : Addr) (o : Obj) (kvs : List (List Key × V)), x = .ref a ∧ H a = some (.frz o (.dT kvs)))
theorem tyy_of {v : V} {d : D} {T : String} {b : Bool} (h : Hd K G H v d) (e : isiB T d = some b) : TyY K H v (.type (tyN d)) := by
  cases d with
  | non => rw [h.non]; exact .inl (.base .non)
  | bl k => rw [h.bl]; exact .inl (.base (.bl k))
  | int i => rw [h.int]; exact .inl (.base (.int i))
  | str z => rw [h.str]; exact .inl (.base (.str z))
  | tup ds => obtain ⟨a, us, rfl, hl, _⟩ := h.tup; exact .inl (.base (.tup hl))
  | lst ds => obtain ⟨a, us, rfl, hl, _⟩ := h.lst; exact .inl (.base (.lst hl))
  | dct t ks vs =>
    obtain ⟨a, rfl, ⟨kvs, hr, _⟩ | ⟨kvs, hr, _⟩⟩ := h.dct
    · rcases hr with hr | ⟨o, hr⟩
      · exact .inl (.base (.dK hr))
      · exact .inl (.fDict hr)
    · rcases hr with hr | ⟨o, hr⟩
      · exact .inl (.base (.dT hr))
      · exact .inr ⟨rfl, a, o, kvs, rfl, hr⟩
  | deck => cases e
  | scr ns => cases e
def rIsiY (K : PySem.W.Frag) (T : String) : V → Hp → VK → Prop := fun x H Q => ∃ (t : Value) (b : Bool), TyY K H x t ∧ PySem.W.kitOne K t (.type T) = some b ∧ Q (.bl b) H
theorem call_isiY {X : Cx} {T : String} : CallR X (.builtin "isinstance") (fun xs H Q => ∃ x, xs = [x, .ty T] ∧ rIsiY X.K T x H Q) := by
  intro pins s σ H xs us Q I r h
  obtain ⟨x, rfl, t, b, ty, e, q⟩ := h
  obtain ⟨u1, u2, rfl, r1, r2⟩ := vals2 r
  have e2 := (ClsV.ty T).eq r2
  subst e2
  rcases ty with ty | ⟨rfl, a, od, kvs, rfl, ea⟩
  · obtain ⟨P, Z, p, hx⟩ := kit_of I r1 ty
    exact PySem.W.kia_one Z I.kIn p e hx fun tk => ⟨.bl b, H, I.tok tk, rfl, q⟩
  · cases (show u1 = Value.ref a from r1)
    obtain ⟨_, _, _, xs, _, o, es, ep, h1, h2, _⟩ := (show ObjOk X.prog X.w H s.heap a (.frz od (.dT kvs)) from I.hok a _ ea)
    exact PySem.W.kia_one PySem.W.kitx_dict I.kIn ⟨o, h1, h2.1⟩ e (fun z => nomatch z) fun tk => ⟨.bl b, H, I.tok tk, rfl, q⟩
end
section
variable {X : Cx} {Wx : WX} {x : Str} {p p2 pos : Pos} {e : Expr} {m : Ev W} {T : String}
theorem de_isi (hT : tyOk T = true) (he : DE X Wx e m) (hg : Gl X "isinstance") (hm : X.mg "isinstance" = none) (ht : PE X (.Name x p2) (tC (.ty T)))
    (hs : starEach [e, .Name x p2] X.env = (false, eval e X.env) :: starEach [.Name x p2] X.env := by rfl) (hs2 : starEach [.Name x p2] X.env = (false, eval (.Name x p2) X.env) :: starEach [] X.env := by rfl) (hpl : (backTo pos (starEach [.Name x p2] X.env)).any (·.1) = false := by rfl) :
    DE X Wx (.Call (.Name "isinstance" p) [e, .Name x p2] [] pos) (isiE T m) :=
  useE (pe_callB call_isiY hg hm boot_isinstance (pa_cons he (pa_cons ht pa_nil hs2) hs) (by decide) (by decide) hs hpl) fun σ H Q ⟨G, st, rel, h⟩ =>
    step rel (.refl rel) h fun w st1 G1 H1 v x1 _ r1 h1 => by
      split at h1
      · rename_i d hc
        split at h1
        · rename_i b hb
          have hd := r1.hd x1.rel hc
          exact ⟨v, rfl, _, b, tyy_of hd hb, kit_ty hT hb, h1 G1 H1 _ x1 (.bl b)⟩
        · exact h1.elim
      · exact h1.elim
end
end Dl

namespace Dl
open PySem PySem.Spec PyProof.Rows L2

/-! ### sum(tuple) -/
section
variable {prog : Program} {w : World} {A : Around} {E : Value → Shared → Prop} {s : Shared} {l : Addr} {xs : Array (Int × Tok)}
theorem sum_tupG {Q : Value → Shared → Prop} (hh : A.handled = none) (hl : s.heap.IsTuple l (intItems xs))
    (h : ∀ h' tk t', (∀ b o, s.heap.get? b = some o → h'.get? b = some o) → Q (.int (preSum (numAt xs) xs.size) t') { s with heap := h', toks := tk }) :
    wpAny (model prog w) A (call (.builtin "sum") [.ref l]) Q E s := by
  have hlt : l < s.heap.objs.size := by obtain ⟨_, e, _⟩ := hl; exact Heap.lt_size e
  refine call_sum_walkG (wpAny_pyIter_tuple hl ?_)
  refine ⟨_, _, _, _, _, _, numAt xs, rfl, Walks.tuple (A := A.in1) hh _ l (Nat.ne_of_lt hlt) (intItems xs), ⟨⟨_, Heap.get?_push_size _ rfl, rfl, rfl⟩, hl.push _⟩, fun b hb => ?_, (fun _ _ => intItems_at), fun h' tk t' hk => ?_⟩
  · show b < (s.heap.push _).objs.size
    rw [Heap.size_push]
    rcases List.mem_cons.mp hb with rfl | hb
    · exact Nat.lt_succ_self _
    · rcases List.mem_cons.mp hb with rfl | hb
      · exact Nat.lt_succ_of_lt hlt
      · cases hb
  · have q := h h' tk t' fun b o e => hk b o (fun hm => by
      rcases List.mem_cons.mp hm with z | z
      · exact Nat.ne_of_lt (Heap.lt_size e) z
      · cases z) (Heap.get?_push_of_some _ e)
    simpa [intItems] using q
theorem sum_rawT {its : List Value} {ns : List Int} {Q : Value → Shared → Prop} (hh : A.handled = none) (hl : s.heap.IsTuple l its.toArray) (hi : IntsAre its ns)
    (h : ∀ h' tk t', (∀ b o, s.heap.get? b = some o → h'.get? b = some o) → Q (.int ns.sum t') { s with heap := h', toks := tk }) : wpAny (model prog w) A (call (.builtin "sum") [.ref l]) Q E s := by
  obtain ⟨xs, e⟩ := hi.allInts.items
  have hn : numsOf (intItems xs).toList = ns := by rw [← e]; exact hi.numsOf
  rw [nums_intItems] at hn
  rw [e] at hl
  refine sum_tupG hh hl fun h' tk t' hk => ?_
  have q := h h' tk t' hk
  rw [preSum_eq, List.take_of_length_le (by simp), hn]
  exact q
end
def rSumA (K : PySem.W.Frag) : List V → Hp → VK → Prop := fun vs H Q => rSum K vs H Q ∨ ∃ (a : Addr) (ns : List Int), vs = [V.ref a] ∧ SqT K H a (ns.map V.int) ∧ Q (.int ns.sum) H
theorem cr_sumA {X : Cx} (hc : X.calm = true) : CallR X (.builtin "sum") (rSumA X.K) := (cr_sum hc).or (by
  intro pins s σ H vs us Q I r h
  obtain ⟨a, ns, rfl, hs, q⟩ := h
  obtain ⟨its, rv, hl, _⟩ := I.tuple hs
  rw [Vals.ref1 r]
  exact sum_rawT (I.ok.hd hc) hl rv.ints fun h' tk t' hk => ⟨.int _, H, I.kept hk, ⟨_, rfl⟩, q⟩)
def sumAW : List D → Option W
  | [.lst ds] => (intsOf ds).map fun ns => .val (.int ns.sum)
  | [.tup ds] => (intsOf ds).map fun ns => .val (.int ns.sum)
  | _ => none
theorem pb_sumA {K : PySem.W.Frag} : PuB K (rSumA K) sumAW := fun σ Gs ss Hs G st H vs ds w Q r x h hf q => by
  unfold sumAW at hf
  split at hf
  · obtain ⟨ns, e, rfl⟩ := Option.map_eq_some_iff.mp hf
    obtain ⟨v, rfl, k1⟩ := h.one
    obtain ⟨a, us, rfl, hl, rl⟩ := k1.lst
    rw [intsOf_eq e] at rl
    rw [RpL.of_ints rl] at hl
    exact .inl ⟨a, ns, rfl, .of hl, q.val x (.int _)⟩
  · obtain ⟨ns, e, rfl⟩ := Option.map_eq_some_iff.mp hf
    obtain ⟨v, rfl, k1⟩ := h.one
    obtain ⟨a, us, rfl, hl, rl⟩ := k1.tup
    rw [intsOf_eq e] at rl
    rw [RpL.of_ints rl] at hl
    exact .inr ⟨a, ns, rfl, .of hl, q.val x (.int _)⟩
  · cases hf

/-! ### list(range(..)), tuple(range(..)) -/
theorem rg_rp {K : PySem.W.Frag} {G : Gh} {H : Hp} (a b : Int) : RpL K G H (rgV a b) (upTo a (b - a).toNat) := by
  unfold rgV upTo
  have e1 : (List.range (b - a).toNat).map (fun i => V.int (a + (i : Nat))) = ((List.range (b - a).toNat).map fun i : Nat => a + (i : Int)).map V.int := by rw [List.map_map] <;> rfl
  have e2 : (List.range (b - a).toNat).map (fun i => D.int (a + (i : Nat))) = ((List.range (b - a).toNat).map fun i : Nat => a + (i : Int)).map D.int := by rw [List.map_map] <;> rfl
  rw [e1, e2]
  exact .ints _
def rgB (a b : Int) : Bool := inR a && inR b && decide ((b - a).toNat ≤ 16777216)
theorem rgB_ok {a b : Int} (h : rgB a b = true) : RgOk a b := by
  simp only [rgB, inR, Bool.and_eq_true, decide_eq_true_eq] at h
  exact ⟨h.1.1.1, h.1.1.2, h.1.2.1, h.1.2.2, h.2⟩
/-- t: a tuple is made -/
def rgE (t : Bool) (m : Ev W) : Ev W := bindE m fun w st => match content st w with
  | some (.int n) => if rgB 0 n = true then .ok (if t = true then .val (.tup (upTo 0 n.toNat)) else .fresh (.lst (upTo 0 n.toNat))) st else .stuck
  | _ => .stuck
def rgE2 (t : Bool) (m m2 : Ev W) : Ev W := bindE m fun w => bindE m2 fun w2 st => match content st w, content st w2 with
  | some (.int i), some (.int n) => if rgB i n = true then .ok (if t = true then .val (.tup (upTo i (n - i).toNat)) else .fresh (.lst (upTo i (n - i).toNat))) st else .stuck
  | _, _ => .stuck
section
variable {X : Cx} {Wx : WX} {e e2 : Expr} {m m2 : Ev W} {p p2 pos pos2 : Pos}
theorem rg_fin {K : PySem.W.Frag} {mg : Str → Option Value} {σ : Sg} {G G1 : Gh} {st st1 : Stt} {H H1 : Hp} {t : Bool} {i n : Int} {Q : VK} (x1 : Ex K σ G st H G1 st1 H1)
    (h1 : ∀ G' H' v, Ex K σ G st H G' st1 H' → RpW K G' H' st1 σ H (if t = true then .val (.tup (upTo i (n - i).toNat)) else .fresh (.lst (upTo i (n - i).toNat))) v → Q v H') :
    (t = false → ∀ q, H1 q = none → Q (.ref q) (upd H1 q (.lst (rgV i n)))) ∧ (t = true → ∀ q, H1 q = none → Q (.ref q) (upd H1 q (.tup (rgV i n)))) := by
  refine ⟨fun e q hq => ?_, fun e q hq => ?_⟩
  · subst e
    exact h1 G1 _ _ (x1.alloc hq) ⟨q, rfl, x1.back hq, x1.rel.own hq, .lst upd_same ((rg_rp i n).mono (upd_fro hq))⟩
  · subst e
    exact h1 G1 _ _ (x1.alloc hq) (.tup upd_same ((rg_rp i n).mono (upd_fro hq)))
theorem up_rg {t : Bool} {σ : Sg} {H : Hp} {Q : VK} (h : upE X.K X.mg Wx (rgE t m) σ H Q) : upE X.K X.mg Wx m σ H fun x H1 => ∃ n, x = .int n ∧ RgOk 0 n ∧ (t = false → ∀ q, H1 q = none → Q (.ref q) (upd H1 q (.lst (rgV 0 n)))) ∧ (t = true → ∀ q, H1 q = none → Q (.ref q) (upd H1 q (.tup (rgV 0 n)))) := by
  obtain ⟨G, st, rel, h⟩ := h
  refine step rel (.refl rel) h fun w st1 G1 H1 v x1 _ r1 h1 => ?_
  split at h1
  · rename_i n hc
    split at h1
    · rename_i ho
      refine ⟨n, (r1.hd x1.rel hc).int, rgB_ok ho, rg_fin (mg := X.mg) x1 ?_⟩
      rw [Int.sub_zero]
      exact h1
    · exact h1.elim
  · exact h1.elim
theorem up_rg2 {t : Bool} {σ : Sg} {H : Hp} {Q : VK} (h : upE X.K X.mg Wx (rgE2 t m m2) σ H Q) : upE X.K X.mg Wx m σ H fun x H1 => upE X.K X.mg Wx m2 σ H1 fun y H2 => ∃ i n, x = .int i ∧ y = .int n ∧ RgOk i n ∧ (t = false → ∀ q, H2 q = none → Q (.ref q) (upd H2 q (.lst (rgV i n)))) ∧ (t = true → ∀ q, H2 q = none → Q (.ref q) (upd H2 q (.tup (rgV i n)))) := by
  obtain ⟨G, st, rel, h⟩ := h
  refine step rel (.refl rel) h fun w st1 G1 H1 v x1 _ r1 h1 => step rel x1 h1 fun w2 st2 G2 H2 v2 x2 x12 r2 h2 => ?_
  split at h2
  · rename_i i n hc hc2
    split at h2
    · rename_i ho
      exact ⟨i, n, ((r1.mono rel x1 x12).hd x2.rel hc).int, (r2.hd x2.rel hc2).int, rgB_ok ho, rg_fin (mg := X.mg) x2 h2⟩
    · exact h2.elim
  · exact h2.elim
variable (hc : X.calm = true) (hg2 : Gl X "range") (hm2 : X.mg "range" = none)
theorem de_listRg (hc : X.calm = true) (hg : Gl X "list") (hm : X.mg "list" = none) (hg2 : Gl X "range") (hm2 : X.mg "range" = none) (he : DE X Wx e m) (na : starEach [e] X.env = (false, eval e X.env) :: starEach [] X.env := by rfl)
    (na2 : starEach [.Call (.Name "range" p2) [e] [] pos2] X.env = (false, eval (.Call (.Name "range" p2) [e] [] pos2) X.env) :: starEach [] X.env := by rfl) : DE X Wx (.Call (.Name "list" p) [.Call (.Name "range" p2) [e] [] pos2] [] pos) (rgE false m) :=
  useE (pe_listRg hc hg hm (prg_1 hg2 hm2 he na) na2) fun σ H Q h => by
    obtain ⟨G, st, r, h'⟩ := up_rg h
    exact ⟨G, st, r, h'.imp fun w s _ q G' H' v x rw' => by
      obtain ⟨n, e1, ok, q1, q2⟩ := q G' H' v x rw'
      exact ⟨n, e1, ok, q1 rfl⟩⟩
theorem de_tupRg (hc : X.calm = true) (hg : Gl X "tuple") (hm : X.mg "tuple" = none) (hg2 : Gl X "range") (hm2 : X.mg "range" = none) (he : DE X Wx e m) (na : starEach [e] X.env = (false, eval e X.env) :: starEach [] X.env := by rfl)
    (na2 : starEach [.Call (.Name "range" p2) [e] [] pos2] X.env = (false, eval (.Call (.Name "range" p2) [e] [] pos2) X.env) :: starEach [] X.env := by rfl) : DE X Wx (.Call (.Name "tuple" p) [.Call (.Name "range" p2) [e] [] pos2] [] pos) (rgE true m) :=
  useE (pe_tupRg hc hg hm (prg_1 hg2 hm2 he na) na2) fun σ H Q h => by
    obtain ⟨G, st, r, h'⟩ := up_rg h
    exact ⟨G, st, r, h'.imp fun w s _ q G' H' v x rw' => by
      obtain ⟨n, e1, ok, q1, q2⟩ := q G' H' v x rw'
      exact ⟨n, e1, ok, q2 rfl⟩⟩
end

/-! ### d.get(k), d.get(k, x) -/
def getD1 (mo me : Ev W) : Ev W := bindE mo fun w st => match content st w with
  | some (.dct _ _ _) => bindE me (fun w2 st2 => match content st2 w, content st2 w2 with
    | some (.dct t ks vs), some k => if isKey t k = true then .ok (.val ((lookL ks vs k).getD .non)) st2 else .stuck
    | _, _ => .stuck) st
  | _ => .stuck
def getD2 (mo me mf : Ev W) : Ev W := bindE mo fun w st => match content st w with
  | some (.dct _ _ _) => bindE me (fun w2 => bindE mf fun w3 st2 => match content st2 w, content st2 w2, w3 with
    | some (.dct t ks vs), some k, .val d => if isKey t k = true then .ok (.val ((lookL ks vs k).getD d)) st2 else .stuck
    | _, _, _ => .stuck) st
  | _ => .stuck
section
variable {K : PySem.W.Frag} {mg : Str → Option Value} {σ : Sg} {G : Gh} {Wx : WX} {st : Stt} {H : Hp}
theorem isD_of {v : V} {t : Bool} {ks vs : List D} (h : Hd K G H v (.dct t ks vs)) : ∃ a, v = .ref a ∧ IsD H a := by
  obtain ⟨a, rfl, ⟨kvs, hr, _⟩ | ⟨kvs, hr, _⟩⟩ := h.dct
  · exact ⟨a, rfl, .inl ⟨kvs, hr⟩⟩
  · exact ⟨a, rfl, .inr ⟨kvs, hr⟩⟩
end
section
variable {X : Cx} {Wx : WX} {o e f : Expr} {mo me mf : Ev W} {apos cpos : Pos}
theorem de_get1 (hu : X.A.units + 1 < cLine) (ho : DE X Wx o mo) (he : DE X Wx e me) (m : M1 X o "get" apos e cpos) : DE X Wx (.Call (.Attribute o "get" apos) [e] [] cpos) (getD1 mo me) :=
  useE (pe_dget1 hu ho he m) fun σ H Q ⟨G, st, rel, h⟩ => step rel (.refl rel) h fun w st1 G1 H1 v x1 _ r1 h1 => by
    split at h1
    · rename_i hc
      obtain ⟨a, rfl, isd⟩ := isD_of (r1.hd x1.rel hc)
      refine ⟨a, rfl, isd, step rel x1 h1 fun w2 st2 G2 H2 v2 x2 x12 r2 h2 => ?_⟩
      split at h2
      · rename_i t ks vs k hc1 hc2
        split at h2
        · rename_i hk
          obtain ⟨a', o', e1, g, q⟩ := look_ok ((r1.mono rel x1 x12).hd x2.rel hc1) (r2.hd x2.rel hc2) hk
          cases e1
          refine ⟨o', g, ?_⟩
          rcases q with ⟨v', d, rfl, l, rv⟩ | ⟨rfl, l⟩
          · rw [l] at h2
            exact h2 G2 H2 _ x2 rv
          · rw [l] at h2
            exact h2 G2 H2 _ x2 .non
        · exact h2.elim
      · exact h2.elim
    · exact h1.elim
theorem de_get2 (hu : X.A.units + 1 < cLine) (ho : DE X Wx o mo) (he : DE X Wx e me) (hf : DE X Wx f mf) (m : M2 X o "get" apos e f cpos) : DE X Wx (.Call (.Attribute o "get" apos) [e, f] [] cpos) (getD2 mo me mf) :=
  useE (pe_dget2 hu ho he hf m) fun σ H Q ⟨G, st, rel, h⟩ => step rel (.refl rel) h fun w st1 G1 H1 v x1 _ r1 h1 => by
    split at h1
    · rename_i hc
      obtain ⟨a, rfl, isd⟩ := isD_of (r1.hd x1.rel hc)
      refine ⟨a, rfl, isd, step rel x1 h1 fun w2 st2 G2 H2 v2 x2 x12 r2 h2 => step rel x2 h2 fun w3 st3 G3 H3 v3 x3 x23 r3 h3 => ?_⟩
      split at h3
      · rename_i t ks vs k d hc1 hc2
        split at h3
        · rename_i hk
          have ra := (r1.mono rel x1 x12).mono rel x2 x23
          obtain ⟨a', o', e1, g, q⟩ := look_ok (ra.hd x3.rel hc1) ((r2.mono rel x2 x23).hd x3.rel hc2) hk
          cases e1
          refine ⟨o', g, ?_⟩
          rcases q with ⟨v', d', rfl, l, rv⟩ | ⟨rfl, l⟩
          · rw [l] at h3
            exact h3 G3 H3 _ x3 rv
          · rw [l] at h3
            exact h3 G3 H3 _ x3 r3
        · exact h3.elim
      · exact h3.elim
    · exact h1.elim
end

/-! ### tuple * int -/
def mulA : D → D → Option W
  | .tup a, .int k => if a ≠ [] ∧ 2 ≤ k ∧ k ≤ 1000 ∧ a.length ≤ 1000 then some (.val (.tup (List.replicate k.toNat a).flatten)) else none
  | a, b => mulD a b
instance (a : List D) : Decidable (a ≠ []) := match a with
  | [] => isFalse fun h => h rfl
  | _ :: _ => isTrue fun h => by cases h
def rMulA (K : PySem.W.Frag) : R2 := fun x y H Q => rMul x y H Q ∨ rRepT K x y H Q
theorem RpL.rep {K : PySem.W.Frag} {G : Gh} {H : Hp} {vs : List V} {ds : List D} (r : RpL K G H vs ds) : ∀ m : Nat, RpL K G H (List.replicate m vs).flatten (List.replicate m ds).flatten
  | 0 => .nil
  | m + 1 => r.append (RpL.rep r m)
theorem pu_mulA {K : PySem.W.Frag} : Pu2 K (rMulA K) mulA := fun σ Gs ss Hs G st H x y a b w Q r e h1 h2 hw q => by
  unfold mulA at hw
  split at hw
  · split at hw
    · rename_i hc
      cases hw
      obtain ⟨c0, c1, c2, c3⟩ := hc
      obtain ⟨p, vs, rfl, hp, rl⟩ := h1.tup
      have hl := rl.length
      exact .inr ⟨p, _, vs, rfl, h2.int, .of hp, fun z => c0 (rl.nil_iff.mp z), c1, c2, by omega, fun z n => q.tup e n (rl.rep _)⟩
    · cases hw
  · exact .inl (pu_mul σ Gs ss Hs G st H x y a b w Q r e h1 h2 hw q)
section
variable {X : Cx} {Wx : WX} {a b : Expr} {ma mb : Ev W} {pos : Pos}
theorem de_mulA (ha : DE X Wx a ma) (hb : DE X Wx b mb) : DE X Wx (.BinOp a .Mult b pos) (op2 mulA ma mb) := de_bin ((op_mulW.or op_rep).or op_repT) pu_mulA ha hb
end
end Dl

namespace Dl
open PySem PySem.Spec PyProof.Rows L2

/-! ### repr -/
mutual
/-- at least the text's length -/
def wgt : D → Nat
  | .int _ => 1921
  | .str x => (reprText x).length
  | .tup ds => 4 + wgtL ds
  | .lst ds => 4 + wgtL ds
  | _ => 5
def wgtL : List D → Nat
  | [] => 0
  | d :: r => wgt d + 2 + wgtL r
end
mutual
def showD : D → Bool
  | .int i => decide (i.natAbs.log2 < 1920)
  | .tup ds => showL ds
  | .lst ds => showL ds
  | _ => true
def showL : List D → Bool
  | [] => true
  | d :: r => showD d && showL r
end
def textOf (d : D) : Str := (py d).shown
def reprW : List D → Option W
  | [d] => if okD 64 d = true ∧ showD d = true ∧ wgt d ≤ big then some (.val (.str (textOf d))) else none
  | _ => none
theorem tupleText_le (ts : List Str) : (tupleText ts).length ≤ 4 + piled ts := by
  unfold tupleText
  rw [strLen_append, strLen_append]
  have e1 : ((("(" : String) : Str)).length = 1 := rfl
  have e3 : (((if ts.length == 1 then ",)" else ")" : String) : Str)).length ≤ 2 := by split <;> decide
  rw [e1]
  by_cases h : ts = []
  · subst h
    have e4 : (Str.join ", " []).length = 0 := rfl
    rw [e4]
    omega
  · have := join_length_add ts h
    omega
theorem listText_le (ts : List Str) : (listText ts).length ≤ 4 + piled ts := by
  unfold listText
  rw [strLen_append]
  have e1 : ((("]" : String) : Str)).length = 1 := rfl
  rw [e1]
  cases ts with
  | nil =>
    have e4 : (textFrom 0 "[" []).length = 1 := rfl
    rw [e4]
    omega
  | cons t r =>
    have h := textFrom_length_pos r 1 (("[" : Str) ++ (if 0 > 0 then ", " else "" : String) ++ t) (by omega)
    have e : (("[" : Str) ++ (if 0 > 0 then ", " else "" : String) ++ t).length = 1 + t.length := by
      rw [strLen_append, strLen_append] <;> rfl
    rw [e] at h
    have h' : (textFrom 0 "[" (t :: r)).length = 1 + t.length + piled r := h
    rw [h', piled_cons]
    omega
mutual
theorem wgt_le : ∀ d : D, showD d = true → (py d).shown.length ≤ wgt d
  | .non, _ => by simp only [py, PyData.shown, wgt]; decide
  | .bl b, _ => by simp only [py, PyData.shown, wgt]; cases b <;> decide
  | .int i, h => by
    have h' : i.natAbs.log2 < 1920 := by simpa [showD] using h
    simp only [py, PyData.shown, wgt]
    have e := int_text_length_le (k := 1920) (by decide) h'
    have e2 : ((toString i : String) : Str).length = (toString i).length := PySem.ofString_length _
    rw [e2]
    exact e
  | .str x, _ => by simp only [py, PyData.shown, wgt]; exact Nat.le_refl _
  | .tup ds, h => by
    have h' : showL ds = true := by simpa [showD] using h
    have e := wgtL_le ds h'
    have e2 := tupleText_le (PyData.shownAll (pyL ds))
    simp only [py, PyData.shown, wgt]
    omega
  | .lst ds, h => by
    have h' : showL ds = true := by simpa [showD] using h
    have e := wgtL_le ds h'
    have e2 := listText_le (PyData.shownAll (pyL ds))
    simp only [py, PyData.shown, wgt]
    omega
  | .dct _ _ _, _ => by simp only [py, PyData.shown, wgt]; decide
  | .deck, _ => by simp only [py, PyData.shown, wgt]; decide
  | .scr _, _ => by simp only [py, PyData.shown, wgt]; decide
theorem wgtL_le : ∀ ds : List D, showL ds = true → piled (PyData.shownAll (pyL ds)) ≤ wgtL ds
  | [], _ => by simp only [pyL, PyData.shownAll, wgtL]; exact Nat.le_refl _
  | d :: r, h => by
    have h' : showD d = true ∧ showL r = true := by simpa [showL] using h
    have e1 := wgt_le d h'.1
    have e2 := wgtL_le r h'.2
    simp only [pyL, PyData.shownAll, wgtL, piled_cons]
    omega
end
mutual
theorem showD_py : ∀ d : D, showD d = true → (py d).showable = true
  | .non, _ => by simp [py, PyData.showable]
  | .bl b, _ => by simp [py, PyData.showable]
  | .int i, h => by simpa [py, PyData.showable, showD] using h
  | .str x, _ => by simp [py, PyData.showable]
  | .tup ds, h => by simpa [py, PyData.showable] using showL_py ds (by simpa [showD] using h)
  | .lst ds, h => by simpa [py, PyData.showable] using showL_py ds (by simpa [showD] using h)
  | .dct _ _ _, _ => by simp [py, PyData.showable]
  | .deck, _ => by simp [py, PyData.showable]
  | .scr _, _ => by simp [py, PyData.showable]
theorem showL_py : ∀ ds : List D, showL ds = true → PyData.showableAll (pyL ds) = true
  | [], _ => by simp [pyL, PyData.showableAll]
  | d :: r, h => by
    have h' : showD d = true ∧ showL r = true := by simpa [showL] using h
    simp [pyL, PyData.showableAll, showD_py d h'.1, showL_py r h'.2]
end
def rRepr (K : PySem.W.Frag) : List V → Hp → VK → Prop := fun xs H Q => ∃ x d, xs = [x] ∧ Dp K H x d ∧ SeqAt.shaped d = true ∧ d.showable = true ∧ d.shown.length ≤ sizeLine ∧ Q (.str d.shown) H
theorem call_repr {X : Cx} (hgd : X.A.guards = some []) (hu : X.A.units + 65 < cLine) : CallR X (.builtin "repr") (rRepr X.K) := by
  intro pins s σ H xs us Q I r h
  obtain ⟨x, d, rfl, hd, sd, hs, hz, q⟩ := h
  obtain ⟨u, rfl, ru⟩ := vals1 r
  obtain ⟨as, rd⟩ := Dp.reads I d x u hd ru
  have cl : d.canLay0 = true ∧ d.depth ≤ 64 := by
    have e : (d.canLay0 && decide (d.depth ≤ 64)) = true := sd
    simpa using e
  have nd : d.hasDict = true → sysModules ∉ as := PyData.noDict_hsm (PyData.hasDict_of_canLay d cl.1)
  cases hd with
  | non =>
    cases ru
    exact PySem.P.repr_of_none ⟨.str _, H, I.tok _, ⟨_, rfl⟩, by simpa only [PyData.shown] using q⟩
  | bl b =>
    cases ru
    exact PySem.P.repr_of_bool ⟨.str _, H, I.tok _, ⟨_, rfl⟩, by simpa only [PyData.shown] using q⟩
  | int i =>
    obtain ⟨t, rfl⟩ := ru
    exact PySem.P.repr_of_int (by simpa [PyData.showable] using hs) ⟨.str _, H, I.tok _, ⟨_, rfl⟩, by simpa only [PyData.shown] using q⟩
  | str y =>
    obtain ⟨t, rfl⟩ := ru
    exact PySem.P.repr_of_str (⟨.str _, H, I.tok _, ⟨_, rfl⟩, by simpa only [PyData.shown] using q⟩) (by simpa only [PyData.shown] using hz)
  | _ =>
    obtain rfl : u = Value.ref _ := ru
    exact repr_of_reads' rd hs nd hgd (by omega) (fun _ _ e => e) (fun h' tk u' hk => ⟨.str _, H, I.kept hk, ⟨_, rfl⟩, q⟩) hz
theorem pb_repr {K : PySem.W.Frag} : PuB K (rRepr K) reprW := fun σ Gs ss Hs G st H vs ds w Q r x h hf q => by
  unfold reprW at hf
  split at hf
  · split at hf
    · rename_i hc
      cases hf
      obtain ⟨v, rfl, k1⟩ := h.one
      exact ⟨v, _, rfl, k1.dp hc.1, okD_shaped hc.1, showD_py _ hc.2.1, Nat.le_trans (wgt_le _ hc.2.1) hc.2.2, q.val x (.str _)⟩
    · cases hf
  · cases hf
end Dl

namespace Dl
open PySem PySem.Spec PyProof.Rows L2

/-! ### sorted -/
section
variable {prog : Program} {w : World} {A : Around} {E : Value → Shared → Prop} {s : Shared}
/-- what x gives when it is collected -/
def Cols (prog : Program) (w : World) (A : Around) (s : Shared) (x : Value) (vs : List Value) : Prop := ∀ (E : Value → Shared → Prop) (Q : List Value → Shared → Prop), (∀ h₁ tk, s.heap.objs.size ≤ h₁.objs.size → (∀ b o, s.heap.get? b = some o → h₁.get? b = some o) → Q vs { s with heap := h₁, toks := tk }) → wpAny (model prog w) A (collect x) Q E s
theorem cols_list {l : Addr} {vs : List Value} (hl : s.heap.IsList l vs.toArray) (hz : vs.length ≤ sizeLine) : Cols prog w A s (.ref l) vs := fun E Q h =>
  collect_list hl (h _ s.toks (by rw [Heap.size_update, Heap.size_push]; exact Nat.le_succ _) fun b o e => by
    rw [Heap.get?_update_ne _ _ _ _ (Nat.ne_of_lt (Heap.lt_size e))]
    exact Heap.get?_push_of_some _ e) hz
theorem cols_tup {l : Addr} {vs : List Value} (hl : s.heap.IsTuple l vs.toArray) (hz : vs.length ≤ sizeLine) : Cols prog w A s (.ref l) vs := fun E Q h => by
  obtain ⟨o, ho, hc, n, hd⟩ := id hl
  unfold collect
  refine wpAny_bind (wpAny_runValue (codeAny_builtin F.entry_proto_collect ?_))
  rw [Around.under_plainId F.plain_proto_collect _]
  show wpAny _ A.in1 (newList [] >>= fun l' => again (.builtin "list.__iadd__" ⟨[l', .ref l], []⟩)) _ _ s
  refine wpAny_bind (wpAny_newObj_type ?_)
  refine wpAny_pure ⟨plainId_quiet F.plain_list_iadd _, codeAny_builtin F.entry_list_iadd ?_⟩
  rw [Around.under_plainId F.plain_list_iadd _]
  show wpAny _ A.in1 (Builtin.List.listExtendWith (.ref s.heap.objs.size) (.ref l) (.ref s.heap.objs.size)) _ _ _
  unfold Builtin.List.listExtendWith
  have hS : (s.heap.push { cls := .type "list", data := .seq ([] : List Value).toArray }).get? s.heap.objs.size = some { cls := .type "list", data := .seq #[] 0 } := Heap.get?_push_size _ rfl
  have ho' : (s.heap.push { cls := .type "list", data := .seq ([] : List Value).toArray }).get? l = some o := Heap.get?_push_of_some _ ho
  refine wpAny_bind (wpAny_typeOf (T := "tuple") ⟨o, ho', hc⟩ ?_)
  have ht : (Value.type "tuple" == Value.type "tuple") = true := by rfl
  rw [if_pos (by rw [ht]; simp)]
  refine wpAny_bind (listItems_at ho' hd ?_)
  refine wpAny_bind (listItems_at (xs := #[]) (n := 0) hS rfl ?_)
  rw [if_neg (by simp)]
  refine wpAny_bind (listUpdate_at (xs := #[]) (n := 0) hS rfl ?_ (Nat.zero_le _) (by show (#[] ++ vs.toArray).size ≤ sizeLine + 1; simp only [Array.size_append, List.size_toArray, List.length_nil]; omega))
  refine wpAny_pure ?_
  have hS2 := get?_update_seq hS (fun xs => xs ++ vs.toArray)
  show wpAny (model prog w) A (do
      let o ← load s.heap.objs.size
      match o.data with
      | .seq xs _ => pure xs.toList
      | _ => unsupported "internal:collect") Q E _
  refine wpAny_bind (wpAny_load hS2 ?_)
  show wpAny _ _ (pure ((#[] : Array Value) ++ vs.toArray).toList) Q E _
  rw [show ((#[] : Array Value) ++ vs.toArray).toList = vs by simp]
  refine wpAny_pure (h _ s.toks (Nat.le_of_lt (Heap.lt_size hS2)) fun b o e => ?_)
  rw [Heap.get?_update_ne _ _ _ _ (Nat.ne_of_lt (Heap.lt_size e))]
  exact Heap.get?_push_of_some _ e
theorem cols_kdl {T : String} {r d : Addr} {n : Nat} {P : Nat → Value → Prop} {OK : Heap → Prop} (K : PySem.W.KdlSrc prog w T r d n P OK) (hh : A.handled = none) (hok : OK s.heap) (hn : n ≤ sizeLine) {vs : List Value} (hv : ∀ acc : Array Value, ItemsOf P acc n → acc.toList = vs) : Cols prog w A s (.ref r) vs := fun E Q h => by
  unfold collect
  refine wpAny_bind (wpAny_runValue (codeAny_builtin F.entry_proto_collect ?_))
  rw [Around.under_plainId F.plain_proto_collect _]
  show wpAny _ A.in1 (newList [] >>= fun l => again (.builtin "list.__iadd__" ⟨[l, .ref r], []⟩)) _ _ s
  refine wpAny_bind (wpAny_newObj_type ?_)
  refine wpAny_pure ⟨plainId_quiet F.plain_list_iadd _, codeAny_builtin F.entry_list_iadd ?_⟩
  rw [Around.under_plainId F.plain_list_iadd _]
  show wpAny _ A.in1 (Builtin.List.listExtendWith (.ref s.heap.objs.size) (.ref r) (.ref s.heap.objs.size)) _ _ _
  have hS : (s.heap.push { cls := .type "list", data := .seq ([] : List Value).toArray }).get? s.heap.objs.size = some { cls := .type "list", data := .seq #[] 0 } := Heap.get?_push_size _ rfl
  have hlt := K.there _ hok
  refine wpAny_mono (PySem.W.kdl_extend (A := A) (R := fun rr s' => rr = .ok (.ret (.ref s.heap.objs.size)) ∧ ∃ (h' : Heap) (tk : Nat) (acc : Array Value) (c' : Nat), s' = { s with heap := h', toks := tk } ∧
      (∀ b o, s.heap.get? b = some o → h'.get? b = some o) ∧ h'.get? s.heap.objs.size = some { cls := .type "list", dict := none, data := .seq acc c', slots := #[] } ∧ ItemsOf P acc n)
    (s := { s with heap := s.heap.push { cls := .type "list", data := .seq ([] : List Value).toArray } }) K hh (K.keep _ _ hok fun b _ o e => Heap.get?_push_of_some _ e) _ (Nat.ne_of_gt hlt.1) (Nat.ne_of_gt hlt.2) _ 0 hS
    (fun h' tk acc c' hk e hi => ⟨rfl, h', tk, acc, c', rfl, fun b o q => hk b o (Nat.ne_of_lt (Heap.lt_size q)) (Heap.get?_push_of_some _ q), e, hi⟩) hn) (fun fin s' h2 => ?_) (fun e s' h2 => ?_)
  · cases fin with
    | done f =>
      obtain ⟨e, h', tk, acc, c', rfl, hk, hS', hi⟩ := h2
      cases e
      show wpAny _ A (load s.heap.objs.size >>= _) _ _ _
      refine wpAny_bind (wpAny_load hS' (wpAny_pure ?_))
      rw [hv acc hi]
      exact h h' tk (Nat.le_of_lt (Heap.lt_size hS')) hk
    | again c' =>
      refine ⟨h2.1, codeAny_mono h2.2 fun rr s'' hr' => ?_⟩
      obtain ⟨rfl, h', tk, acc, c', rfl, hk, hS', hi⟩ := hr'
      show wpAny _ A (load s.heap.objs.size >>= _) _ _ _
      refine wpAny_bind (wpAny_load hS' (wpAny_pure ?_))
      rw [hv acc hi]
      exact h h' tk (Nat.le_of_lt (Heap.lt_size hS')) hk
  · exact absurd h2.1 (by simp)
/-- sorted(x) of alike data -/
theorem sorted_any {l : Addr} {vs : List Value} {bs : List D} {R : Value → D → Prop} {Q : Value → Shared → Prop} (hc : Cols prog w A.in1 s (.ref l) vs) (hz : vs.length ≤ sizeLine) (e : PySem.W.EachIs R vs bs) (er : PySem.W.EachIs (fun v d => ∃ as, Reads s.heap v (py d) as) vs bs)
    (hal : PySem.W.AllAlike (bs.map py)) (hk : PySem.W.Sortable (bs.map py)) (hu : ∀ d, d ∈ bs → A.units + 3 + (py d).depth < cLine)
    (h : ∀ h' a tk n out, (∀ b o, s.heap.get? b = some o → h'.get? b = some o) → s.heap.objs.size ≤ a → h'.get? a = some (seqObj "list" out n) → PySem.W.EachIs R out.toList (bs.mergeSort (PySem.W.dataLe false py)) → Q (.ref a) { s with heap := h', toks := tk }) :
    wpAny (model prog w) A (call (.builtin "sorted") [.ref l]) Q E s := by
  refine Calls.call_function_entry PyProof.Rows.kind_sorted PyProof.Rows.plain_sorted PyProof.Rows.entry_sorted (PyProof.Rows.args_sorted1 _) ?_
  unfold Builtin.«sorted»
  refine wpAny_bind (m := checkCount "sorted" 1 1 _) (wpAny_pure ?_)
  refine wpAny_bind (hc _ _ fun h₁ tk le hkp => ?_)
  refine wpAny_bind (wpAny_newList ?_ hz)
  have hoL : (h₁.push (seqObj "list" vs.toArray 0)).get? h₁.objs.size = some (seqObj "list" vs.toArray 0) := Heap.get?_push_size _ rfl
  have big : ∀ b o, s.heap.get? b = some o → b < h₁.objs.size := fun b o q => Heap.lt_size (hkp b o q)
  have keepS : ∀ b o, s.heap.get? b = some o → (PySem.W.sortingHeap (h₁.push (seqObj "list" vs.toArray 0)) h₁.objs.size vs).get? b = some o := fun b o q =>
    PySem.W.sortingHeap_old (Nat.ne_of_lt (big b o q)) (Heap.get?_push_of_some _ (hkp b o q))
  have er' : PySem.W.EachIs (fun v d => ∃ as, Reads (PySem.W.sortingHeap (h₁.push (seqObj "list" vs.toArray 0)) h₁.objs.size vs) v (py d) as) vs bs := er.mono fun _ _ ⟨as, r⟩ => ⟨as, PyProof.Rows.Reads.keeps keepS r⟩
  have S : PySem.W.SortsAt prog w A.in1.in1 { s with heap := PySem.W.sortingHeap (h₁.push (seqObj "list" vs.toArray 0)) h₁.objs.size vs, toks := tk } _ vs := PySem.W.SortsAt.data (PySem.W.each_map (R := fun v d => ∃ as, Reads _ v d as) py er') hal hk fun d hd => by
    obtain ⟨b, hb, rfl⟩ := List.mem_map.mp hd
    have := hu b hb
    show A.units + 1 + 1 + _ < _
    omega
  show wpAny _ _ _ _ _ { s with heap := h₁.push (seqObj "list" vs.toArray 0), toks := tk }
  refine wpAny_bind (wpAny_holding (wpAny_call_entry PyProof.Rows.slot_list_sort ⟨_, hoL, rfl⟩ PyProof.Rows.entry_list_sort (PySem.W.list_sort_vals (s := { s with heap := h₁.push (seqObj "list" vs.toArray 0), toks := tk }) hoL S hz ⟨_, rfl, ?_⟩) (PyProof.Rows.args_list_sort _)))
  obtain ⟨n, hn⟩ := PyProof.Rows.sortedHeap_at (out := (PySem.W.sortVals (PySem.W.dataKind _ (bs.map py)) false vs vs).toArray) hoL
  refine wpAny_pure ⟨_, rfl, h _ _ tk n _ (fun b o q => ?_) le hn ?_⟩
  · rw [PyProof.Rows.sortedHeap_old (Nat.ne_of_lt (big b o q)) (by rw [Heap.size_push]; exact Nat.lt_succ_of_lt (big b o q))]
    exact Heap.get?_push_of_some _ (hkp b o q)
  · exact PySem.W.sortVals_data false e er' hal
end

/-- what is asked of the items, what is got -/
def SortC (K : PySem.W.Frag) (H : Hp) (Q : VK) (ys : List V) : Prop := ∃ (ds : List D) (Rv : V → D → Prop), PySem.W.EachIs Rv ys ds ∧ PySem.W.EachIs (fun v d => Dp K H v (py d)) ys ds ∧ PySem.W.AllAlike (ds.map py) ∧ PySem.W.Sortable (ds.map py) ∧ (∀ d ∈ ds, (py d).depth ≤ 64) ∧
  ∀ zs p, H p = none → PySem.W.EachIs Rv zs (ds.mergeSort (PySem.W.dataLe false py)) → Q (.ref p) (upd H p (.lst zs))
def rSortA (K : PySem.W.Frag) : List V → Hp → VK → Prop := fun xs H Q => ∃ l, xs = [.ref l] ∧ ((∃ ys, (SqL K H l ys ∨ SqT K H l ys) ∧ SortC K H Q ys) ∨ ∃ kvs, Rd H l (.dT kvs) ∧ ∀ bs, IsKeys H kvs bs → SortC K H Q (bs.map V.ref))
theorem each_out {Rv : V → D → Prop} : ∀ {out : List Value} {ds : List D}, PySem.W.EachIs (fun u d => ∃ v, RelV v u ∧ Rv v d) out ds → ∃ zs, Vals zs out ∧ PySem.W.EachIs Rv zs ds
  | _, _, .nil => ⟨[], .nil, .nil⟩
  | _, _, .cons ⟨v, r, q⟩ t => by
    obtain ⟨zs, h1, h2⟩ := each_out t
    exact ⟨v :: zs, .cons r h1, .cons q h2⟩
theorem each_in {Rv : V → D → Prop} : ∀ {ys : List V} {us : List Value} {ds : List D}, Vals ys us → PySem.W.EachIs Rv ys ds → PySem.W.EachIs (fun u d => ∃ v, RelV v u ∧ Rv v d) us ds
  | _, _, _, .nil, .nil => .nil
  | _, _, _, .cons r t, .cons q u => .cons ⟨_, r, q⟩ (each_in t u)
section
variable {X : Cx} {pins : List (Addr × Obj)} {σ : Sg} {H : Hp} {s : Shared}
theorem each_reads (I : Inv X pins σ H s) : ∀ {ys : List V} {us : List Value} {ds : List D}, Vals ys us → PySem.W.EachIs (fun v d => Dp X.K H v (py d)) ys ds → PySem.W.EachIs (fun u d => ∃ as, Reads s.heap u (py d) as) us ds
  | _, _, _, .nil, .nil => .nil
  | _, _, _, .cons r t, .cons q u => .cons (Dp.reads I _ _ _ q r) (each_reads I t u)
theorem sort_core (hu : X.A.units + 70 < cLine) (I : Inv X pins σ H s) {l : Addr} {Q : VK} {ys : List V} {us : List Value} (hc : Cols X.prog X.w X.A.in1 s (.ref l) us) (rv : Vals ys us) (hz : ys.length ≤ sizeLine) (c : SortC X.K H Q ys) :
    wpAny (model X.prog X.w) X.A (call (.builtin "sorted") [.ref l]) (EP X pins σ Q) X.xe s := by
  obtain ⟨ds, Rv, h1, h2, h3, h4, h5, q⟩ := c
  refine sorted_any hc (by rw [← rv.length]; exact hz) (each_in rv h1) (each_reads I rv h2) h3 h4 (fun d hd => by have := h5 d hd; omega) fun h' a tk n out kp le ha eo => ?_
  obtain ⟨zs, r1, r2⟩ := each_out eo
  have hl : zs.length ≤ sizeLine := by
    have e1 := r2.length
    have e2 := h1.length
    rw [List.length_mergeSort] at e1
    omega
  refine ⟨.ref a, upd H a (.lst zs), I.laid (t' := tk) kp le ⟨hl, out.toList, n, r1, by rw [Array.toArray_toList]; exact ha⟩, rfl, q zs a (I.hok.fresh le) r2⟩
theorem cr_sortA (hc : X.calm = true) (hu : X.A.units + 70 < cLine) : CallR X (.builtin "sorted") (rSortA X.K) := by
  intro pins s σ H xs us Q I r h
  obtain ⟨l, rfl, h⟩ := h
  rw [Vals.ref1 r]
  have hh : X.A.in1.handled = none := I.ok.hd hc
  rcases h with ⟨ys, hs, c⟩ | ⟨kvs, hd, c⟩
  · rcases hs with hs | hs
    · obtain ⟨its, rv, pl, hz⟩ := I.list hs
      exact sort_core hu I (cols_list pl.isList (by rw [← rv.length]; exact hz)) rv hz c
    · obtain ⟨its, rv, pl, hz⟩ := I.tuple hs
      exact sort_core hu I (cols_tup pl (by rw [← rv.length]; exact hz)) rv hz c
  · obtain ⟨z, hs, ks, pr, o, es, ep, ho, hx, hdt, he, hn⟩ := (show ObjOk X.prog X.w H s.heap l (.dT kvs) from hd.ok I.hok)
    have l1 : es.size = ks.length := size_of_entries he
    have l2 : kvs.length = ks.length := Paired.length pr
    have ea : ∀ acc' : Array Value, ItemsOf (fun i v => ∃ en : DictEntry, es[i]? = some en ∧ v = en.key) acc' es.size → acc'.toList = (ks.map fun x => x.2.1).map Value.ref := fun acc' it => by
      have hl : acc'.toList.length = ks.length := by rw [Array.length_toList, it.1]; exact l1
      apply List.ext_getElem?
      intro j
      rw [List.map_map, List.getElem?_map]
      cases hj : acc'.toList[j]? with
      | none =>
        have h1 := List.getElem?_eq_none_iff.mp hj
        rw [List.getElem?_eq_none (by omega)] <;> rfl
      | some v =>
        obtain ⟨en, hen, hv⟩ := it.2 j v (by rw [← Array.getElem?_toList]; exact hj)
        have qe := entry_at he j
        rw [hen] at qe
        cases hb : ks[j]? with
        | none =>
          rw [hb] at qe
          exact nomatch (show some en = none from qe)
        | some b =>
          rw [hb] at qe
          have e2 : en = entryOfKey (tupleKind (mixKind X.prog X.w)) b := Option.some.inj qe
          rw [hv, e2] <;> rfl
    refine sort_core hu I (cols_kdl (kdl_raw hs hx hdt) hh ho (by omega) ea) (vals_refs _) ?_ (c _ (isKeys_of pr))
    rw [List.length_map, List.length_map]
    omega
end

def isTup1 : D → Bool
  | .tup (_ :: _) => true
  | _ => false
def isAtom : D → Bool
  | .bl _ => true
  | .int _ => true
  | .str _ => true
  | .lst _ => true
  | _ => false
/-- they can be compared with each other -/
def alikeD (ds : List D) : Bool := ds.all fun a => ds.all fun b => PySem.W.alike (py a) (py b)
def sortOk (ds : List D) : Bool := ds.all (okD 64) && alikeD ds && (ds.all isTup1 || ds.all isAtom)
def leD (a b : D) : Bool := PySem.W.dataLe false py a b
def sortD (ds : List D) : List D := ds.mergeSort leD
def itemsS : D → Option (List D)
  | .tup ds => some ds
  | .lst ds => some ds
  | .dct false ks _ => some ks
  | _ => none
def sortW : List D → Option W
  | [d] => match itemsS d with
    | some ds => if sortOk ds = true then some (.fresh (.lst (sortD ds))) else none
    | none => none
  | _ => none
section
variable {K : PySem.W.Frag} {G : Gh} {H : Hp}
theorem each_rp : ∀ {vs : List V} {ds : List D}, RpL K G H vs ds → PySem.W.EachIs (Rp K G H) vs ds
  | _, _, .nil => .nil
  | _, _, .cons h r => .cons h (each_rp r)
theorem rp_each : ∀ {vs : List V} {ds : List D}, PySem.W.EachIs (Rp K G H) vs ds → RpL K G H vs ds
  | _, _, .nil => .nil
  | _, _, .cons h r => .cons h (rp_each r)
theorem each_dp : ∀ {vs : List V} {ds : List D}, RpL K G H vs ds → (∀ d ∈ ds, okD 64 d = true) → PySem.W.EachIs (fun v d => Dp K H v (py d)) vs ds
  | _, _, .nil, _ => .nil
  | _, _, .cons h r, o => .cons (h.dp 64 (o _ List.mem_cons_self)) (each_dp r fun d hd => o d (List.mem_cons_of_mem _ hd))
theorem sortC_of {σ : Sg} {Gs : Gh} {ss st : Stt} {Hs : Hp} {ys : List V} {ds : List D} {Q : VK} (x : Ex K σ Gs ss Hs G st H) (ho : sortOk ds = true) (rl : RpL K G H ys ds) (q : Ans K σ Gs ss Hs G st H (.fresh (.lst (sortD ds))) Q) : SortC K H Q ys := by
  simp only [sortOk, Bool.and_eq_true, Bool.or_eq_true, List.all_eq_true, alikeD] at ho
  obtain ⟨⟨h1, h2⟩, h3⟩ := ho
  refine ⟨ds, Rp K G H, each_rp rl, each_dp rl h1, fun a ha b hb => ?_, ?_, fun d hd => (okD_py 64 d (h1 d hd)).2, fun zs p n e => q.lst x n (rp_each e)⟩
  · obtain ⟨a', ha', rfl⟩ := List.mem_map.mp ha
    obtain ⟨b', hb', rfl⟩ := List.mem_map.mp hb
    exact h2 a' ha' b' hb'
  · rcases h3 with h3 | h3
    · refine .inl fun d hd => ?_
      obtain ⟨a, ha, rfl⟩ := List.mem_map.mp hd
      have := h3 a ha
      unfold isTup1 at this
      split at this
      · rename_i x r
        exact ⟨py x, pyL r, by simp only [py, pyL]⟩
      · cases this
    · refine .inr fun d hd => ?_
      obtain ⟨a, ha, rfl⟩ := List.mem_map.mp hd
      have := h3 a ha
      cases a with
      | bl b => exact ⟨by simp [py], by simp [py]⟩
      | int b => exact ⟨by simp [py], by simp [py]⟩
      | str b => exact ⟨by simp [py], by simp [py]⟩
      | lst b => exact ⟨by simp [py], by simp [py]⟩
      | _ => cases this
theorem pb_sort : PuB K (rSortA K) sortW := fun σ Gs ss Hs G st H vs ds w Q r x h hf q => by
  unfold sortW at hf
  split at hf
  · rename_i d
    split at hf
    · rename_i es hi
      split at hf
      · rename_i ho
        cases hf
        obtain ⟨v, rfl, k1⟩ := h.one
        unfold itemsS at hi
        split at hi
        · cases hi
          obtain ⟨a, us, rfl, hl, rl⟩ := k1.tup
          exact ⟨a, rfl, .inl ⟨us, .inr (.of hl), sortC_of x ho rl q⟩⟩
        · cases hi
          obtain ⟨a, us, rfl, hl, rl⟩ := k1.lst
          exact ⟨a, rfl, .inl ⟨us, .inl (.of hl), sortC_of x ho rl q⟩⟩
        · cases hi
          obtain ⟨a, rfl, ⟨kvs, hr, e, rl, z⟩ | ⟨kvs, hr, e, rl, _⟩⟩ := k1.dct
          · cases z
          · refine ⟨a, rfl, .inr ⟨kvs, hr, fun bs hk => ?_⟩⟩
            subst e
            exact sortC_of x ho (keys_rpT hk) q
        · cases hi
      · cases hf
    · cases hf
  · cases hf
end
end Dl

namespace Dl
open PySem PySem.Spec PyProof.Rows L2

/-! ### len(set(xs)), tuples of numbers -/
/-- without what came before -/
def dd {α : Type} [DecidableEq α] : List α → List α
  | [] => []
  | x :: r => if x ∈ r then dd r else x :: dd r
theorem dd_mem {α : Type} [DecidableEq α] {y : α} : ∀ {l : List α}, y ∈ dd l ↔ y ∈ l
  | [] => Iff.rfl
  | x :: r => by
    unfold dd
    by_cases h : x ∈ r
    · rw [if_pos h, dd_mem, List.mem_cons]
      exact ⟨.inr, fun z => z.elim (fun e => e ▸ h) id⟩
    · rw [if_neg h, List.mem_cons, List.mem_cons, dd_mem]
theorem dd_nodup {α : Type} [DecidableEq α] : ∀ {l : List α}, (dd l).Nodup
  | [] => .nil
  | x :: r => by
    unfold dd
    by_cases h : x ∈ r
    · rw [if_pos h]; exact dd_nodup
    · rw [if_neg h]
      exact List.nodup_cons.mpr ⟨fun z => h (dd_mem.mp z), dd_nodup⟩
theorem nodup_len {α : Type} {a b : List α} (ha : a.Nodup) (hb : b.Nodup) (h : ∀ x, x ∈ a ↔ x ∈ b) : a.length = b.length :=
  Nat.le_antisymm (ha.length_le_of_subset fun x hx => (h x).mp hx) (hb.length_le_of_subset fun x hx => (h x).mpr hx)
theorem dd_self {α : Type} [DecidableEq α] : ∀ {l : List α}, l.Nodup → dd l = l
  | [], _ => rfl
  | x :: r, h => by
    obtain ⟨h1, h2⟩ := List.nodup_cons.mp h
    unfold dd
    rw [if_neg h1, dd_self h2]
def numsL : List D → Option (List (List Int))
  | [] => some []
  | .tup ds :: r => match intsOf ds, numsL r with
    | some ns, some k => some (ns :: k)
    | _, _ => none
  | _ => none
def lenSetW : List D → Option W
  | [.lst ds] => match numsL ds with
    | some ks => if ks.length < 64 then some (.val (.int (dd ks).length)) else none
    | none => none
  | _ => none
def rLenSetT (K : PySem.W.Frag) : List V → Hp → VK → Prop := fun xs H Q => ∃ (l : Addr) (ks : List (Addr × List Int)), xs = [V.ref l] ∧ SqL K H l (ks.map fun p => V.ref p.1) ∧ (∀ p ∈ ks, SqT K H p.1 (p.2.map V.int)) ∧ ks.length < 64 ∧ Q (.int (dd (ks.map (·.2))).length) H
section
variable {K : PySem.W.Frag} {G : Gh} {H : Hp}
theorem nums_rp : ∀ {vs : List V} {ds : List D} {ks : List (List Int)}, RpL K G H vs ds → numsL ds = some ks → ∃ ps : List (Addr × List Int), vs = (ps.map fun p => V.ref p.1) ∧ ps.map (·.2) = ks ∧ ∀ p ∈ ps, SqT K H p.1 (p.2.map V.int)
  | _, _, _, .nil, h => by cases h; exact ⟨[], rfl, rfl, fun p hp => by cases hp⟩
  | _, d :: r, ks, .cons h1 h2, h => by
    unfold numsL at h
    split at h
    · rename_i z
      cases z
    · rename_i es r' z
      cases z
      split at h
      · rename_i ns k e1 e2
        cases h
        obtain ⟨ps, q1, q2, q3⟩ := nums_rp h2 e2
        cases h1 with
        | tup hp rl =>
          rw [intsOf_eq e1] at rl
          rw [RpL.of_ints rl] at hp
          refine ⟨(_, ns) :: ps, by rw [q1] <;> rfl, by rw [List.map_cons, q2], fun p hm => ?_⟩
          rcases List.mem_cons.mp hm with rfl | hm
          · exact .of hp
          · exact q3 p hm
      · cases h
    · cases h
theorem pb_lenSet : PuB K (rLenSetT K) lenSetW := fun σ Gs ss Hs G st H vs ds w Q r x h hf q => by
  unfold lenSetW at hf
  split at hf
  · split at hf
    · rename_i ks e
      split at hf
      · rename_i hl
        cases hf
        obtain ⟨v, rfl, k1⟩ := h.one
        obtain ⟨a, us, rfl, hl', rl⟩ := k1.lst
        obtain ⟨ps, q1, q2, q3⟩ := nums_rp rl e
        subst q1 q2
        exact ⟨a, ps, rfl, .of hl', q3, by simpa using hl, q.val x (.int _)⟩
      · cases hf
    · cases hf
  · cases hf
end
section
variable {X : Cx} {Wx : WX} {a : Expr} {m : Ev (List W)} {p p2 q pos : Pos}
theorem pe_lenSetT {ta : TA} (hc : X.calm = true) (hu : X.A.units + 64 < cLine) (hg : Gl X "len") (hm : X.mg "len" = none) (hg2 : Gl X "set") (hm2 : X.mg "set" = none) (ha : PA X [a] ta)
    (na : starEach [a] X.env = (false, eval a X.env) :: starEach [] X.env := by rfl) : PE X (.Call (.Name "len" p) [.Call (.Name "set" p2) [a] [] q] [] pos) (tCB (rLenSetT X.K) ta) := by
  refine ⟨fun pins s σ H Q I h => ?_⟩
  refine Call_ (ld_blt I hg hm PySem.boot_len ?_)
  refine PyProof.Rows.callWith_builtin1 (PyProof.Rows.args_cons ?_ rfl) rfl rfl
  refine Call_ (ld_blt I hg2 hm2 PyProof.Rows.boot_set ?_)
  refine PyProof.Rows.callWith_type1 (thn (ha.run _ pins s σ H _ I h) fun us s1 ⟨vs, H1, I1, r1, q1⟩ => ?_) na rfl
  obtain ⟨l, ks, rfl, hl, hk, hf, q1⟩ := q1
  rw [Vals.ref1 r1]
  obtain ⟨its, rv, pl, hz⟩ := I1.list hl
  refine call_set_tups (P := X.prog) (w := X.w) ks (I1.ok.hd hc) pl.isList (by simpa using refs_of_vals rv) (fun p hp => I1.isT (hk p hp)) hf (by omega) fun h' tk L es ep t R g k => ?_
  refine PyProof.Rows.args_nil ?_
  have I2 : Inv X pins σ H1 { s1 with heap := h', toks := tk } := I1.kept k
  have hlen : es.size = (dd (ks.map (·.2))).length := by
    have e1 : es.size = L.length := SetTR.size (s := { s1 with heap := h', toks := tk }) R
    have e2 := nodup_len R.nd (dd_nodup (l := ks.map (·.2))) fun x => by
      rw [dd_mem]
      refine ⟨fun hx => ?_, fun hx => ?_⟩
      · obtain ⟨y, hy, rfl⟩ := List.mem_map.mp hx
        exact List.mem_map.mpr ⟨y, List.mem_of_mem_take (g.sub y hy), rfl⟩
      · obtain ⟨y, hy, rfl⟩ := List.mem_map.mp hx
        exact g.all y (by rw [List.take_length]; exact hy)
    rw [List.length_map] at e2
    omega
  obtain ⟨o, ho, hex, hd⟩ := R.ob
  refine call_len_set (s := { s1 with heap := h', toks := tk }) ho hex hd (SetTR.fits (s := { s1 with heap := h', toks := tk }) R) ?_ ⟨.int _, H1, I2.tok _, ⟨_, by rw [hlen]⟩, q1⟩
  have := R.few
  have e1 : es.size = L.length := SetTR.size (s := { s1 with heap := h', toks := tk }) R
  rw [e1]
  omega
theorem de_lenSet (hc : X.calm = true) (hu : X.A.units + 64 < cLine) (hg : Gl X "len") (hm : X.mg "len" = none) (hg2 : Gl X "set") (hm2 : X.mg "set" = none) (ha : DR X Wx [a] m)
    (na : starEach [a] X.env = (false, eval a X.env) :: starEach [] X.env := by rfl) : DE X Wx (.Call (.Name "len" p) [.Call (.Name "set" p2) [a] [] q] [] pos) (bltE lenSetW m) :=
  useE (pe_lenSetT hc hu hg hm hg2 hm2 ha na) fun σ H Q h => up_blt pb_lenSet h
end
end Dl

namespace Dl
open PySem PySem.Spec PyProof.Rows L2

/-! ### the deck -/
section
variable {K : PySem.W.Frag} {mg : Str → Option Value} {σ : Sg} {G G1 G2 : Gh} {Wx : WX} {st st1 st2 : Stt} {H H1 H2 : Hp} {p c : Addr} {k k' : Dk}
theorem deck_of {v : V} (h : Hd K G H v .deck) : ∃ p c, v = .ref p ∧ G.dk = some (p, c) := by
  rcases h with h | ⟨a, _, h⟩
  · cases h with
    | deck h => exact ⟨_, _, rfl, h⟩
  · cases h
theorem Rel.dkAt (r : Rel K G st σ H) (e : G.dk = some (p, c)) (h : st.dk = some k) : DkAt H p c k := by
  obtain ⟨k', e', q⟩ := r.dko.at e
  rw [h] at e'
  cases e'
  exact q
theorem dk_fro (r : Rel K G st σ H) (e : G.dk = some (p, c)) (o : ∀ b, b ≠ p → b ≠ c → H2 b = H b) : Fro G H G H2 := by
  have nd : ∀ {b : Addr}, ¬ isDk G b → b ≠ p ∧ b ≠ c := fun n => ⟨fun z => n ⟨p, c, e, .inl z⟩, fun z => n ⟨p, c, e, .inr z⟩⟩
  have fn : ∀ {b : Addr}, G.F b → b ≠ p ∧ b ≠ c := fun f => nd fun d => r.g.nd _ d f
  have tn : ∀ {b : Addr} {u : HO}, H b = some u → ¬ isBo u → b ≠ p ∧ b ≠ c := fun h nb => nd (notBo_dk r h nb)
  exact ⟨fun _ h => h, fun b xs f h => by rw [o b (fn f).1 (fn f).2]; exact h, fun b u f h => by
    rcases h with h | ⟨q, h⟩
    · exact .inl (by rw [o b (fn f).1 (fn f).2]; exact h)
    · exact .inr ⟨q, by rw [o b (fn f).1 (fn f).2]; exact h⟩, fun b xs h => by rw [o b (tn h id).1 (tn h id).2]; exact h, fun b q xs h => by rw [o b (tn h id).1 (tn h id).2]; exact h, fun _ h => h⟩
theorem Rel.dkStep (r : Rel K G st σ H) (e : G.dk = some (p, c)) (o : ∀ b, b ≠ p → b ≠ c → H2 b = H b) (h : DkAt H2 p c k') : Rel K G { st with dk := some k' } σ H2 := by
  have fr := dk_fro r e o
  have nd : ∀ {b : Addr}, ¬ isDk G b → b ≠ p ∧ b ≠ c := fun n => ⟨fun z => n ⟨p, c, e, .inl z⟩, fun z => n ⟨p, c, e, .inr z⟩⟩
  have tr : ∀ b, H b ≠ none → H2 b ≠ none := fun b hb => by
    by_cases z : b = p
    · subst z; rw [h.1]; exact fun z => by cases z
    · by_cases z2 : b = c
      · subst z2; rw [h.2.1]; exact fun z => by cases z
      · rw [o b z z2]; exact hb
  refine ⟨⟨r.g.f0, r.g.fn, fun b f => tr b (r.g.ft b f), fun b u h d => ?_, fun b h => tr b (r.g.tr b h), r.g.d0, r.g.dn, r.g.nd⟩, ?_, r.len, fun i d h => ?_, fun i d h => ?_, r.ap⟩
  · obtain ⟨n1, n2⟩ := nd d
    rw [o b n1 n2]
    exact r.g.keep b u h d
  · unfold DkOk
    rw [e]
    exact h
  · obtain ⟨v, s, q⟩ := r.fz i d h
    exact ⟨v, s, q.mono fr⟩
  · obtain ⟨b, s, w, q⟩ := r.lv i d h
    obtain ⟨n1, n2⟩ := nd w.nd
    exact ⟨b, s, w, q.mono fr (o b n1 n2)⟩
theorem Ex.dkStep (r : Rel K G st σ H) (x : Ex K σ G st H G1 st1 H1) (e : G1.dk = some (p, c)) (o : ∀ b, b ≠ p → b ≠ c → H2 b = H1 b) (h : DkAt H2 p c k') : Ex K σ G st H G1 { st1 with dk := some k' } H2 := by
  have r2 := x.rel.dkStep e o h
  refine ⟨r2, x.bs, x.f, x.fn, fun b u hb l d => ?_, fun b hb => ?_, x.lives, x.slf, x.sll, x.slu, x.dkm, x.dkn⟩
  · have q := x.keep b u hb l d
    have n : b ≠ p ∧ b ≠ c := by
      refine ⟨fun z => ?_, fun z => ?_⟩
      · rcases x.dkBack ⟨p, c, e, .inl z⟩ with y | y
        · exact d y
        · rw [hb] at y; cases y
      · rcases x.dkBack ⟨p, c, e, .inr z⟩ with y | y
        · exact d y
        · rw [hb] at y; cases y
    rw [o b n.1 n.2]
    exact q
  · have q := x.tr b hb
    by_cases z : b = p
    · subst z; rw [h.1]; exact fun z => by cases z
    · by_cases z2 : b = c
      · subst z2; rw [h.2.1]; exact fun z => by cases z
      · rw [o b z z2]; exact q
end

/-- the deck's own names are three -/
def dkNames (k : Dk) : Bool := k.n1 != "mixed" && k.n1 != k.n3 && ("mixed" : Str) != k.n3
abbrev dkL (k : Dk) (c : Addr) : List (Key × V) := [(.inr k.n1, V.ref c), (.inr "mixed", V.int k.mixed), (.inr k.n3, V.int k.draws)]
theorem dk_vals {k : Dk} {c : Addr} (h : dkNames k = true) : valV (dkL k c) (.inr k.n1) = some (.ref c) ∧ valV (dkL k c) (.inr "mixed") = some (.int k.mixed) ∧ valV (dkL k c) (.inr k.n3) = some (.int k.draws) := by
  simp only [dkNames, Bool.and_eq_true, bne_iff_ne, ne_eq] at h
  obtain ⟨⟨h1, h2⟩, h3⟩ := h
  refine ⟨valV_pos rfl, ?_, ?_⟩
  · rw [valV_neg (fun e => h1 (Sum.inr.inj e))]
    exact valV_pos rfl
  · rw [valV_neg (fun e => h2 (Sum.inr.inj e)), valV_neg (fun e => h3 (Sum.inr.inj e))]
    exact valV_pos rfl
theorem dk_put {k : Dk} {c : Addr} (h : dkNames k = true) (d : Int) : putK (dkL k c) (.inr k.n3) (.int d) = dkL { k with draws := d } c := by
  simp only [dkNames, Bool.and_eq_true, bne_iff_ne, ne_eq] at h
  obtain ⟨⟨h1, h2⟩, h3⟩ := h
  simp [putK, dkL, h2, h3]
/-! ### deck[key] -/
def dkGet (key : Str) (m : Ev W) : Ev W := bindE m fun w st => match content st w, st.dk with
  | some .deck, some k => if dkNames k = true then (if key = k.n3 then .ok (.val (.int k.draws)) st else if key = "mixed" then .ok (.val (.int k.mixed)) st else .stuck) else .stuck
  | _, _ => .stuck
/-- deck[key] = a number -/
def dkPut (key : Str) (mv m : Ev W) : Ev Fl := bindE mv fun w => bindE m fun wo st => match content st w, content st wo, st.dk with
  | some (.int d), some .deck, some k => if dkNames k = true ∧ key = k.n3 then .ok .next { st with dk := some { k with draws := d } } else .stuck
  | _, _, _ => .stuck
/-- deck[key] != [] -/
def dkNe (key : Str) (m : Ev W) : Ev Bool := bindE m fun w st => match content st w, st.dk with
  | some .deck, some k => if dkNames k = true ∧ key = k.n1 then .ok (!k.cells.isEmpty) st else .stuck
  | _, _ => .stuck
/-- deck[key].pop() -/
def dkPop (key : Str) (m : Ev W) : Ev W := bindE m fun w st => match content st w, st.dk with
  | some .deck, some k => if dkNames k = true ∧ key = k.n1 then (match k.cells[k.cells.length - 1]? with
    | some i => .ok (.val (.int i)) { st with dk := some { k with cells := k.cells.dropLast } }
    | none => .stuck) else .stuck
  | _, _ => .stuck
/-- deck[key].append(e) -/
def dkApp (key : Str) (m me : Ev W) : Ev W := bindE m fun w st => match content st w, st.dk with
  | some .deck, some k => if dkNames k = true ∧ key = k.n1 then bindE me (fun w2 st2 => match content st2 w, content st2 w2, st2.dk with
    | some .deck, some (.int i), some k2 => if k2.n1 = k.n1 ∧ dkNames k2 = true ∧ k2.cells.length < 63 then .ok (.val .non) { st2 with dk := some { k2 with cells := k2.cells ++ [i] } } else .stuck
    | _, _, _ => .stuck) st else .stuck
  | _, _ => .stuck
section
variable {K : PySem.W.Frag} {mg : Str → Option Value} {σ : Sg} {G G1 G2 : Gh} {Wx : WX} {st st1 st2 : Stt} {H H1 H2 : Hp} {p c : Addr} {k k' : Dk}
theorem dk_get (h : DkAt H p c k) (n : dkNames k = true) : DGet H p (.str k.n1) (some (.ref c)) ∧ DGet H p (.str "mixed") (some (.int k.mixed)) ∧ DGet H p (.str k.n3) (some (.int k.draws)) := by
  obtain ⟨v1, v2, v3⟩ := dk_vals (c := c) n
  refine ⟨?_, ?_, ?_⟩
  · rw [← v1]; exact DGet.k (k := .inr k.n1) h.1
  · rw [← v2]; exact DGet.k (k := .inr "mixed") h.1
  · rw [← v3]; exact DGet.k (k := .inr k.n3) h.1
theorem da_ne (h : DkAt H p c k) : c ≠ p := fun z => by
  subst z
  have h1 := h.1
  have h2 := h.2.1
  rw [h1] at h2
  cases h2
theorem cells_hd (h : DkAt H p c k) : Hd K G H (.ref c) (.lst (k.cells.map .int)) := .inr ⟨c, rfl, .lst h.2.1 (.ints _)⟩
theorem cells_okD (ns : List Int) : okD 64 (.lst (ns.map .int)) = true := by
  simp only [okD, List.all_eq_true]
  intro d hd
  obtain ⟨i, _, rfl⟩ := List.mem_map.mp hd
  rfl
end
section
variable {X : Cx} {Wx : WX} {o e : Expr} {mo me : Ev W} {key : Str} {j : _} {p1 pos pos' lp apos : Pos}
theorem de_dkGet (hu : X.A.units + 1 < cLine) (ho : DE X Wx o mo) (hs : NoSl (.Constant (.str key) j p1) := by intro _ _; rfl) : DE X Wx (.Subscript o (.Constant (.str key) j p1) pos) (dkGet key mo) :=
  useE (pe_dget hu ho pe_str hs) fun σ H Q ⟨G, st, rel, h⟩ => step rel (.refl rel) h fun w st1 G1 H1 v x1 _ r1 h1 => by
    split at h1
    · rename_i k hc hk
      split at h1
      · rename_i hn
        obtain ⟨p, c, rfl, e⟩ := deck_of (r1.hd x1.rel hc)
        obtain ⟨g1, g2, g3⟩ := dk_get (x1.rel.dkAt e hk) hn
        split at h1
        · rename_i ek
          subst ek
          exact ⟨p, _, rfl, g3, h1 G1 H1 _ x1 (.int _)⟩
        · split at h1
          · rename_i ek
            subst ek
            exact ⟨p, _, rfl, g2, h1 G1 H1 _ x1 (.int _)⟩
          · exact h1.elim
      · exact h1.elim
    · exact h1.elim
theorem ds_dkPut (hu : X.A.units + 1 < cLine) (ho : DE X Wx o mo) (he : DE X Wx e me) (hs : swapsWith e (some (.Subscript o (.Constant (.str key) j p1) pos')) pos.line X.env = pure false := by rfl) :
    DS X Wx (.Assign [.Subscript o (.Constant (.str key) j p1) pos'] e pos) (dkPut key me mo) :=
  useS (ps_dput hu ho pe_str he hs) fun D' σ H ⟨G, st, rel, h⟩ => stepS rel h fun w st1 G1 H1 v x1 r1 p1 => stepS2 rel x1 p1 fun wo st2 G2 H2 vo x2 x12 ro p2 => by
    split at p2
    · rename_i d k hc1 hc2 hk
      split at p2
      · rename_i hn
        obtain ⟨hn, ek⟩ := hn
        obtain ⟨p, c, rfl, e⟩ := deck_of (ro.hd x2.rel hc2)
        have hv := ((r1.mono rel x1 x12).hd x2.rel hc1).int
        subst hv ek
        have da := x2.rel.dkAt e hk
        have x3 : Ex X.K σ G st H G2 { st2 with dk := some { k with draws := d } } (upd H2 p (.dK (putK (dkL k c) (.inr k.n3) (.int d)))) := Ex.dkStep rel x2 e (fun b n1 n2 => upd_ne n1) (by
          refine ⟨?_, ?_, da.2.2⟩
          · rw [upd_same, dk_put hn]
          · rw [upd_ne (da_ne da)]
            exact da.2.1)
        exact ⟨p, _, rfl, DPut.k (k := .inr k.n3) da.1 (by show 3 < sizeLine; decide), p2 _ _ _ x3.rel (x3.gt rel)⟩
      · exact p2.elim
    · exact p2.elim
theorem dt_dkNe (hu : X.A.units + 1 < cLine) (hu2 : X.A.units + 64 < cLine) (ho : DE X Wx o mo) (hs : NoSl (.Constant (.str key) j p1) := by intro _ _; rfl) : DT X Wx (.Compare (.Subscript o (.Constant (.str key) j p1) pos) [.NotEq] [.List [] lp] pos') (dkNe key mo) :=
  useT (pt_cmpR (op_neD hu2) (pe_dget hu ho pe_str hs) (pe_lst pa_nil) (nomark _)) fun σ H Q ⟨G, st, rel, h⟩ => step rel (.refl rel) h fun w st1 G1 H1 v x1 _ r1 h1 => by
    split at h1
    · rename_i k hc hk
      split at h1
      · rename_i hn
        obtain ⟨hn, ek⟩ := hn
        subst ek
        obtain ⟨p, c, rfl, e⟩ := deck_of (r1.hd x1.rel hc)
        have da := x1.rel.dkAt e hk
        obtain ⟨g1, g2, g3⟩ := dk_get da hn
        refine ⟨p, _, rfl, g1, by show 0 ≤ sizeLine; decide, fun q n => ?_⟩
        have x2 := x1.alloc (o := .lst []) n
        have da2 := x2.rel.dkAt e hk
        have hb : Hd X.K G1 (upd H1 q (.lst [])) (.ref q) (.lst []) := .inr ⟨q, rfl, .lst upd_same .nil⟩
        have ok := cells_okD k.cells
        refine pu_ne σ G st H G1 st1 _ (.ref c) (.ref q) (.lst (k.cells.map .int)) (.lst []) _ _ rel x2 (cells_hd da2) hb (by unfold neW; rw [if_pos ⟨ok, by rfl⟩]) fun G' H' v' a b r => ?_
        refine ⟨_, (Hd.bl (.inl r)), ?_⟩
        have e2 : (!eqd (.lst (k.cells.map .int)) (.lst [])) = !k.cells.isEmpty := by
          cases k.cells with
          | nil => rfl
          | cons _ _ => rfl
        rw [e2]
        exact h1 G' H' a
      · exact h1.elim
    · exact h1.elim
theorem cells_ty {K : PySem.W.Frag} {H : Hp} {p c : Addr} {k : Dk} (h : DkAt H p c k) : tyV K "list" (.ref c) H := .inl ⟨rfl, _, .of h.2.1⟩
theorem de_dkPop (hu : X.A.units + 1 < cLine) (ho : DE X Wx o mo) (hs : NoSl (.Constant (.str key) j p1) := by intro _ _; rfl)
    (hbase : attributeBase (.Subscript o (.Constant (.str key) j p1) pos) "pop" X.env (eval (.Subscript o (.Constant (.str key) j p1) pos) X.env) = eval (.Subscript o (.Constant (.str key) j p1) pos) X.env := by rfl) (hline : (apos.endLine == pos'.line) = true := by rfl) :
    DE X Wx (.Call (.Attribute (.Subscript o (.Constant (.str key) j p1) pos) "pop" apos) [] [] pos') (dkPop key mo) :=
  useE (pe_bm0 F.plainAttrs_list F.slot_list_pop F.type_list_pop mt_pop (pe_dget hu ho pe_str hs) hbase hline) fun σ H Q ⟨G, st, rel, h⟩ => step rel (.refl rel) h fun w st1 G1 H1 v x1 _ r1 h1 => by
    split at h1
    · rename_i k hc hk
      split at h1
      · rename_i hn
        obtain ⟨hn, ek⟩ := hn
        subst ek
        obtain ⟨p, c, rfl, e⟩ := deck_of (r1.hd x1.rel hc)
        have da := x1.rel.dkAt e hk
        obtain ⟨g1, g2, g3⟩ := dk_get da hn
        split at h1
        · rename_i i hi
          refine ⟨p, _, rfl, g1, cells_ty da, c, _, .int i, rfl, rfl, da.2.1, by rw [List.length_map, List.getElem?_map, hi] <;> rfl, ?_⟩
          have x3 : Ex X.K σ G st H G1 { st1 with dk := some { k with cells := k.cells.dropLast } } (upd H1 c (.lst (k.cells.map V.int).dropLast)) := Ex.dkStep rel x1 e (fun b n1 n2 => upd_ne n2) (by
            refine ⟨?_, ?_, ?_⟩
            · rw [upd_ne (Ne.symm (da_ne da))]
              exact da.1
            · rw [upd_same, List.map_dropLast]
            · have := da.2.2
              simp only [List.length_dropLast]
              omega)
          exact h1 _ _ _ x3 (.int i)
        · exact h1.elim
      · exact h1.elim
    · exact h1.elim
theorem de_dkApp (hu : X.A.units + 1 < cLine) (ho : DE X Wx o mo) (he : DE X Wx e me) (hs : NoSl (.Constant (.str key) j p1) := by intro _ _; rfl)
    (hbase : attributeBase (.Subscript o (.Constant (.str key) j p1) pos) "append" X.env (eval (.Subscript o (.Constant (.str key) j p1) pos) X.env) = eval (.Subscript o (.Constant (.str key) j p1) pos) X.env := by rfl)
    (hfew : ((backTo pos' (starEach [e] X.env)).all (fun x => !x.1) && (backToKw pos' (keywordEach [] X.env)).all (fun x => x.1.isSome) && decide (([e] : List Expr).length + ([] : List Keyword).length + (if ([] : List Keyword).isEmpty then 0 else 1) < 30)) = true := by rfl)
    (hline : (apos.endLine == pos'.line) = true := by rfl) (hst : starEach [e] X.env = (false, eval e X.env) :: starEach [] X.env := by rfl) (hpl : (backTo pos' (starEach [] X.env)).any (·.1) = false := by rfl) :
    DE X Wx (.Call (.Attribute (.Subscript o (.Constant (.str key) j p1) pos) "append" apos) [e] [] pos') (dkApp key mo me) :=
  useE (pe_bm F.plainAttrs_list F.slot_list_append F.type_list_append mt_append (pe_dget hu ho pe_str hs) (pa_cons he pa_nil hst) hbase hfew hline hst hpl) fun σ H Q ⟨G, st, rel, h⟩ => step rel (.refl rel) h fun w st1 G1 H1 v x1 _ r1 h1 => by
    split at h1
    · rename_i k hc hk
      split at h1
      · rename_i hn
        obtain ⟨hn, ek⟩ := hn
        subst ek
        obtain ⟨p, c, rfl, e⟩ := deck_of (r1.hd x1.rel hc)
        have da := x1.rel.dkAt e hk
        obtain ⟨g1, g2, g3⟩ := dk_get da hn
        refine ⟨p, _, rfl, g1, cells_ty da, step rel x1 h1 fun w2 st2 G2 H2 v2 x2 x12 r2 h2 => ?_⟩
        split at h2
        · rename_i i k2 hc1 hc2 hk2
          split at h2
          · rename_i hn2
            obtain ⟨e1, e2, hl⟩ := hn2
            have ed : G2.dk = some (p, c) := x12.dkm _ e
            have da2 := x2.rel.dkAt ed hk2
            have hv := (r2.hd x2.rel hc2).int
            subst hv
            refine ⟨c, _, .int i, rfl, rfl, da2.2.1, by rw [List.length_map]; exact Nat.lt_trans hl (by show 63 < sizeLine; decide), ?_⟩
            have x3 : Ex X.K σ G st H G2 { st2 with dk := some { k2 with cells := k2.cells ++ [i] } } (upd H2 c (.lst (k2.cells.map V.int ++ [.int i]))) := Ex.dkStep rel x2 ed (fun b n1 n2 => upd_ne n2) (by
              refine ⟨?_, ?_, ?_⟩
              · rw [upd_ne (Ne.symm (da_ne da2))]
                exact da2.1
              · rw [upd_same, List.map_append] <;> rfl
              · simp only [List.length_append, List.length_cons, List.length_nil]
                omega)
            exact h2 _ _ _ x3 .non
          · exact h2.elim
        · exact h2.elim
      · exact h1.elim
    · exact h1.elim
end

/-! ### the deck is made -/
section
variable {K : PySem.W.Frag} {mg : Str → Option Value} {σ : Sg} {G G1 G2 : Gh} {Wx : WX} {st st1 st2 : Stt} {H H1 H2 : Hp} {p c : Addr} {k k' : Dk}
def Gh.mk' (G : Gh) (p c : Addr) : Gh := { G with dk := some (p, c) }
theorem Ex.dkNew (r : Rel K G st σ H) (x : Ex K σ G st H G1 st1 H1) (e0 : G1.dk = none) (hp : H p = none) (hc : H c = none) (op : Own G1 p) (oc : Own G1 c) (h : DkAt H1 p c k) : Ex K σ G st H (G1.mk' p c) { st1 with dk := some k } H1 := by
  have e : G.dk = none := by
    cases q : G.dk with
    | none => rfl
    | some u => rw [x.dkm u q] at e0; cases e0
  have e00 : G1.dk0 = none := by
    cases q : G1.dk0 with
    | none => rfl
    | some u => rw [x.rel.g.d0 u q] at e0; cases e0
  have isd : ∀ {b : Addr}, isDk (G1.mk' p c) b → b = p ∨ b = c := fun ⟨p', c', e1, z⟩ => by
    cases e1
    exact z
  have fr : Fro G1 H1 (G1.mk' p c) H1 := ⟨fun _ h => h, fun _ _ _ h => h, fun _ _ _ h => h, fun _ _ h => h, fun _ _ _ h => h, fun u h => by rw [e0] at h; cases h⟩
  have nl1 : ¬ LiveAt st1 σ p := fresh_nl r x hp
  have nl2 : ¬ LiveAt st1 σ c := fresh_nl r x hc
  refine ⟨⟨⟨x.rel.g.f0, x.rel.g.fn, x.rel.g.ft, fun b u hb d => x.rel.g.keep b u hb fun z => ?_, x.rel.g.tr, fun u h => ?_, fun h0 p' c' e1 => ?_, fun b d f => ?_⟩, ?_, x.rel.len, fun i d h => ?_, fun i d h => ?_, x.rel.ap⟩, ⟨x.bs.h, x.bs.f, x.bs.d, x.bs.l⟩, x.f, x.fn, x.keep, x.tr, x.lives, x.slf, x.sll, x.slu, (fun u h => by rw [e] at h; cases h), fun _ p' c' e1 => by cases e1; exact ⟨hp, hc⟩⟩
  · obtain ⟨p', c', e1, _⟩ := z
    rw [e0] at e1
    cases e1
  · have h : G1.dk0 = some u := h
    rw [e00] at h
    cases h
  · cases e1
    exact ⟨op.h0, oc.h0⟩
  · rcases isd d with rfl | rfl
    · exact op.nf f
    · exact oc.nf f
  · exact h
  · obtain ⟨v, s, q⟩ := x.rel.fz i d h
    exact ⟨v, s, q.mono fr⟩
  · rename_i hlv
    obtain ⟨b, s, w, q⟩ := x.rel.lv i d h
    refine ⟨b, s, ⟨w.nf, w.h0, fun z => ?_⟩, q.mono fr rfl⟩
    rcases isd z with z | z
    · exact nl1 (z ▸ ⟨i, d, h, s⟩)
    · exact nl2 (z ▸ ⟨i, d, h, s⟩)
theorem Ex.gdk (x : Ex K σ G st H G1 st1 H1) (h : st1.dk = none) : G1.dk = none := by
  cases q : G1.dk with
  | none => rfl
  | some u =>
    obtain ⟨p, c⟩ := u
    obtain ⟨k, e, _⟩ := x.rel.dko.at q
    rw [h] at e
    cases e
end
def deckE (n1 n3 : Str) (m1 m2 m3 : Ev W) : Ev W := bindE m1 fun w1 => bindE m2 fun w2 => bindE m3 fun w3 st => match w1, content st w2, content st w3, st.dk with
  | .fresh (.lst ds), some (.int m), some (.int d), none => match intsOf ds with
    | some ns => if ns.length ≤ 63 ∧ n1 ≠ "mixed" ∧ n1 ≠ n3 ∧ ("mixed" : Str) ≠ n3 then .ok (.val .deck) { st with dk := some ⟨n1, n3, ns, m, d⟩ } else .stuck
    | none => .stuck
  | _, _, _, _ => .stuck
section
variable {X : Cx} {Wx : WX} {e1 e2 e3 : Expr} {m1 m2 m3 : Ev W} {n1 n3 : Str} {j1 j2 j3 : _} {q1 q2 q3 pos : Pos}
theorem de_deck (h1 : DE X Wx e1 m1) (h2 : DE X Wx e2 m2) (h3 : DE X Wx e3 m3) : DE X Wx (.Dict [some (.Constant (.str n1) j1 q1), some (.Constant (.str "mixed") j2 q2), some (.Constant (.str n3) j3 q3)] [e1, e2, e3] pos) (deckE n1 n3 m1 m2 m3) :=
  useE (pe_disp (pps_cons pe_str h1 (pps_cons pe_str h2 (pps_cons pe_str h3 pps_nil))) rfl rfl (by simp) (by show 3 ≤ 15; omega)) fun σ H Q ⟨G, st, rel, h⟩ => fun p hp => by
    have x0 : Ex X.K σ G st H G st (upd H p (.dK [])) := (Ex.refl rel).alloc hp
    refine step rel x0 h fun w1 st1 G1 H1 v1 x1 x01 r1 h1 => step rel x1 h1 fun w2 st2 G2 H2 v2 x2 x12 r2 h2 => step rel x2 h2 fun w3 st3 G3 H3 v3 x3 x23 r3 h3 => ?_
    split at h3
    · rename_i ds m d hc2 hc3 hd
      split at h3
      · rename_i ns hns
        split at h3
        · rename_i hok
          obtain ⟨hl, n12, n13, n23⟩ := hok
          have r1' := (r1.mono rel x1 x12).mono rel x2 x23
          obtain ⟨c, rfl, hc, oc, bc⟩ := r1'
          have hv2 := ((r2.mono rel x2 x23).hd x3.rel hc2).int
          have hv3 := (r3.hd x3.rel hc3).int
          subst hv2 hv3
          have x03 : Ex X.K σ G st (upd H p (.dK [])) G3 st3 H3 := (x01.trans x0.rel x12).trans x0.rel x23
          have op0 : Own G p := rel.own hp
          have nlp : ¬ LiveAt st σ p := fun l => rel.liveT l hp
          have hp3 : H3 p = some (.dK []) := x03.keep p _ upd_same nlp op0.nd
          have op3 : Own G3 p := ⟨fun f => by
            rcases x03.fn p f with z | z | z
            · exact op0.nf z
            · rw [upd_same] at z; cases z
            · exact nlp z, by rw [x03.bs.h]; exact op0.h0, fun z => by
            rcases x03.dkBack z with z | z
            · exact op0.nd z
            · rw [upd_same] at z; cases z⟩
          have hcp : c ≠ p := fun z => by
            subst z
            cases bc with
            | lst hb _ => rw [hp3] at hb; cases hb
          have hcl : H3 c = some (.lst (ns.map V.int)) := by
            cases bc with
            | lst hb rl =>
              rw [intsOf_eq hns] at rl
              rw [RpL.of_ints rl] at hb
              exact hb
          refine ⟨hp3, [(.inr n1, .ref c), (.inr "mixed", .int m), (.inr n3, .int d)], rfl, (by show 3 ≤ 15; omega), ?_⟩
          have em : mergeK [] [(.inr n1, V.ref c), (.inr "mixed", .int m), (.inr n3, .int d)] = dkL ⟨n1, n3, ns, m, d⟩ c := by
            simp [mergeK, putK, dkL, n12, n13, n23]
          rw [em]
          have x4 := x3.updOwn (o := .dK (dkL ⟨n1, n3, ns, m, d⟩ c)) hp op3 (fresh_nl rel x3 hp) hp3 trivial
          have da : DkAt (upd H3 p (.dK (dkL ⟨n1, n3, ns, m, d⟩ c))) p c ⟨n1, n3, ns, m, d⟩ := ⟨upd_same, by rw [upd_ne hcp]; exact hcl, hl⟩
          have x5 := Ex.dkNew rel x4 (x4.gdk hd) hp hc op3 oc da
          exact h3 _ _ _ x5 (.deck rfl)
        · exact h3.elim
      · exact h3.elim
    · exact h3.elim
end

/-! ### the script cut, a list from its end -/
def scrCut (m : Ev W) (hi : Ev (Option Int)) : Ev W := bindE m fun w => bindE hi fun h st => match content st w with
  | some (.scr ns) => .ok (.fresh (.lst (cutD (ns.map .int) none h))) st
  | _ => .stuck
def revE (m : Ev W) : Ev W := bindE m fun w st => match content st w with
  | some (.lst ds) => .ok (.fresh (.lst ds.reverse)) st
  | _ => .stuck
section
variable {X : Cx} {Wx : WX} {a e : Expr} {ma : Ev W} {hi : Option Expr} {mh : Ev (Option Int)} {k : _} {p1 p2 p3 pos : Pos}
theorem de_scrCut (ha : DE X Wx a ma) (hh : DO X Wx hi mh) : DE X Wx (.Subscript a (.Slice none hi none p2) pos) (scrCut ma mh) :=
  useE (pe_slice (sl_list.or (sl_tupA.or sl_str)) ha po_none hh) fun σ H Q ⟨G, st, rel, h⟩ =>
    step rel (.refl rel) h fun w st1 G1 H1 v x1 _ r1 h1 => stepO rel x1 h1 fun u st3 G3 H3 x3 x13 h3 => by
      split at h3
      · rename_i ns hc
        obtain ⟨p, rfl, hl⟩ := ((r1.mono rel x1 x13).hd x3.rel hc).scr
        exact .inl ⟨p, _, rfl, hl, fun q n => h3 G3 _ _ (x3.alloc n) ⟨q, rfl, x3.back n, x3.rel.own n, .lst upd_same ((cut_rp (.ints ns) none u).mono (upd_fro n))⟩⟩
      · exact h3.elim
theorem rev_rp {K : PySem.W.Frag} {G : Gh} {H : Hp} : ∀ {vs : List V} {ds : List D}, RpL K G H vs ds → RpL K G H vs.reverse ds.reverse
  | _, _, .nil => .nil
  | _, _, .cons h r => by
    rw [List.reverse_cons, List.reverse_cons]
    exact (rev_rp r).append (.cons h .nil)
theorem de_rev (ha : DE X Wx e ma) : DE X Wx (.Subscript e (.Slice none none (some (.UnaryOp .USub (.Constant (.int 1) k p1) p2)) p3) pos) (revE ma) :=
  useE (pe_revL ha) fun σ H Q ⟨G, st, rel, h⟩ => step rel (.refl rel) h fun w st1 G1 H1 v x1 _ r1 h1 => by
    split at h1
    · rename_i ds hc
      obtain ⟨p, vs, rfl, hl, rl⟩ := (r1.hd x1.rel hc).lst
      exact ⟨p, vs, rfl, .of hl, fun q n => h1 G1 _ _ (x1.alloc n) ⟨q, rfl, x1.back n, x1.rel.own n, .lst upd_same ((rev_rp rl).mono (upd_fro n))⟩⟩
    · exact h1.elim
end
end Dl

namespace Dl
open PySem PySem.Spec PyProof.Rows L2

/-! ### the law's own call -/
section
variable {P : Program} {w : World} {K : PySem.W.Frag} {mg mb : Str → Option Value} {k : Nat} {fa a : Addr} {fd : FuncData} {x : Str} {Fm : List D → Option Dk → RF} {s₁ : Shared} {vs : List Value} {ns : List Int}
/-- the one object that may be known: the script, if no row of the written part stands there -/
def scrH (K : PySem.W.Frag) (a : Addr) (vs : List Value) (ns : List Int) : Hp := fun b =>
  if b = a ∧ K.lookup a = none then some (.frz { cls := .type "list", data := .seq vs.toArray } (.lst (ns.map V.int))) else none
theorem scrH_some {b : Addr} {u : HO} (h : scrH K a vs ns b = some u) : b = a ∧ K.lookup a = none ∧ u = .frz { cls := .type "list", data := .seq vs.toArray } (.lst (ns.map V.int)) := by
  unfold scrH at h
  split at h
  · rename_i c
    cases h
    exact ⟨c.1, c.2, rfl⟩
  · cases h
theorem ends (KX : K.In s₁.heap) (hns : s₁.heap.Ns mainGlobals mg) (hb : s₁.heap.Ns builtinsNs mb) (hbb : ∀ x : Str, x ≠ "__name__" → mb x = bootBuiltins x) (hlim : s₁.heap.NoLimit) (hg : s₁.gens = #[])
    (ha : s₁.heap.get? a = some { cls := .type "list", data := .seq vs.toArray }) (hi : IntsAre vs ns) (hl : ns.length ≤ sizeLine) (hr : RoomG k callerA)
    (F : ∀ base : Heap, K.In base → base.Ns mainGlobals mg → FnG P w K mg base k fa fd [x] Fm) (hbind : ∀ (s : Shared) (u : Value), BindsTo s fd ⟨[u], []⟩ [(x, u)])
    (hF : ∃ dk, Fm [.scr ns] none = .ok (.bl true) dk) :
    codeAny (model P w) callerA (.call (.ref fa) ⟨[.ref a], []⟩) (fun r s' => r = .ok (.ret (.bool true)) ∧ OldK s₁.heap s'.heap ∧ s'.os = s₁.os ∧ AllBare s'.gens) s₁ := by
  have rv := vals_ints hi
  have len := hi.length
  obtain ⟨dk, hF⟩ := hF
  -- nothing of the base is hidden but the script
  have hid : ∀ {b : Addr} {o : Obj}, s₁.heap.get? b = some o → (b = a → K.lookup a ≠ none) → (hidT s₁.heap (scrH K a vs ns)).get? b = some o := fun {b o} e n => hidT_get e (by
    cases q : scrH K a vs ns b with
    | none => rfl
    | some u =>
      obtain ⟨h1, h2, _⟩ := scrH_some q
      exact absurd h2 (n h1))
  have spaces : ∀ {b : Addr} {m : Str → Option Value}, s₁.heap.Ns b m → (hidT s₁.heap (scrH K a vs ns)).Ns b m := by
    rintro b m ⟨o, es, ep, e, d, r⟩
    refine ⟨o, es, ep, hid e ?_, d, r⟩
    rintro rfl
    rw [ha] at e
    cases e
    cases d
  have inB : K.In (hidT s₁.heap (scrH K a vs ns)) := fun b o e => hid (KX b o e) fun z n => by
    subst z
    rw [n] at e
    cases e
  have scr : ScrAt K (scrH K a vs ns) a ns := by
    cases q : K.lookup a with
    | none => exact .inl ⟨_, by unfold scrH; rw [if_pos ⟨rfl, q⟩]⟩
    | some o =>
      refine .inr fun H' => .inr ?_
      have e := KX a o q
      rw [ha] at e
      cases e
      exact ⟨_, vs.toArray, _, q, rfl, rfl, rfl, by rw [List.size_toArray, len]; exact hl, by simpa using rv⟩
  have okH : HOk P w (scrH K a vs ns) s₁.heap := by
    intro b u q
    obtain ⟨rfl, _, rfl⟩ := scrH_some q
    exact ⟨ha, by rw [List.length_map]; exact hl, vs, _, rv, ha⟩
  have e0 : Env0 P w K mg (hidT s₁.heap (scrH K a vs ns)) callerA [] s₁ (scrH K a vs ns) := by
    refine ⟨rfl, ⟨inB, spaces hns, ⟨mb, spaces hb, hbb⟩, ?_⟩, fun b o e => of_hidT e, Nat.le_of_eq (hidT_size _ _), trivial, fun b z => ?_, okH, .of_eq hg⟩
    · obtain ⟨mc, h1, h2⟩ := hlim
      exact ⟨mc, spaces h1, h2⟩
    · have z : b ∈ ([] : List Addr) := z
      cases z
  have G0 : Entry { F := fun _ => False, dk := none, lk := fun _ => False, H0 := scrH K a vs ns, F0 := fun _ => False, dk0 := none } (scrH K a vs ns) none := ⟨fun _ z => z.elim, fun _ _ z => z, trivial⟩
  have fin : FinF K mg { F := fun _ => False, dk := none, lk := fun _ => False, H0 := scrH K a vs ns, F0 := fun _ => False, dk0 := none } (scrH K a vs ns) (Fm [.scr ns] none) (fun v _ => v = .bl true) (fun _ _ _ => False) := by
    rw [hF]
    intro G' H' v _ rp
    cases rp
    rfl
  have run := (F _ inB (spaces hns)).run callerA [] s₁ (scrH K a vs ns) ⟨[.ref a], []⟩ [.ref a] [.ref a] [.scr ns] _ none _ _ hr e0 (hbind s₁ (.ref a)) (.cons rfl .nil) rfl G0 (.cons (.scr scr) .nil) fin
  refine codeAny_mono run fun r s' h => ?_
  match r, h with
  | .error e, h =>
    obtain ⟨_, _, _, _, _, _, _, _, _, _, _, _, z⟩ := h
    exact z.elim
  | .ok .next, h => exact False.elim h
  | .ok .brk, h => exact False.elim h
  | .ok .cont, h => exact False.elim h
  | .ok (.ret u), h =>
    obtain ⟨v, H', os, bare, un, ok', rel, q⟩ := h
    have q : v = .bl true := q
    subst q
    have eu : u = Value.bool true := rel
    refine ⟨by rw [eu], OldK.of_keep fun b o e => ?_, os, bare⟩
    cases q : scrH K a vs ns b with
    | none =>
      refine un.keep b o e q ?_ (by simp)
      intro z
      have z : b ∈ ([] : List Addr) := z
      cases z
    | some u2 =>
      obtain ⟨rfl, _, rfl⟩ := scrH_some q
      obtain ⟨e1, _⟩ := ok' b _ (un.frzs b _ _ q)
      rw [ha] at e
      cases e
      exact e1
end
/-- what k_head leaves -/
theorem walk_g {l : PySem.W.OpenLaw} {n k : Nat} {q : Program} {loose : List Str} {XP : (Str → Option Value) → Heap → Prop} {YP : World → Heap → Prop} {d : DefRec} {K : Params → PySem.W.Frag} {x : Str} {Fm : List D → Option Dk → RF}
    (hn : l.most = some n) (hn2 : n ≤ sizeLine) (hdf : d.params.defaults = []) (hr : RoomG k callerA) (hY : ∀ (w : World) (h : Heap), YP w h → (K w.params).In h)
    (F : ∀ (w : World) (mg : Str → Option Value) (fa : Addr) (h : Heap), (K w.params).In h → h.Ns mainGlobals mg → mg d.name = some (.ref fa) → ∃ fd : FuncData,
      (∀ (s : Shared) (u : Value), BindsTo s fd ⟨[u], []⟩ [(x, u)]) ∧ ∀ base : Heap, (K w.params).In base → base.Ns mainGlobals mg → FnG l.prog w (K w.params) mg base k fa fd [x] Fm)
    (hF : ∀ ns : List Int, ns.length ≤ n → ∃ dk, Fm [.scr ns] none = .ok (.bl true) dk) : PySem.W.WalkO q loose XP YP l.row.toRowW d [] (fun f vs => PySem.call f vs) :=
  Att.attach_call hn hdf fun w s₀ s₁ mg mb fa o pm cd doc a vs ns G Y ho hd hcd hmg hobj hints hlen hg => by
    have X := hY w _ Y
    obtain ⟨fd, hb, hf⟩ := F w mg fa _ X G.T.g hmg
    exact ends X G.T.g G.T.b G.T.builtins G.T.nolimit hg hobj hints (Nat.le_trans hlen hn2) hr hf hb (hF ns hlen)
end Dl

namespace Dl
open PySem PySem.Spec PyProof.Rows L2

/-! ### what the printed texts use -/
section
variable {k : Nat} {A : Around}
theorem RoomG.u1 (h : RoomG k A) : A.units + 1 < cLine := by have := h.r.un; omega
theorem RoomG.u64 (h : RoomG k A) : A.units + 64 < cLine := by have := h.r.un; omega
theorem RoomG.u65 (h : RoomG k A) : A.units + 65 < cLine := by have := h.r.un; omega
theorem RoomG.u70 (h : RoomG k A) : A.units + 70 < cLine := by have := h.r.un; omega
theorem RoomG.u200 (h : RoomG k A) : A.units + 200 < cLine := by have := h.r.un; omega
end
/-- the def st named x, with its mirror -/
structure Cal (P : Program) (w : World) (K : PySem.W.Frag) (mg : Str → Option Value) (base : Heap) (k : Nat) (x : Str) (st : Stmt) (ps : List Str) (F : List D → Option Dk → RF) : Prop where
  ex : ∃ f fd, Fun K x x st f fd ∧ FnG P w K mg base k f fd ps F ∧ mg x = some (.ref f)
section
variable {X : Cx} {Wx : WX} {k j n : Nat} {st : Stmt} {ps ks : List Str} {perm : List Nat} {dfs : List D} {dvs : List V} {F : List D → Option Dk → RF} {x : Str} {p pos : Pos} {e : Expr} {es : List Expr} {kws : List Keyword} {m mk : Ev (List W)}
theorem de_callC (c : Cal X.prog X.w X.K X.mg X.base k x st ps F) (hr : RoomG j X.A) (hk : k ≤ j) (hg : Gl X x) (hb : ∀ {f : Addr} {fd : FuncData}, Fun X.K x x st f fd → Bd X.K fd ps n [] perm dfs dvs) (tk : Takes X Wx) (ha : DB X Wx (e :: es) m)
    (hdb : (x == ("__debug__" : Str)) = false := by decide) (he : starEach (e :: es) X.env = (false, eval e X.env) :: starEach es X.env := by rfl) (hpl : (backTo pos (starEach es X.env)).any (·.1) = false := by rfl) : DE X Wx (.Call (.Name x p) (e :: es) [] pos) (callE F perm dfs n m) := by
  obtain ⟨f, fd, h1, h2, h3⟩ := c.ex
  exact de_call h2 (hr.mono hk) hg h3 h1.kp (hb h1) tk ha hdb he hpl
theorem de_callC0 (c : Cal X.prog X.w X.K X.mg X.base k x st ps F) (hr : RoomG j X.A) (hk : k ≤ j) (hg : Gl X x) (hb : ∀ {f : Addr} {fd : FuncData}, Fun X.K x x st f fd → Bd X.K fd ps 0 [] perm dfs dvs) (tk : Takes X Wx)
    (hdb : (x == ("__debug__" : Str)) = false := by decide) : DE X Wx (.Call (.Name x p) [] [] pos) (callE F perm dfs 0 bNil) := by
  obtain ⟨f, fd, h1, h2, h3⟩ := c.ex
  exact de_call0 h2 (hr.mono hk) hg h3 h1.kp (hb h1) tk hdb
theorem de_callKC (c : Cal X.prog X.w X.K X.mg X.base k x st ps F) (hr : RoomG j X.A) (hk : k ≤ j) (hg : Gl X x) (hb : ∀ {f : Addr} {fd : FuncData}, Fun X.K x x st f fd → Bd X.K fd ps n ks perm dfs dvs) (tk : Takes X Wx) (ha : DB X Wx (e :: es) m) (hkw : DK X Wx kws mk)
    (hall : (backToKw pos (keywordEach kws X.env)).all (·.1.isSome) = true := by rfl) (hks : (backToKw pos (keywordEach kws X.env)).filterMap (·.1) = ks := by rfl)
    (hdb : (x == ("__debug__" : Str)) = false := by decide) (he : starEach (e :: es) X.env = (false, eval e X.env) :: starEach es X.env := by rfl)
    (hpl : ((backTo pos (starEach (e :: es) X.env)).any (·.1) || (backToKw pos (keywordEach kws X.env)).any (·.1.isNone)) = false := by rfl) : DE X Wx (.Call (.Name x p) (e :: es) kws pos) (callK F perm dfs n ks.length m mk) := by
  obtain ⟨f, fd, h1, h2, h3⟩ := c.ex
  exact de_callK h2 (hr.mono hk) hg h3 h1.kp (hb h1) tk ha hkw hall hks hdb he hpl
theorem de_callKC0 (c : Cal X.prog X.w X.K X.mg X.base k x st ps F) (hr : RoomG j X.A) (hk : k ≤ j) (hg : Gl X x) (hb : ∀ {f : Addr} {fd : FuncData}, Fun X.K x x st f fd → Bd X.K fd ps 0 ks perm dfs dvs) (tk : Takes X Wx) (hkw : DK X Wx kws mk)
    (hall : (backToKw pos (keywordEach kws X.env)).all (·.1.isSome) = true := by rfl) (hks : (backToKw pos (keywordEach kws X.env)).filterMap (·.1) = ks := by rfl)
    (hdb : (x == ("__debug__" : Str)) = false := by decide)
    (hpl : ((backTo pos (starEach [] X.env)).any (·.1) || (backToKw pos (keywordEach kws X.env)).any (·.1.isNone)) = false := by rfl) : DE X Wx (.Call (.Name x p) [] kws pos) (callK F perm dfs 0 ks.length bNil mk) := by
  obtain ⟨f, fd, h1, h2, h3⟩ := c.ex
  exact de_callK0 h2 (hr.mono hk) hg h3 h1.kp (hb h1) tk hkw hall hks hdb hpl
end
end Dl

namespace Dl
open L2 PySem PySem.Spec PyProof.Rows

/-! ### rows by which simp runs a mirror -/
section
variable {α β : Type} {st : Stt} {i : Nat} {d e : D} {w w1 w2 : W} {m m1 m2 ma mb mo me : Ev W} {mt : Ev Bool} {f : D → D → Option W} {f1 : D → Option W} {s1 s2 : Ev Fl}
@[simp] theorem s_bind {m : Ev α} {k : α → Ev β} : bindE m k st = (match m st with | .stuck => .stuck | .ok a s => k a s | .exc x s => .exc x s) := rfl
@[simp] theorem s_ok {a : α} : okE a st = .ok a st := rfl
@[simp] theorem s_c : eC d st = .ok (.val d) st := rfl
@[simp] theorem s_var : eVar i st = (match st.ρ[i]? with | some (.fz d) => .ok (.val d) st | some (.lv _) => .ok (.live i) st | _ => .stuck) := rfl
@[simp] theorem s_cv : content st (.val d) = some d := rfl
@[simp] theorem s_cf : content st (.fresh d) = some d := rfl
@[simp] theorem s_cl : content st (.live i) = (match st.ρ[i]? with | some (.lv d) => some d | some (.fz d) => some d | _ => none) := rfl
@[simp] theorem s_app1 : app1 f1 w st = (match content st w with | some d1 => (match f1 d1 with | some w => .ok w st | none => .stuck) | none => .stuck) := rfl
@[simp] theorem s_app2 : app2 f w1 w2 st = (match content st w1, content st w2 with | some d1, some d2 => (match f d1 d2 with | some w => .ok w st | none => .stuck) | _, _ => .stuck) := rfl
@[simp] theorem s_op1 : op1 f1 m st = bindE m (fun w1 => app1 f1 w1) st := rfl
@[simp] theorem s_op2 : op2 f ma mb st = bindE ma (fun w1 => bindE mb fun w2 => app2 f w1 w2) st := rfl
@[simp] theorem s_keepv : keepW (.val d) st = .ok d st := rfl
@[simp] theorem s_keepf : keepW (.fresh d) st = .ok d st := rfl
@[simp] theorem s_keepl : keepW (.live i) st = (match st.ρ[i]? with | some (.lv d) => .ok d (st.frz i d) | some (.fz d) => .ok d st | _ => .stuck) := rfl
@[simp] theorem s_frz : st.frz i d = ⟨st.ρ.set i (.fz d), st.dk⟩ := rfl
@[simp] theorem s_put {s : Slot} : st.put i s = ⟨st.ρ.set i s, st.dk⟩ := rfl
@[simp] theorem s_deck {dk : Option Dk} : st.deck dk = ⟨st.ρ, dk⟩ := rfl
@[simp] theorem s_seq : seqS s1 s2 st = (match s1 st with | .ok .next st1 => s2 st1 | r => r) := rfl
@[simp] theorem s_ret : retS m st = bindE m (fun w => bindE (keepW w) fun d => okE (.ret d)) st := rfl
@[simp] theorem s_if : ifS mt s1 s2 st = bindE mt (fun b => if b = true then s1 else s2) st := rfl
@[simp] theorem s_expr : exprS m st = bindE m (fun _ => okE .next) st := rfl
@[simp] theorem s_set : setS i m st = bindE m (setW i) st := rfl
@[simp] theorem s_setv : setW i (.val d) st = .ok .next (st.put i (.fz d)) := rfl
@[simp] theorem s_setf : setW i (.fresh d) st = .ok .next (st.put i (.lv d)) := rfl
@[simp] theorem s_setl {j : Nat} : setW i (.live j) st = (match st.ρ[j]? with | some (.lv d) => .ok .next ((st.frz j d).put i (.fz d)) | some (.fz d) => .ok .next (st.put i (.fz d)) | _ => .stuck) := rfl
@[simp] theorem s_ifW : ifW w m1 m2 st = (match content st w with | some (.bl true) => m1 st | some (.bl false) => m2 st | _ => .stuck) := rfl
@[simp] theorem s_and : andV m1 m2 st = bindE m1 (fun w => ifW w m2 (eC (.bl false))) st := rfl
@[simp] theorem s_or : orV m1 m2 st = bindE m1 (fun w => ifW w (eC (.bl true)) m2) st := rfl
@[simp] theorem s_not : notV m st = bindE m (fun w => ifW w (eC (.bl false)) (eC (.bl true))) st := rfl
@[simp] theorem s_ifE : ifE mt m1 m2 st = bindE mt (fun b => if b = true then m1 else m2) st := rfl
@[simp] theorem s_andT {t1 t2 : Ev Bool} : andT t1 t2 st = bindE t1 (fun b => if b = true then t2 else okE false) st := rfl
@[simp] theorem s_orT {t1 t2 : Ev Bool} : orT t1 t2 st = bindE t1 (fun b => if b = true then okE true else t2) st := rfl
@[simp] theorem s_tst {g : D → Option Bool} : eTst g m st = bindE m (fun w st => match content st w with | some d => (match g d with | some b => .ok b st | none => .stuck) | none => .stuck) st := rfl
@[simp] theorem s_trB {b : Bool} : truthB (.bl b) = some b := rfl
@[simp] theorem s_trD {b : Bool} : truthD (.bl b) = some b := rfl
@[simp] theorem s_chain {g : D → D → Option W} : chainE f g m1 m2 m st = bindE m1 (fun w1 => bindE m2 fun w2 => bindE (app2 f w1 w2) fun w => ifW w (bindE m fun w3 => app2 g w2 w3) (eC (.bl false))) st := rfl
@[simp] theorem s_aNil : aNil st = .ok [] st := rfl
@[simp] theorem s_aCons {r : Ev (List D)} : aCons m r st = bindE m (fun w => bindE (keepW w) fun d => bindE r fun ds => okE (d :: ds)) st := rfl
@[simp] theorem s_rNil : rNil st = .ok [] st := rfl
@[simp] theorem s_rCons {r : Ev (List W)} : rCons m r st = bindE m (fun w => bindE r fun ws => okE (w :: ws)) st := rfl
@[simp] theorem s_bNil : bNil st = .ok [] st := rfl
@[simp] theorem s_bCons {r : Ev (List W)} : bCons m r st = bindE m (fun w => bindE r fun ws => okE (unfresh w :: ws)) st := rfl
@[simp] theorem s_unv : unfresh (.val d) = .val d := rfl
@[simp] theorem s_unf : unfresh (.fresh d) = .val d := rfl
@[simp] theorem s_unl : unfresh (.live i) = .live i := rfl
@[simp] theorem s_tupOf {ds : List D} : tupOf ds st = if ds.length ≤ big then .ok (.val (.tup ds)) st else .stuck := rfl
@[simp] theorem s_lstOf {ds : List D} : lstOf ds st = if ds.length ≤ big then .ok (.fresh (.lst ds)) st else .stuck := rfl
@[simp] theorem s_big : big = 16777216 := rfl
@[simp] theorem s_ctN : contents st [] = some [] := rfl
@[simp] theorem s_ctC {ws : List W} : contents st (w :: ws) = (match content st w, contents st ws with | some d, some ds => some (d :: ds) | _, _ => none) := rfl
@[simp] theorem s_blt {g : List D → Option W} {r : Ev (List W)} : bltE g r st = bindE r (fun ws st => match contents st ws with | some ds => (match g ds with | some w => .ok w st | none => .stuck) | none => .stuck) st := rfl
@[simp] theorem s_call {F : List D → Option Dk → RF} {perm : List Nat} {dfs : List D} {n : Nat} {r : Ev (List W)} : callE F perm dfs n r st = bindE r (fun ws => fun st => if ws.length = n then callW F perm dfs ws st else .stuck) st := rfl
@[simp] theorem s_callK {F : List D → Option Dk → RF} {perm : List Nat} {dfs : List D} {n k : Nat} {r q : Ev (List W)} : callK F perm dfs n k r q st = bindE r (fun ws => bindE q fun us => fun st => if ws.length = n ∧ us.length = k then callW F perm dfs (ws ++ us) st else .stuck) st := rfl
@[simp] theorem s_callW {F : List D → Option Dk → RF} {perm : List Nat} {dfs : List D} {ws : List W} : callW F perm dfs ws st = (match contents st ws with | none => .stuck | some ds => (match F (gather perm (ds ++ dfs)) st.dk with | .stuck => .stuck | .ok d dk' => if noMut d = true then .ok (.val d) (st.deck dk') else .ok (.val d) ((frzAll ws st).deck dk') | .exc x dk' => .exc x ((frzAll ws st).deck dk'))) := rfl
@[simp] theorem s_gN {xs : List α} : gather [] xs = [] := rfl
@[simp] theorem s_gC {xs : List α} {j : Nat} {p : List Nat} {x : α} (h : xs[j]? = some x) : gather (j :: p) xs = x :: gather p xs := by
  unfold gather
  rw [List.filterMap_cons_some h]
@[simp] theorem s_fzN : frzAll [] st = st := rfl
@[simp] theorem s_fzC {ws : List W} : frzAll (w :: ws) st = frzAll ws (frzW st w) := rfl
@[simp] theorem s_fzv : frzW st (.val d) = st := rfl
@[simp] theorem s_fzl : frzW st (.live i) = (match st.ρ[i]? with | some (.lv d) => st.frz i d | _ => st) := rfl
@[simp] theorem s_nm1 {i : Int} : noMut (.int i) = true := rfl
@[simp] theorem s_nm2 {b : Bool} : noMut (.bl b) = true := rfl
@[simp] theorem s_nm3 : noMut .non = true := rfl
@[simp] theorem s_nm4 {x : Str} : noMut (.str x) = true := rfl
@[simp] theorem s_nm5 {ds : List D} : noMut (.tup ds) = noMutL ds := rfl
@[simp] theorem s_nm6 {ds : List D} : noMut (.lst ds) = false := rfl
@[simp] theorem s_nm7 {t : Bool} {ks vs : List D} : noMut (.dct t ks vs) = false := rfl
@[simp] theorem s_nm8 : noMut .deck = true := rfl
@[simp] theorem s_nmN : noMutL [] = true := rfl
@[simp] theorem s_nmC {ds : List D} : noMutL (d :: ds) = (noMut d && noMutL ds) := rfl
@[simp] theorem s_isi {T : String} : isiE T m st = bindE m (fun w st => match content st w with | some d => (match isiB T d with | some b => .ok (.val (.bl b)) st | none => .stuck) | none => .stuck) st := rfl
@[simp] theorem s_for {r : Ev (List D)} {g : D → Stt → Option Stt} : forS r g s1 st = bindE r (fun ds => forL g s1 ds) st := rfl
@[simp] theorem s_forN {g : D → Stt → Option Stt} : forL g s1 [] st = .ok .next st := rfl
@[simp] theorem s_forC {g : D → Stt → Option Stt} {ds : List D} : forL g s1 (d :: ds) st = (match g d st with | none => .stuck | some st1 => (match s1 st1 with | .ok .next st2 => forL g s1 ds st2 | .ok .cont st2 => forL g s1 ds st2 | .ok .brk st2 => .ok .next st2 | r => r)) := rfl
@[simp] theorem s_seqM : seqM m st = bindE m (fun w => bindE (keepW w) fun d st => match itemsOf d with | some ds => .ok ds st | none => .stuck) st := rfl
@[simp] theorem s_it1 {ds : List D} : itemsOf (.tup ds) = some ds := rfl
@[simp] theorem s_it2 {ds : List D} : itemsOf (.lst ds) = some ds := rfl
@[simp] theorem s_ofL {g : List D → Option (List D)} {r : Ev (List D)} : ofL g r st = bindE r (fun ds st => match g ds with | some l => .ok l st | none => .stuck) st := rfl
@[simp] theorem s_en1 {r : List D} : enumOf [.lst r] = some (enumD 0 r) := rfl
@[simp] theorem s_en2 {r : List D} : enumOf [.tup r] = some (enumD 0 r) := rfl
@[simp] theorem s_nmG : nmG i d st = some ⟨st.ρ.set i (.fz d), st.dk⟩ := rfl
@[simp] theorem s_nilG : nilG [] st = some st := rfl
@[simp] theorem s_consG {g : D → Stt → Option Stt} {h : List D → Stt → Option Stt} {r : List D} : consG g h (d :: r) st = (g d st).bind (h r) := rfl
@[simp] theorem s_seqG1 {n : Nat} {g : List D → Stt → Option Stt} {ds : List D} : seqG n g (.tup ds) st = if ds.length = n then g ds st else none := rfl
@[simp] theorem s_seqG2 {n : Nat} {g : List D → Stt → Option Stt} {ds : List D} : seqG n g (.lst ds) st = if ds.length = n then g ds st else none := rfl
@[simp] theorem s_par {is : List Nat} {r : Ev (List W)} : parS is r st = bindE r (fun ws => bindE (resoW ws) fun rs st => match putA is rs st with | some st' => .ok .next st' | none => .stuck) st := rfl
@[simp] theorem s_reN : resoW [] st = .ok [] st := rfl
@[simp] theorem s_reL {ws : List W} : resoW (.live i :: ws) st = bindE (keepW (.live i)) (fun d => bindE (resoW ws) fun r => okE (.val d :: r)) st := rfl
@[simp] theorem s_reV {ws : List W} : resoW (.val d :: ws) st = bindE (resoW ws) (fun r => okE (.val d :: r)) st := rfl
@[simp] theorem s_reF {ws : List W} : resoW (.fresh d :: ws) st = bindE (resoW ws) (fun r => okE (.fresh d :: r)) st := rfl
@[simp] theorem s_putN : putA [] [] st = some st := rfl
@[simp] theorem s_putV {is : List Nat} {ws : List W} : putA (i :: is) (.val d :: ws) st = putA is ws (st.put i (.fz d)) := rfl
@[simp] theorem s_putF {is : List Nat} {ws : List W} : putA (i :: is) (.fresh d :: ws) st = putA is ws (st.put i (.lv d)) := rfl
@[simp] theorem s_asg {g : D → Stt → Option Stt} : asgS m g st = bindE m (fun w => bindE (keepW w) fun d => fun st => match g d st with | some st' => .ok .next st' | none => .stuck) st := rfl
@[simp] theorem s_meth {g : List D → List D → Option (List D × D)} {r : Ev (List D)} : methL g mo r st = bindE mo (fun w st => match content st w with | some (.lst _) => bindE r (fun as => mutL g w as) st | _ => .stuck) st := rfl
@[simp] theorem s_mut {g : List D → List D → Option (List D × D)} {as : List D} : mutL g (.live i) as st = (match st.ρ[i]? with | some (.lv (.lst ds)) => (match g ds as with | some (ds', d) => .ok (.val d) (st.put i (.lv (.lst ds'))) | none => .stuck) | _ => .stuck) := rfl
@[simp] theorem s_appD {ds : List D} : appD ds [d] = if ds.length < big then some (ds ++ [d], .non) else none := rfl
@[simp] theorem s_extD {ds es : List D} : extD ds [.lst es] = if ds.length + es.length ≤ big then some (ds ++ es, .non) else none := rfl
@[simp] theorem s_lcE {vs : List Nat} {r : Ev (List D)} {g : D → Stt → Option Stt} {b : List D → Ev (List D)} : lcE vs r g b st = bindE r (fun ds st => if noLv st vs = true then (match lcL vs g b ds [] st with | .ok acc st' => .ok (.fresh (.lst acc)) (st'.rest st vs) | _ => .stuck) else .stuck) st := rfl
@[simp] theorem s_nlN : noLv st [] = true := rfl
@[simp] theorem s_nlC {v : Nat} {vs : List Nat} : noLv st (v :: vs) = (notLv st.ρ[v]? && noLv st vs) := rfl
@[simp] theorem s_nl1 : notLv none = true := rfl
@[simp] theorem s_nl2 : notLv (some .un) = true := rfl
@[simp] theorem s_nl3 : notLv (some (.fz d)) = true := rfl
@[simp] theorem s_lcB {k : List D → Ev (List D)} {acc : List D} : lcB mt k acc st = (match mt st with | .ok true st1 => k acc st1 | .ok false st1 => .ok acc st1 | _ => .stuck) := rfl
@[simp] theorem s_lcP {acc : List D} : lcP m acc st = (match m st with | .ok w st1 => (match keepW w st1 with | .ok y st2 => if acc.length < big then .ok (acc ++ [y]) st2 else .stuck | _ => .stuck) | _ => .stuck) := rfl
@[simp] theorem s_wipe {vs : List Nat} : st.wipe vs = ⟨wipeR st.ρ vs, st.dk⟩ := rfl
@[simp] theorem s_wN {ρ : List Slot} : wipeR ρ [] = ρ := rfl
@[simp] theorem s_wC {ρ : List Slot} {v : Nat} {vs : List Nat} : wipeR ρ (v :: vs) = (wipeR ρ vs).set v .un := rfl
@[simp] theorem s_rest {s0 : Stt} {vs : List Nat} : st.rest s0 vs = ⟨restR s0.ρ st.ρ vs, st.dk⟩ := rfl
@[simp] theorem s_rN {ρ0 ρ : List Slot} : restR ρ0 ρ [] = ρ := rfl
@[simp] theorem s_rC {ρ0 ρ : List Slot} {v : Nat} {vs : List Nat} : restR ρ0 ρ (v :: vs) = (restR ρ0 ρ vs).set v (ρ0.getD v .un) := rfl
end
/-! operators on numbers, sequences -/
section
variable {i j : Int} {a b : List D} {x : D}
@[simp] theorem v_add : addD (.int i) (.int j) = some (.val (.int (i + j))) := rfl
@[simp] theorem v_sub : subD (.int i) (.int j) = some (.val (.int (i - j))) := rfl
@[simp] theorem v_neg : negD (.int i) = some (.val (.int (-i))) := rfl
@[simp] theorem v_mod : modD (.int i) (.int j) = if 0 < j then some (.val (.int (i % j))) else none := rfl
@[simp] theorem v_div : fdivD (.int i) (.int j) = if divOk j = true then some (.val (.int (i / j))) else none := rfl
@[simp] theorem v_mul : mulA (.int i) (.int j) = if mulOk i j = true then some (.val (.int (i * j))) else none := rfl
@[simp] theorem v_lt : ltW (.int i) (.int j) = some (.val (.bl (decide (i < j)))) := rfl
@[simp] theorem v_gt : gtW (.int i) (.int j) = some (.val (.bl (decide (j < i)))) := rfl
@[simp] theorem v_le : leW (.int i) (.int j) = some (.val (.bl (decide (i ≤ j)))) := rfl
@[simp] theorem v_ge : geW (.int i) (.int j) = some (.val (.bl (decide (j ≤ i)))) := rfl
@[simp] theorem v_eq : eqW (.int i) (.int j) = some (.val (.bl (i == j))) := rfl
@[simp] theorem v_ne : neW (.int i) (.int j) = some (.val (.bl (!(i == j)))) := rfl
@[simp] theorem v_eqb {p q : Bool} : eqW (.bl p) (.bl q) = some (.val (.bl (p == q))) := rfl
@[simp] theorem v_int : intW [.int i] = some (.val (.int i)) := rfl
@[simp] theorem v_len1 : lenW [.tup a] = some (.val (.int a.length)) := rfl
@[simp] theorem v_len2 : lenW [.lst a] = some (.val (.int a.length)) := rfl
@[simp] theorem v_tup1 : tupW [.tup a] = some (.val (.tup a)) := rfl
@[simp] theorem v_tup2 : tupW [.lst a] = some (.val (.tup a)) := rfl
@[simp] theorem v_list1 : listW [.tup a] = some (.fresh (.lst a)) := rfl
@[simp] theorem v_list2 : listW [.lst a] = some (.fresh (.lst a)) := rfl
@[simp] theorem v_max2 : max2W [.int i, .int j] = some (.val (.int (if j > i then j else i))) := rfl
@[simp] theorem v_min2 : min2W [.int i, .int j] = some (.val (.int (if j < i then j else i))) := rfl
@[simp] theorem v_get1 : getW (.tup a) (.int i) = (atI a i).map .val := rfl
@[simp] theorem v_get2 : getW (.lst a) (.int i) = (atI a i).map .val := rfl
end
/-- a place that is there -/
theorem at_nat {α : Type} {l : List α} {n : Nat} {x : α} (h : l[n]? = some x) : atI l (n : Int) = some x := atI_nat h
end Dl

namespace Dl
open L2 PySem PySem.Spec PyProof.Rows

/-! ### sizes -/
theorem log2_small {n k : Nat} (h : n < 2 ^ k) (hk : 0 < k) : n.log2 < k := by
  by_cases z : n = 0
  · subst z
    rw [Nat.log2_zero]
    exact hk
  · exact (Nat.log2_lt z).mpr h
theorem mulOk_small {i j : Int} (hi : i.natAbs < 2 ^ 400) (hj : j.natAbs < 2 ^ 400) : mulOk i j = true := by
  have h1 := log2_small hi (by decide)
  have h2 := log2_small hj (by decide)
  simp only [mulOk, decide_eq_true_eq]
  omega
theorem divOk_small {j : Int} (h0 : 0 < j) (hj : j.natAbs < 2 ^ 400) : divOk j = true := by
  have h2 := log2_small hj (by decide)
  simp only [divOk, decide_eq_true_eq]
  exact ⟨h0, by omega⟩
/-! ### loops -/
section
variable {g : D → Stt → Option Stt} {b : Ev Fl} {ds : List D}
/-- a loop that is walked to its end -/
theorem forL_all (P : Nat → Stt → Prop) (h : ∀ i d st, ds[i]? = some d → P i st → ∃ st1 st2, g d st = some st1 ∧ b st1 = .ok .next st2 ∧ P (i + 1) st2) : ∀ {st : Stt}, P 0 st → ∃ st', forL g b ds st = .ok .next st' ∧ P ds.length st' := by
  induction ds generalizing P with
  | nil => exact fun {st} p => ⟨st, rfl, p⟩
  | cons d r ih =>
    intro st p
    obtain ⟨st1, st2, h1, h2, h3⟩ := h 0 d st rfl p
    obtain ⟨st', h4, h5⟩ := ih (fun i => P (i + 1)) (fun i d' s hd hp => h (i + 1) d' s (by simpa using hd) hp) h3
    refine ⟨st', ?_, h5⟩
    simp only [s_forC, h1, h2]
    exact h4
end
section
variable {vs : List Nat} {g : D → Stt → Option Stt} {b : List D → Ev (List D)}
/-- a comprehension that keeps the states in P -/
theorem lcL_all (P : Stt → Prop) (f : D → Option D) : ∀ {ds : List D}, (∀ d ∈ ds, ∀ acc st, P st → acc.length < big → ∃ st1 st2, g d (st.wipe vs) = some st1 ∧ b acc st1 = .ok (acc ++ (f d).toList) st2 ∧ P st2) →
    ∀ {acc : List D} {st : Stt}, P st → acc.length + ds.length ≤ big → ∃ st2, lcL vs g b ds acc st = .ok (acc ++ ds.filterMap f) st2 ∧ P st2
  | [], _, acc, st, p, _ => ⟨st, by simp [lcL], p⟩
  | d :: r, h, acc, st, p, hl => by
    simp only [List.length_cons] at hl
    obtain ⟨st1, st2, h1, h2, h3⟩ := h d List.mem_cons_self acc st p (by omega)
    have hl2 : (acc ++ (f d).toList).length + r.length ≤ big := by
      rw [List.length_append]
      have eb : big = 16777216 := rfl
      cases f d <;> simp [Option.toList] <;> omega
    obtain ⟨st3, h4, h5⟩ := lcL_all P f (ds := r) (fun d' hd => h d' (List.mem_cons_of_mem _ hd)) h3 hl2
    refine ⟨st3, ?_, h5⟩
    simp only [lcL, h1, h2]
    rw [h4]
    cases q : f d <;> simp [List.filterMap_cons, q, Option.toList]
/-- items that change the deck too: P by the items so far -/
theorem lcL_steps (P : List D → Stt → Prop) : ∀ {ds : List D}, (∀ d ∈ ds, ∀ acc st, P acc st → acc.length < big → ∃ st1 st2 y, g d (st.wipe vs) = some st1 ∧ b acc st1 = .ok (acc ++ [y]) st2 ∧ P (acc ++ [y]) st2) →
    ∀ {acc : List D} {st : Stt}, P acc st → acc.length + ds.length ≤ big → ∃ out st2, lcL vs g b ds acc st = .ok out st2 ∧ P out st2 ∧ out.length = acc.length + ds.length
  | [], _, acc, st, p, _ => ⟨acc, st, rfl, p, by simp⟩
  | d :: r, h, acc, st, p, hl => by
    simp only [List.length_cons] at hl
    obtain ⟨st1, st2, y, h1, h2, h3⟩ := h d List.mem_cons_self acc st p (by omega)
    obtain ⟨out, st3, h4, h5, h6⟩ := lcL_steps P (ds := r) (fun d' hd => h d' (List.mem_cons_of_mem _ hd)) h3 (by rw [List.length_append]; simp only [List.length_cons, List.length_nil]; omega)
    refine ⟨out, st3, ?_, h5, ?_⟩
    · simp only [lcL, h1, h2]
      exact h4
    · rw [h6, List.length_append]
      simp only [List.length_cons, List.length_nil]
      omega
end
theorem upTo_get {lo : Int} {n i : Nat} {d : D} (h : (upTo lo n)[i]? = some d) : i < n ∧ d = .int (lo + (i : Int)) := by
  unfold upTo at h
  rw [List.getElem?_map] at h
  obtain ⟨k, hk, rfl⟩ := Option.map_eq_some_iff.mp h
  obtain ⟨hl, e⟩ := List.getElem?_eq_some_iff.mp hk
  rw [List.getElem_range] at e
  subst e
  exact ⟨by simpa using hl, rfl⟩
theorem upTo_len {lo : Int} {n : Nat} : (upTo lo n).length = n := by simp [upTo]
theorem upTo_mem {lo : Int} {n : Nat} {d : D} (h : d ∈ upTo lo n) : ∃ i : Nat, i < n ∧ d = .int (lo + (i : Int)) := by
  unfold upTo at h
  obtain ⟨k, hk, rfl⟩ := List.mem_map.mp h
  exact ⟨k, List.mem_range.mp hk, rfl⟩
/-! ### the deck, in names -/
/-- the deck as it must be; B: the most draws so far -/
structure DkS (B : Int) (k : Dk) : Prop where
  m0 : 0 ≤ k.mixed
  m1 : k.mixed < 4294967296
  d0 : 0 ≤ k.draws
  d1 : k.draws ≤ B
  c : k.cells.length ≤ 63
theorem DkS.mono {B C : Int} {k : Dk} (h : DkS B k) (l : B ≤ C) : DkS C k := ⟨h.m0, h.m1, h.d0, Int.le_trans h.d1 l, h.c⟩
end Dl

namespace Dl
open L2 PySem.Spec
open PySem hiding upTo
open PyProof.Rows hiding inR cutD
/-! ### rows with a length under a bound: never a comparison of deciders -/
section
variable {st st1 st2 : Stt} {m : Ev W} {w : W} {y d : D} {acc ds es : List D}
theorem lcP_ok (h1 : m st = .ok w st1) (h2 : keepW w st1 = .ok y st2) (h3 : acc.length < big) : lcP m acc st = .ok (acc ++ [y]) st2 := by
  unfold lcP
  simp only [h1, h2, if_pos h3]
theorem app_ok (h : ds.length < big) : appD ds [d] = some (ds ++ [d], .non) := if_pos h
theorem ext_ok (h : ds.length + es.length ≤ big) : extD ds [.lst es] = some (ds ++ es, .non) := if_pos h
theorem tup_ok (h : ds.length ≤ big) : tupOf ds st = .ok (.val (.tup ds)) st := if_pos h
theorem lst_ok (h : ds.length ≤ big) : lstOf ds st = .ok (.fresh (.lst ds)) st := if_pos h
theorem tup_ok0 : tupOf [] st = .ok (.val (.tup [])) st := tup_ok (by decide)
theorem tup_ok1 {a : D} : tupOf [a] st = .ok (.val (.tup [a])) st := tup_ok (by show 1 ≤ big; decide)
theorem tup_ok2 {a b : D} : tupOf [a, b] st = .ok (.val (.tup [a, b])) st := tup_ok (by show 2 ≤ big; decide)
theorem tup_ok3 {a b c : D} : tupOf [a, b, c] st = .ok (.val (.tup [a, b, c])) st := tup_ok (by show 3 ≤ big; decide)
theorem lst_ok0 : lstOf [] st = .ok (.fresh (.lst [])) st := lst_ok (by decide)
theorem lst_ok1 {a : D} : lstOf [a] st = .ok (.fresh (.lst [a])) st := lst_ok (by show 1 ≤ big; decide)
theorem lst_ok2 {a b : D} : lstOf [a, b] st = .ok (.fresh (.lst [a, b])) st := lst_ok (by show 2 ≤ big; decide)
theorem lt_big {n m : Nat} (h : n ≤ m) (hm : m < 1000000) : n < big := by
  have eb : big = 16777216 := rfl
  omega
theorem le_big {n m : Nat} (h : n ≤ m) (hm : m < 1000000) : n ≤ big := Nat.le_of_lt (lt_big h hm)
theorem inR_nat {n : Nat} (hn : n ≤ 1000000) : inR (n : Int) = true := by
  have e : ((2 : Int) ^ 62) = 4611686018427387904 := rfl
  unfold inR
  rw [e, Bool.and_eq_true, decide_eq_true_eq, decide_eq_true_eq]
  omega
theorem rng_nat {n : Nat} (hn : n ≤ 1000000) : rng1 [.int (n : Int)] = some (upTo 0 n) := by
  show (if inR (n : Int) = true then some (upTo 0 (n : Int).toNat) else none) = _
  rw [if_pos (inR_nat hn)]
  rfl
end
theorem lcE_ok {vs : List Nat} {r : Ev (List D)} {g : D → Stt → Option Stt} {b : List D → Ev (List D)} {st st1 st2 : Stt} {ds acc : List D} (h1 : r st = .ok ds st1) (h2 : noLv st1 vs = true) (h3 : lcL vs g b ds [] st1 = .ok acc st2) : lcE vs r g b st = .ok (.fresh (.lst acc)) (st2.rest st1 vs) := by
  rw [s_lcE, s_bind, h1]
  simp only
  rw [if_pos h2, h3]
theorem ofL_ok {f : List D → Option (List D)} {r : Ev (List D)} {st st1 : Stt} {ds l : List D} (h1 : r st = .ok ds st1) (h2 : f ds = some l) : ofL f r st = .ok l st1 := by
  rw [s_ofL, s_bind, h1]
  simp only [h2]
theorem noLv1 {st : Stt} {v : Nat} {s : Slot} (h : st.ρ[v]? = some s) (hs : notLv (some s) = true) : noLv st [v] = true := by
  rw [s_nlC, h, hs, s_nlN]
  rfl
section
variable {st st1 st2 : Stt} {i : Nat} {d : D} {w : W} {e : Ev W} {ds es r : List D} {g : D → Stt → Option Stt} {s1 s2 : Ev Fl}
theorem var_lv (h : st.ρ[i]? = some (.lv d)) : eVar i st = .ok (.live i) st := by
  rw [s_var, h]
theorem var_fz (h : st.ρ[i]? = some (.fz d)) : eVar i st = .ok (.val d) st := by
  rw [s_var, h]
theorem expr_ok (h : e st = .ok w st1) : exprS e st = .ok .next st1 := by
  rw [s_expr, s_bind, h]
  rfl
theorem args1 (h : e st = .ok w st1) (hk : keepW w st1 = .ok d st2) : aCons e aNil st = .ok [d] st2 := by
  rw [s_aCons, s_bind, h]
  simp only [s_bind, hk, s_aNil, s_ok]
theorem meth_ok {f : List D → List D → Option (List D × D)} {ra : Ev (List D)} {as ds' : List D} (h0 : st.ρ[i]? = some (.lv (.lst ds))) (ha : ra st = .ok as st1) (h1 : st1.ρ[i]? = some (.lv (.lst es))) (hf : f es as = some (ds', d)) :
    methL f (eVar i) ra st = .ok (.val d) (st1.put i (.lv (.lst ds'))) := by
  have hm : mutL f (.live i) as st1 = .ok (.val d) (st1.put i (.lv (.lst ds'))) := by
    rw [s_mut, h1]
    simp only [hf]
  rw [s_meth, s_bind, var_lv h0]
  simp only [s_cl, h0, s_bind, ha, hm]
theorem append_ok (h0 : st.ρ[i]? = some (.lv (.lst ds))) (he : e st = .ok w st1) (hk : keepW w st1 = .ok d st2) (h1 : st2.ρ[i]? = some (.lv (.lst es))) (hl : es.length < big) :
    exprS (methL appD (eVar i) (aCons e aNil)) st = .ok .next (st2.put i (.lv (.lst (es ++ [d])))) :=
  expr_ok (meth_ok h0 (args1 he hk) h1 (app_ok hl))
theorem extend_ok {xs : List D} (h0 : st.ρ[i]? = some (.lv (.lst ds))) (he : e st = .ok (.fresh (.lst xs)) st1) (h1 : st1.ρ[i]? = some (.lv (.lst es))) (hl : es.length + xs.length ≤ big) :
    exprS (methL extD (eVar i) (aCons e aNil)) st = .ok .next (st1.put i (.lv (.lst (es ++ xs)))) :=
  expr_ok (meth_ok h0 (args1 he rfl) h1 (ext_ok hl))
theorem for_step (hg : g d st = some st1) (hb : s1 st1 = .ok .next st2) : forL g s1 (d :: r) st = forL g s1 r st2 := by
  rw [s_forC, hg]
  simp only [hb]
theorem for_ok {m : Ev (List D)} {f : Fl} (hm : m st = .ok ds st1) (hb : forL g s1 ds st1 = .ok f st2) : forS m g s1 st = .ok f st2 := by
  rw [s_for, s_bind, hm]
  exact hb
theorem seq_ok {f : Fl} (h1 : s1 st = .ok .next st1) (h2 : s2 st1 = .ok f st2) : seqS s1 s2 st = .ok f st2 := by
  rw [s_seq, h1]
  exact h2
theorem seq_to (h1 : s1 st = .ok .next st1) : seqS s1 s2 st = s2 st1 := by
  rw [s_seq, h1]
theorem set_v (h : e st = .ok (.val d) st1) : setS i e st = .ok .next (st1.put i (.fz d)) := by
  rw [s_set, s_bind, h]
  rfl
theorem set_f (h : e st = .ok (.fresh d) st1) : setS i e st = .ok .next (st1.put i (.lv d)) := by
  rw [s_set, s_bind, h]
  rfl
theorem ret_ok (h : e st = .ok w st1) (hk : keepW w st1 = .ok d st2) : retS e st = .ok (.ret d) st2 := by
  rw [s_ret, s_bind, h]
  simp only [s_bind, hk, s_ok]
theorem if_t {mt : Ev Bool} {f : Fl} (h : mt st = .ok true st1) (h1 : s1 st1 = .ok f st2) : ifS mt s1 s2 st = .ok f st2 := by
  rw [s_if, s_bind, h]
  exact h1
theorem if_f {mt : Ev Bool} {f : Fl} (h : mt st = .ok false st1) (h1 : s2 st1 = .ok f st2) : ifS mt s1 s2 st = .ok f st2 := by
  rw [s_if, s_bind, h]
  exact h1
theorem ifN_f {mt : Ev Bool} (h : mt st = .ok false st1) : ifS mt s1 (okE .next) st = .ok .next st1 := if_f h rfl
theorem run_ret {n : Nat} {b : Ev Fl} {as : List D} {dk : Option Dk} {st' : Stt} {x : D} (h : b st = .ok (.ret x) st') (hs : st = ⟨as.map .fz ++ List.replicate (n - as.length) .un, dk⟩) : runF n b as dk = .ok x st'.dk := by
  subst hs
  unfold runF
  rw [h]
theorem run_non {n : Nat} {b : Ev Fl} {as : List D} {dk : Option Dk} {st' : Stt} (h : b st = .ok .next st') (hs : st = ⟨as.map .fz ++ List.replicate (n - as.length) .un, dk⟩) : runF n b as dk = .ok .non st'.dk := by
  subst hs
  unfold runF
  rw [h]
theorem rc_nil : rNil st = .ok [] st := rfl
theorem rc_cons {r : Ev (List W)} {ws : List W} (h : e st = .ok w st1) (h2 : r st1 = .ok ws st2) : rCons e r st = .ok (w :: ws) st2 := by
  rw [s_rCons, s_bind, h]
  simp only [s_bind, h2, s_ok]
theorem bc_cons {r : Ev (List W)} {ws : List W} (h : e st = .ok w st1) (h2 : r st1 = .ok ws st2) : bCons e r st = .ok (unfresh w :: ws) st2 := by
  rw [s_bCons, s_bind, h]
  simp only [s_bind, h2, s_ok]
theorem bc_nil : bNil st = .ok [] st := rfl
theorem ac_cons {r : Ev (List D)} {st3 : Stt} {xs : List D} (h : e st = .ok w st1) (hk : keepW w st1 = .ok d st2) (h2 : r st2 = .ok xs st3) : aCons e r st = .ok (d :: xs) st3 := by
  rw [s_aCons, s_bind, h]
  simp only [s_bind, hk, h2, s_ok]
theorem ac_nil : aNil st = .ok [] st := rfl
theorem tupM {r : Ev (List D)} (h : r st = .ok ds st1) (hl : ds.length ≤ big) : bindE r tupOf st = .ok (.val (.tup ds)) st1 := by
  rw [s_bind, h]
  exact tup_ok hl
theorem lstM {r : Ev (List D)} (h : r st = .ok ds st1) (hl : ds.length ≤ big) : bindE r lstOf st = .ok (.fresh (.lst ds)) st1 := by
  rw [s_bind, h]
  exact lst_ok hl
theorem op2_ok {f : D → D → Option W} {ma mb : Ev W} {w1 w2 : W} {d1 d2 : D} (h1 : ma st = .ok w1 st1) (h2 : mb st1 = .ok w2 st2) (c1 : content st2 w1 = some d1) (c2 : content st2 w2 = some d2) (hf : f d1 d2 = some w) : op2 f ma mb st = .ok w st2 := by
  rw [s_op2, s_bind, h1]
  simp only [s_bind, h2, s_app2, c1, c2, hf]
theorem op1_ok {f : D → Option W} {ma : Ev W} {w1 : W} {d1 : D} (h1 : ma st = .ok w1 st1) (c1 : content st1 w1 = some d1) (hf : f d1 = some w) : op1 f ma st = .ok w st1 := by
  rw [s_op1, s_bind, h1]
  simp only [s_app1, c1, hf]
theorem blt_ok {f : List D → Option W} {r : Ev (List W)} {ws : List W} (h1 : r st = .ok ws st1) (c1 : contents st1 ws = some ds) (hf : f ds = some w) : bltE f r st = .ok w st1 := by
  rw [s_blt, s_bind, h1]
  simp only [c1, hf]
theorem tst_ok {f : D → Option Bool} {b : Bool} (h : e st = .ok w st1) (c : content st1 w = some d) (hf : f d = some b) : eTst f e st = .ok b st1 := by
  rw [s_tst, s_bind, h]
  simp only [c, hf]
theorem call_ok {F : List D → Option Dk → RF} {n : Nat} {perm : List Nat} {dfs : List D} {rb : Ev (List W)} {ws : List W} {ds as : List D} {x : D} {dk' : Option Dk} (h : rb st = .ok ws st1) (hn : ws.length = n) (c : contents st1 ws = some ds) (hg : gather perm (ds ++ dfs) = as) (hF : F as st1.dk = .ok x dk') (hx : noMut x = true) :
    callE F perm dfs n rb st = .ok (.val x) (st1.deck dk') := by
  rw [s_call, s_bind, h]
  simp only [if_pos hn, s_callW, c, hg, hF, if_pos hx]
/-- a result with containers: the names handed in stand from now on -/
theorem call_mut {F : List D → Option Dk → RF} {n : Nat} {perm : List Nat} {dfs : List D} {rb : Ev (List W)} {ws : List W} {ds as : List D} {x : D} {dk' : Option Dk} (h : rb st = .ok ws st1) (hn : ws.length = n) (c : contents st1 ws = some ds) (hg : gather perm (ds ++ dfs) = as) (hF : F as st1.dk = .ok x dk') (hx : ¬ noMut x = true) :
    callE F perm dfs n rb st = .ok (.val x) ((frzAll ws st1).deck dk') := by
  rw [s_call, s_bind, h]
  simp only [if_pos hn, s_callW, c, hg, hF, if_neg hx]
theorem callK_ok {F : List D → Option Dk → RF} {n k : Nat} {perm : List Nat} {dfs : List D} {rb rq : Ev (List W)} {ws us : List W} {ds as : List D} {x : D} {dk' : Option Dk} (h : rb st = .ok ws st1) (h' : rq st1 = .ok us st2) (hn : ws.length = n ∧ us.length = k) (c : contents st2 (ws ++ us) = some ds) (hg : gather perm (ds ++ dfs) = as) (hF : F as st2.dk = .ok x dk') (hx : noMut x = true) :
    callK F perm dfs n k rb rq st = .ok (.val x) (st2.deck dk') := by
  rw [s_callK, s_bind, h]
  simp only [s_bind, h', if_pos hn, s_callW, c, hg, hF, if_pos hx]
theorem pars_ok {is : List Nat} {ra : Ev (List W)} {ws rs : List W} {st3 : Stt} (h : ra st = .ok ws st1) (h2 : resoW ws st1 = .ok rs st2) (h3 : putA is rs st2 = some st3) : parS is ra st = .ok .next st3 := by
  rw [s_par, s_bind, h]
  simp only [s_bind, h2, h3]
theorem rgB_nat {n : Nat} (hn : n ≤ 1000000) : rgB 0 (n : Int) = true := by
  unfold rgB
  rw [inR_nat hn, show inR 0 = true from rfl]
  rw [Bool.true_and, Bool.true_and, decide_eq_true_eq]
  omega
theorem rg_ok {n : Nat} (h : e st = .ok w st1) (c : content st1 w = some (.int (n : Int))) (hn : n ≤ 1000000) : rgE false e st = .ok (.fresh (.lst (upTo 0 n))) st1 := by
  unfold rgE
  rw [s_bind, h]
  simp only [c, if_pos (rgB_nat hn)]
  rfl
theorem asg_ok {g : D → Stt → Option Stt} {st3 : Stt} (h : e st = .ok w st1) (hk : keepW w st1 = .ok d st2) (hg : g d st2 = some st3) : asgS e g st = .ok .next st3 := by
  rw [s_asg, s_bind, h]
  simp only [s_bind, hk, hg]
theorem get_lst {n : Nat} {x : D} (h : ds[n]? = some x) : getW (.lst ds) (.int (n : Int)) = some (.val x) := by
  rw [v_get2, at_nat h]
  rfl
theorem get_tup {n : Nat} {x : D} (h : ds[n]? = some x) : getW (.tup ds) (.int (n : Int)) = some (.val x) := by
  rw [v_get1, at_nat h]
  rfl
theorem popAt_ok {r : Nat} (hr : r < ds.length) (hs : r ≤ 1000000) : popAtD ds [.int (r : Int)] = some (ds.eraseIdx r, ds[r]) := by
  have e1 : seqIndex? (r : Int) ds.length = some r := by
    unfold seqIndex?
    have a1 : ¬ ((r : Int) < 0) := by omega
    have a2 : ((r : Int) < (ds.length : Int)) := by omega
    simp [a1, hr]
  show (if inR (r : Int) = true then (seqIndex? (r : Int) ds.length).bind fun k => (ds[k]?).map fun d => (ds.eraseIdx k, d) else none) = _
  rw [if_pos (inR_nat hs), e1, Option.bind_some, List.getElem?_eq_getElem hr]
  rfl
theorem erase_perm {α : Type} : ∀ {l : List α} {r : Nat} (h : r < l.length), (l[r] :: l.eraseIdx r).Perm l
  | _ :: _, 0, _ => List.Perm.refl _
  | x :: l, r + 1, h => (List.Perm.swap x (l[r]'(Nat.lt_of_succ_lt_succ h)) (l.eraseIdx r)).trans (List.Perm.cons x (erase_perm (Nat.lt_of_succ_lt_succ h)))
theorem bc_v {r : Ev (List W)} {ws : List W} (h : e st = .ok (.val d) st1) (h2 : r st1 = .ok ws st2) : bCons e r st = .ok (.val d :: ws) st2 := bc_cons h h2
theorem bc_f {r : Ev (List W)} {ws : List W} (h : e st = .ok (.fresh d) st1) (h2 : r st1 = .ok ws st2) : bCons e r st = .ok (.val d :: ws) st2 := bc_cons h h2
theorem bc_l {r : Ev (List W)} {ws : List W} (h : e st = .ok (.live i) st1) (h2 : r st1 = .ok ws st2) : bCons e r st = .ok (.live i :: ws) st2 := bc_cons h h2
theorem len_ok (h : e st = .ok w st1) (c : content st1 w = some (.lst ds)) : bltE lenW (rCons e rNil) st = .ok (.val (.int (ds.length : Nat))) st1 :=
  blt_ok (ds := [.lst ds]) (rc_cons h rc_nil) (by rw [s_ctC, c, s_ctN]) rfl
theorem erase_map {α β : Type} {f : α → β} : ∀ {l : List α} {r : Nat}, (l.map f).eraseIdx r = (l.eraseIdx r).map f
  | [], _ => rfl
  | _ :: _, 0 => rfl
  | x :: l, r + 1 => by
    show f x :: (l.map f).eraseIdx r = f x :: (l.eraseIdx r).map f
    rw [erase_map]
end
end Dl

namespace Dl
open L2 PySem.Spec
open PySem hiding upTo
open PyProof.Rows hiding inR cutD
/-! ### data as images of plain values -/
/-- f codes plain values: == is = -/
structure Cod {α : Type} [DecidableEq α] (f : α → D) (n : Nat) : Prop where
  ok : ∀ m a, n ≤ m → okD m (f a) = true
  eq : ∀ a b, eqd (f a) (f b) = decide (a = b)
section
variable {α β : Type} [DecidableEq α] [DecidableEq β] {f : α → D} {g : β → D} {n m : Nat}
theorem Cod.eqL (c : Cod f n) : ∀ l k : List α, eqdL (l.map f) (k.map f) = decide (l = k)
  | [], [] => by simp [eqdL]
  | [], _ :: _ => by simp [eqdL]
  | _ :: _, [] => by simp [eqdL]
  | a :: l, b :: k => by
    rw [List.map_cons, List.map_cons]
    unfold eqdL
    rw [c.eq, c.eqL l k]
    by_cases h1 : a = b <;> by_cases h2 : l = k <;> simp [h1, h2]
theorem Cod.allOk (c : Cod f n) {k : Nat} (h : n ≤ k) (l : List α) : (l.map f).all (okD k) = true := by
  rw [List.all_eq_true]
  intro d hd
  obtain ⟨a, _, rfl⟩ := List.mem_map.mp hd
  exact c.ok k a h
theorem Cod.lst (c : Cod f n) : Cod (fun l : List α => D.lst (l.map f)) (n + 1) where
  ok m l h := by
    obtain ⟨k, rfl⟩ : ∃ k, m = k + 1 := ⟨m - 1, by omega⟩
    exact c.allOk (by omega) l
  eq a b := c.eqL a b
theorem Cod.tup (c : Cod f n) : Cod (fun l : List α => D.tup (l.map f)) (n + 1) where
  ok m l h := by
    obtain ⟨k, rfl⟩ : ∃ k, m = k + 1 := ⟨m - 1, by omega⟩
    exact c.allOk (by omega) l
  eq a b := c.eqL a b
theorem Cod.pair (c : Cod f n) (e : Cod g n) : Cod (fun p : α × β => D.tup [f p.1, g p.2]) (n + 1) where
  ok m p h := by
    obtain ⟨k, rfl⟩ : ∃ k, m = k + 1 := ⟨m - 1, by omega⟩
    show ([f p.1, g p.2] : List D).all (okD k) = true
    simp only [List.all_cons, List.all_nil, c.ok k p.1 (by omega), e.ok k p.2 (by omega), Bool.and_self]
  eq a b := by
    show eqdL [f a.1, g a.2] [f b.1, g b.2] = _
    unfold eqdL
    unfold eqdL
    unfold eqdL
    rw [c.eq, e.eq]
    obtain ⟨a1, a2⟩ := a
    obtain ⟨b1, b2⟩ := b
    by_cases h1 : a1 = b1 <;> by_cases h2 : a2 = b2 <;> simp [h1, h2]
theorem Cod.eqW (c : Cod f n) (h : n ≤ 64) (a b : α) : eqW (f a) (f b) = some (.val (.bl (decide (a = b)))) := by
  unfold Dl.eqW
  rw [if_pos ⟨c.ok 64 a h, c.ok 64 b h⟩, c.eq]
theorem Cod.neW (c : Cod f n) (h : n ≤ 64) (a b : α) : neW (f a) (f b) = some (.val (.bl (!decide (a = b)))) := by
  unfold Dl.neW
  rw [if_pos ⟨c.ok 64 a h, c.ok 64 b h⟩, c.eq]
theorem Cod.inj (c : Cod f n) {a b : α} (h : f a = f b) : a = b := by
  have e1 := c.eq a b
  rw [h, c.eq b b] at e1
  simpa using e1
theorem cod_nat : Cod (fun n : Nat => D.int (n : Int)) 0 where
  ok m a _ := by cases m <;> rfl
  eq a b := by
    show ((a : Int) == (b : Int)) = decide (a = b)
    by_cases h : a = b
    · subst h; simp
    · have : ¬ (a : Int) = b := by omega
      simp [h, this]
end
/-! ### sorting -/
section
variable {α : Type} {f : α → D} {le : α → α → Bool}
theorem sort_map (h : ∀ a b, leD (f a) (f b) = le a b) (l : List α) : sortD (l.map f) = (l.mergeSort le).map f :=
  (List.map_mergeSort fun a _ b _ => (h a b).symm).symm
theorem leD_eq (a b : D) : leD a b = !PySem.W.dataLt (py b) (py a) := rfl
theorem ltn_pair {a b c d : PyData} (h : PySem.W.alike a c = true) (h' : PySem.W.alike b d = true) : PySem.W.dataLt (.tuple [a, b]) (.tuple [c, d]) = if PyData.eqv a c = true then (if PyData.eqv b d = true then false else PySem.W.dataLt b d) else PySem.W.dataLt a c := PySem.W.dataLt_pair h h'
end
end Dl

namespace Dl
open L2 PySem.Spec
open PySem hiding upTo
open PyProof.Rows hiding inR cutD
section
variable {st st1 st2 st3 : Stt} {w w1 w2 w3 : W} {d d1 d2 d3 : D} {m m1 m2 m3 : Ev W} {mt mu : Ev Bool} {ds : List D}
theorem and_t (h1 : m1 st = .ok w1 st1) (c : content st1 w1 = some (.bl true)) (h2 : m2 st1 = .ok w st2) : andV m1 m2 st = .ok w st2 := by
  rw [s_and, s_bind, h1]
  simp only [s_ifW, c, h2]
theorem and_f (h1 : m1 st = .ok w1 st1) (c : content st1 w1 = some (.bl false)) : andV m1 m2 st = .ok (.val (.bl false)) st1 := by
  rw [s_and, s_bind, h1]
  simp only [s_ifW, c, s_c]
theorem orT_f {b : Bool} (h1 : mt st = .ok false st1) (h2 : mu st1 = .ok b st2) : orT mt mu st = .ok b st2 := by
  rw [s_orT, s_bind, h1]
  exact h2
theorem andT_f (h1 : mt st = .ok false st1) : andT mt mu st = .ok false st1 := by
  rw [s_andT, s_bind, h1]
  rfl
theorem andT_t {b : Bool} (h1 : mt st = .ok true st1) (h2 : mu st1 = .ok b st2) : andT mt mu st = .ok b st2 := by
  rw [s_andT, s_bind, h1]
  exact h2
/-- if not … -/
theorem notT {b : Bool} (h1 : mt st = .ok b st1) : bindE mt (fun b => okE (!b)) st = .ok (!b) st1 := by
  rw [s_bind, h1]
  rfl
theorem not_t (h1 : m st = .ok w st1) (c : content st1 w = some (.bl true)) : bindE (eTst truthD m) (fun b => okE (!b)) st = .ok false st1 := notT (b := true) (tst_ok h1 c rfl)
theorem isi_ok {T : String} {b : Bool} (h1 : m st = .ok w st1) (c : content st1 w = some d) (hi : isiB T d = some b) : isiE T m st = .ok (.val (.bl b)) st1 := by
  rw [s_isi, s_bind, h1]
  simp only [c, hi]
theorem chain_t {f g : D → D → Option W} (h1 : m1 st = .ok w1 st1) (h2 : m2 st1 = .ok w2 st2) (c1 : content st2 w1 = some d1) (c2 : content st2 w2 = some d2) (hf : f d1 d2 = some (.val (.bl true))) (h3 : m3 st2 = .ok w3 st3) (c3 : content st3 w2 = some d2) (c4 : content st3 w3 = some d3) (hg : g d2 d3 = some w) :
    chainE f g m1 m2 m3 st = .ok w st3 := by
  rw [s_chain, s_bind, h1]
  simp only [s_bind, h2, s_app2, c1, c2, hf, s_ifW, s_cv, h3, c3, c4, hg]
theorem ifE_t (h1 : mt st = .ok true st1) (h2 : m1 st1 = .ok w st2) : ifE mt m1 m2 st = .ok w st2 := by
  rw [s_ifE, s_bind, h1]
  exact h2
theorem ifE_f (h1 : mt st = .ok false st1) (h2 : m2 st1 = .ok w st2) : ifE mt m1 m2 st = .ok w st2 := by
  rw [s_ifE, s_bind, h1]
  exact h2
theorem seqM_ok (h1 : m st = .ok w st1) (hk : keepW w st1 = .ok d st2) (hi : itemsOf d = some ds) : seqM m st = .ok ds st2 := by
  rw [s_seqM, s_bind, h1]
  simp only [s_bind, hk, hi]
/-! ### comprehensions -/
theorem lcB_t {k : List D → Ev (List D)} {acc : List D} : lcB (okE true) k acc st = k acc st := rfl
theorem lcB_ok {k : List D → Ev (List D)} {acc : List D} {b : Bool} (h : mt st = .ok b st1) : lcB mt k acc st = if b = true then k acc st1 else .ok acc st1 := by
  unfold lcB
  rw [h]
  cases b <;> rfl
theorem lcI_ok {r : Ev (List D)} {k : List D → List D → Ev (List D)} {acc : List D} (h : r st = .ok ds st1) : lcI r k acc st = k ds acc st1 := by
  unfold lcI
  rw [h]
section
variable {vs : List Nat} {g : D → Stt → Option Stt} {b : List D → Ev (List D)}
/-- a comprehension that adds some items for each -/
theorem lcL_flat (P : Stt → Prop) (f : D → List D) : ∀ {ds : List D}, (∀ d ∈ ds, ∀ acc st, P st → acc.length + (f d).length ≤ big → ∃ st1 st2, g d (st.wipe vs) = some st1 ∧ b acc st1 = .ok (acc ++ f d) st2 ∧ P st2) →
    ∀ {acc : List D} {st : Stt}, P st → acc.length + (ds.flatMap f).length ≤ big → ∃ st2, lcL vs g b ds acc st = .ok (acc ++ ds.flatMap f) st2 ∧ P st2
  | [], _, acc, st, p, _ => ⟨st, by simp [lcL], p⟩
  | d :: r, h, acc, st, p, hl => by
    rw [List.flatMap_cons, List.length_append] at hl
    obtain ⟨st1, st2, h1, h2, h3⟩ := h d List.mem_cons_self acc st p (by omega)
    have hl2 : (acc ++ f d).length + (r.flatMap f).length ≤ big := by
      rw [List.length_append]
      omega
    obtain ⟨st3, h4, h5⟩ := lcL_flat P f (ds := r) (fun d' hd => h d' (List.mem_cons_of_mem _ hd)) h3 hl2
    refine ⟨st3, ?_, h5⟩
    simp only [lcL, h1, h2]
    rw [h4, List.flatMap_cons, List.append_assoc]
end
/-- one name, a test or none: what is kept -/
theorem lc_some {v : Nat} {r : Ev (List D)} {b : List D → Ev (List D)} {f : D → Option D} {s : Slot} (h1 : r st = .ok ds st1) (hv : st1.ρ[v]? = some s) (hs : notLv (some s) = true)
    (hb : ∀ d ∈ ds, ∀ acc : List D, acc.length < big → b acc ⟨st1.ρ.set v (.fz d), st1.dk⟩ = .ok (acc ++ (f d).toList) ⟨st1.ρ.set v (.fz d), st1.dk⟩) (hl : ds.length ≤ big) : lcE [v] r (nmG v) b st = .ok (.fresh (.lst (ds.filterMap f))) st1 := by
  obtain ⟨st2, h2, s2, rfl⟩ := lcL_all (vs := [v]) (g := nmG v) (b := b) (fun st => ∃ s, st = ⟨st1.ρ.set v s, st1.dk⟩) f (ds := ds) (by
    rintro d hd acc st ⟨s', rfl⟩ ha
    refine ⟨⟨st1.ρ.set v (.fz d), st1.dk⟩, ⟨st1.ρ.set v (.fz d), st1.dk⟩, ?_, hb d hd acc ha, _, rfl⟩
    show some (Stt.mk (((st1.ρ.set v s').set v .un).set v (.fz d)) st1.dk) = _
    rw [List.set_set, List.set_set]) (acc := []) (st := ⟨st1.ρ.set v s, st1.dk⟩) ⟨s, rfl⟩ (by rw [List.length_nil]; omega)
  have e1 : (⟨st1.ρ.set v s, st1.dk⟩ : Stt) = st1 := by
    obtain ⟨hv1, hv2⟩ := List.getElem?_eq_some_iff.mp hv
    rw [← hv2, List.set_getElem_self]
  rw [e1, List.nil_append] at h2
  rw [lcE_ok h1 (noLv1 hv hs) h2]
  have e2 : (Stt.mk (st1.ρ.set v s2) st1.dk).rest st1 [v] = st1 := by
    show Stt.mk ((st1.ρ.set v s2).set v (st1.ρ.getD v .un)) st1.dk = st1
    have e3 : st1.ρ.getD v .un = s := by rw [List.getD_eq_getElem?_getD, hv]; rfl
    rw [List.set_set, e3]
    exact e1
  rw [e2]
theorem lc_map {v : Nat} {r : Ev (List D)} {f : D → D} {s : Slot} (h1 : r st = .ok ds st1) (hv : st1.ρ[v]? = some s) (hs : notLv (some s) = true)
    (hm : ∀ d ∈ ds, m ⟨st1.ρ.set v (.fz d), st1.dk⟩ = .ok (.val (f d)) ⟨st1.ρ.set v (.fz d), st1.dk⟩) (hl : ds.length ≤ big) : lcE [v] r (nmG v) (lcB (okE true) (lcP m)) st = .ok (.fresh (.lst (ds.map f))) st1 := by
  rw [lc_some (b := lcB (okE true) (lcP m)) (f := fun d => some (f d)) h1 hv hs (fun d hd acc ha => lcP_ok (hm d hd) rfl ha) hl]
  rw [← List.filterMap_eq_map]
  rfl
theorem blsOf_map : ∀ bs : List Bool, blsOf (bs.map .bl) = some bs
  | [] => rfl
  | b :: r => by
    show (blsOf (r.map .bl)).map (b :: ·) = _
    rw [blsOf_map r]
    rfl
theorem all_true (ds : List D) : allW [.lst (ds.map fun _ => .bl true)] = some (.val (.bl true)) := by
  have e : (ds.map fun _ => D.bl true) = (ds.map fun _ => true).map .bl := by rw [List.map_map]; rfl
  show (blsOf _).map _ = _
  rw [e, blsOf_map]
  show some (W.val (.bl ((ds.map fun _ => true).all id))) = _
  have : (ds.map fun _ => true).all id = true := by simp
  rw [this]
end
end Dl

namespace Dl
open L2 PySem.Spec
open PySem hiding upTo
open PyProof.Rows hiding inR cutD
/-! ### texts of data -/
mutual
/-- None, bools, numbers, tuples of such -/
def tpD : D → Bool
  | .non => true
  | .bl _ => true
  | .int _ => true
  | .tup ds => tpL ds
  | _ => false
def tpL : List D → Bool
  | [] => true
  | d :: r => tpD d && tpL r
end
theorem tupleText_free {k : Nat} (hk : 128 ≤ k) {ts : List Str} (h : ∀ t ∈ ts, k ∉ t.cps.toList) : k ∉ (tupleText ts).cps.toList := by
  unfold tupleText
  rw [mem_cps_append, mem_cps_append, signs_lparen, mem_join, signs_sep]
  rintro ((hm | (⟨t, ht, hc⟩ | ⟨_, hc⟩)) | hm)
  · simp at hm
    omega
  · exact h t ht hc
  · simp at hc
    omega
  · by_cases h1 : (ts.length == 1) = true
    · rw [if_pos h1] at hm
      have e : (((",)" : String)) : Str).cps.toList = [44, 41] := by decide
      rw [e] at hm
      simp at hm
      omega
    · rw [if_neg h1] at hm
      have e : (((")" : String)) : Str).cps.toList = [41] := by decide
      rw [e] at hm
      simp at hm
      omega
mutual
theorem text_free {k : Nat} (hk : 128 ≤ k) : ∀ d : D, tpD d = true → k ∉ (py d).shown.cps.toList
  | .non, _ => by
    simp only [py]
    rw [PyData.shown_none]
    have e : (("None" : String) : Str).cps.toList = [78, 111, 110, 101] := by decide
    rw [e]
    simp
    omega
  | .bl b, _ => by
    simp only [py]
    rw [PyData.shown_bool]
    cases b
    · show k ∉ (Str.ofString "False").cps.toList
      have e : (Str.ofString "False").cps.toList = [70, 97, 108, 115, 101] := by decide
      rw [e]
      simp
      omega
    · show k ∉ (Str.ofString "True").cps.toList
      have e : (Str.ofString "True").cps.toList = [84, 114, 117, 101] := by decide
      rw [e]
      simp
      omega
  | .int i, _ => by
    simp only [py]
    exact shown_int_free' ⟨by omega, by omega⟩ i
  | .tup ds, h => by
    have h' : tpL ds = true := by simpa [tpD] using h
    simp only [py, PyData.shown]
    exact tupleText_free hk (texts_free hk ds h')
  | .str _, h => by simp [tpD] at h
  | .lst _, h => by simp [tpD] at h
  | .dct _ _ _, h => by simp [tpD] at h
  | .deck, h => by simp [tpD] at h
  | .scr _, h => by simp [tpD] at h
theorem texts_free {k : Nat} (hk : 128 ≤ k) : ∀ ds : List D, tpL ds = true → ∀ t ∈ PyData.shownAll (pyL ds), k ∉ t.cps.toList
  | [], _, t, ht => by simp [pyL, PyData.shownAll] at ht
  | d :: r, h, t, ht => by
    have h' : tpD d = true ∧ tpL r = true := by simpa [tpL] using h
    simp only [pyL, PyData.shownAll, List.mem_cons] at ht
    rcases ht with rfl | ht
    · exact text_free hk d h'.1
    · exact texts_free hk r h'.2 t ht
end
theorem text_ok {d : D} (h : tpD d = true) : PyData.strOk (textOf d) = true := by
  unfold PyData.strOk
  rw [← Array.all_toList, List.all_eq_true]
  intro k hm
  rw [decide_eq_true_eq]
  by_cases hk : k < 128
  · omega
  · exact absurd hm (text_free (by omega) d h)
/-- data whose text can be made -/
structure Rep (d : D) : Prop where
  ok : okD 64 d = true
  sh : showD d = true
  wg : wgt d ≤ big
  tp : tpD d = true
theorem Rep.w {d : D} (h : Rep d) : reprW [d] = some (.val (.str (textOf d))) := if_pos ⟨h.ok, h.sh, h.wg⟩
theorem strOkD {x : Str} (h : PyData.strOk x = true) : okD 64 (.str x) = true := h
theorem Rep.ne {d : D} (h : Rep d) : neW (.str (textOf d)) (.str (textOf d)) = some (.val (.bl false)) := by
  unfold Dl.neW
  rw [if_pos ⟨strOkD (text_ok h.tp), strOkD (text_ok h.tp)⟩]
  simp [eqd]
theorem Rep.eq {d : D} (h : Rep d) : eqW (.str (textOf d)) (.str (textOf d)) = some (.val (.bl true)) := by
  unfold Dl.eqW
  rw [if_pos ⟨strOkD (text_ok h.tp), strOkD (text_ok h.tp)⟩]
  simp [eqd]
section
variable {st st1 st2 : Stt} {w1 w2 : W} {d : D} {m1 m2 : Ev W}
theorem repr_ne (h : Rep d) (h1 : m1 st = .ok w1 st1) (c1 : content st1 w1 = some d) (h2 : m2 st1 = .ok w2 st2) (c2 : content st2 w2 = some d) :
    op2 neW (bltE reprW (rCons m1 rNil)) (bltE reprW (rCons m2 rNil)) st = .ok (.val (.bl false)) st2 :=
  op2_ok (blt_ok (ds := [d]) (rc_cons h1 rc_nil) (by rw [s_ctC, c1, s_ctN]) h.w) (blt_ok (ds := [d]) (rc_cons h2 rc_nil) (by rw [s_ctC, c2, s_ctN]) h.w) rfl rfl h.ne
theorem repr_eq (h : Rep d) (h1 : m1 st = .ok w1 st1) (c1 : content st1 w1 = some d) (h2 : m2 st1 = .ok w2 st2) (c2 : content st2 w2 = some d) :
    op2 eqW (bltE reprW (rCons m1 rNil)) (bltE reprW (rCons m2 rNil)) st = .ok (.val (.bl true)) st2 :=
  op2_ok (blt_ok (ds := [d]) (rc_cons h1 rc_nil) (by rw [s_ctC, c1, s_ctN]) h.w) (blt_ok (ds := [d]) (rc_cons h2 rc_nil) (by rw [s_ctC, c2, s_ctN]) h.w) rfl rfl h.eq
/-- if repr(…) != repr(…): return … -/
theorem repr_if {s1 : Ev Fl} (h : Rep d) (h1 : m1 st = .ok w1 st1) (c1 : content st1 w1 = some d) (h2 : m2 st1 = .ok w2 st2) (c2 : content st2 w2 = some d) :
    ifS (eTst truthB (op2 neW (bltE reprW (rCons m1 rNil)) (bltE reprW (rCons m2 rNil)))) s1 (okE .next) st = .ok .next st2 :=
  ifN_f (tst_ok (repr_ne h h1 c1 h2 c2) rfl rfl)
end
/-- a comprehension of at most L items that changes the deck too -/
theorem lcL_upto {vs : List Nat} {g : D → Stt → Option Stt} {b : List D → Ev (List D)} (L : Nat) (hL : L ≤ big) (P : List D → Stt → Prop) : ∀ {ds : List D}, (∀ d ∈ ds, ∀ acc st, P acc st → acc.length < L → ∃ st1 st2 y, g d (st.wipe vs) = some st1 ∧ b acc st1 = .ok (acc ++ [y]) st2 ∧ P (acc ++ [y]) st2) →
    ∀ {acc : List D} {st : Stt}, P acc st → acc.length + ds.length ≤ L → ∃ out st2, lcL vs g b ds acc st = .ok out st2 ∧ P out st2 ∧ out.length = acc.length + ds.length
  | [], _, acc, st, p, _ => ⟨acc, st, rfl, p, by simp⟩
  | d :: r, h, acc, st, p, hl => by
    simp only [List.length_cons] at hl
    obtain ⟨st1, st2, y, h1, h2, h3⟩ := h d List.mem_cons_self acc st p (by omega)
    obtain ⟨out, st3, h4, h5, h6⟩ := lcL_upto L hL P (ds := r) (fun d' hd => h d' (List.mem_cons_of_mem _ hd)) h3 (by rw [List.length_append]; simp only [List.length_cons, List.length_nil]; omega)
    refine ⟨out, st3, ?_, h5, ?_⟩
    · simp only [lcL, h1, h2]
      exact h4
    · rw [h6, List.length_append]
      simp only [List.length_cons, List.length_nil]
      omega
end Dl

namespace Dl
open PySem PySem.Spec PyProof.Rows L2

/-! ### own exceptions: a class C below one class F below Exception; its __init__ stores its one argument as the field f -/
abbrev exTl : List Value := [.type "Exception", .type "BaseException", .type "object"]
/-- the text of __init__ -/
def iniA (f : Str) (p1 p2 : Pos) : Arguments := { posonlyargs := [], args := [⟨"self", none, p1⟩, ⟨f, none, p2⟩], vararg := none, kwonlyargs := [], kw_defaults := [], kwarg := none, defaults := [] }
def iniB (f : Str) (q1 q2 q3 q4 : Pos) : List Stmt := [.Assign [.Attribute (.Name "self" q1) f q2] (.Name f q3) q4]
def iniS (f : Str) : Scope := { kind := .function, names := [("self", .local), (f, .local)], isGenerator := false, isCoroutine := false, more := [] }
/-- a field's name: no other word of the text -/
structure FldOk (f q : Str) : Prop where
  bd : ∀ (s : Shared) (doc pm cdv ct : Value) (an : Option Addr) (p1 p2 q1 q2 q3 q4 : Pos) (x : Addr) (v : Value), BindsTo s (PySem.W.fnOf "__init__" q (iniA f p1 p2) (iniB f q1 q2 q3 q4) (iniS f) .none .none doc pm an cdv ct) ⟨[.ref x, v], []⟩ [("self", .ref x), (f, v)]
  kd : (([("self", Value.none), (f, Value.none)] : List (Str × Value)).all fun y => (iniS f).names.lookup y.1 == some .local || (iniS f).names.lookup y.1 == some .cell) = true
  ks : ∀ (nm : Str) (L a : Addr) (cd : Value), (envOfC nm (iniS f) L a cd).kindOf "self" = some .local
  kf : ∀ (nm : Str) (L a : Addr) (cd : Value), (envOfC nm (iniS f) L a cd).kindOf f = some .local
  db : (f == ("__debug__" : Str)) = false
  ne : f ≠ "self"
structure XC (K : PySem.W.Frag) (mg : Str → Option Value) (x f q : Str) (C F fI : Addr) : Prop where
  gC : mg x = some (.ref C)
  cls : ∃ nm qn N bs sn sub ab col dd k0 k1 k2 k3 k5, K.lookup C = some (excClassObj nm qn C N bs (.ref F :: exTl) true sn sub ab col dd k0 k1 k2 k3 k5 "Exception.__new__")
  sa : PySem.W.findIn K (.ref C) "__setattr__" = some (some (.builtin "object.__setattr__"))
  ga : PySem.W.findIn K (.ref C) "__getattribute__" = some (some (.builtin "BaseException.__getattribute__"))
  gg : PySem.W.findIn K (.ref C) "__getattr__" = some none
  noN : PySem.W.findIn K (.ref C) f = some none
  iC : PySem.W.findIn K (.ref C) "__init__" = some (some (.ref fI))
  tC : PySem.W.typeIn K (.ref fI) = some (.type "function")
  kC : PySem.W.keepIn K (.ref C) = true
  exC : PySem.W.subIn K (.ref C) (.type "BaseException") = some true
  tyC : PySem.W.typeIn K (.ref C) = some (.type "type")
  hdC : PySem.W.hasDictIn K C = true
  fld : FldOk f q
  fn : ∃ (oc : Value) (od : Option Addr) (doc pm : Value) (an : Option Addr) (cdv ct : Value) (osl : Array (Option Value)) (p1 p2 q1 q2 q3 q4 : Pos),
    K.lookup fI = some ⟨oc, od, .func (PySem.W.fnOf "__init__" q (iniA f p1 p2) (iniB f q1 q2 q3 q4) (iniS f) .none .none doc pm an cdv ct), osl⟩ ∧ PySem.W.codeIn K cdv q = true
theorem tl_has (F : Addr) (z : String) : (Value.ref F :: exTl).contains (.type z) = exTl.contains (.type z) := by
  rw [List.contains_cons]
  rfl
section
open Builtin Builtin.ObjectAttr
variable {prog : Program} {w : World} {A : Around} {R : Result → Shared → Prop} {hp : Heap} {g : Array GenState} {d : Drawn} {t : Nat} {os : OsState} {K : PySem.W.Frag}
/-- self.f = v on an exception of such a class, which has no dict yet -/
theorem own_store {name : Str} {tk : Tok} {v : Value} {x C F : Addr} {fv : Array Value} {cd : ClassData}
    (X : K.In hp) (hx : hp.get? x = some { cls := .ref C, data := .fields fv }) (hcd : PySem.W.clsIn K C = some cd) (hm : cd.mro = .ref C :: .ref F :: exTl) (hh : cd.hasDict = true) (ha : PySem.W.findIn K (.ref C) name = some none)
    (hq : ∀ h' tk' dx, (∀ b o, b ≠ x → hp.get? b = some o → h'.get? b = some o) → hp.objs.size ≤ dx → dx ≠ x → h'.get? x = some { cls := .ref C, dict := some dx, data := .fields fv } →
      h'.Ns1 dx (fun y => if y = name then some v else none) → R (.ok (.ret .none)) ⟨h', g, d, tk', os⟩) :
    codeAny (model prog w) A (.call (.builtin "object.__setattr__") ⟨[.ref x, .str name tk, v], []⟩) R ⟨hp, g, d, t, os⟩ := by
  have at_ : PySem.W.InstAt hp x { cls := .ref C, data := .fields fv } C none := ⟨hx, rfl, rfl, trivial⟩
  have far : x ≠ hp.objs.size := Nat.ne_of_lt (Heap.lt_size hx)
  have SF := PySem.F.store_object
  have inMro : cd.mro.contains (.type "object") = true := by
    rw [hm, List.contains_cons, tl_has, show exTl.contains (.type "object") = true by decide +kernel, Bool.or_true]
  have isO : PySem.W.Looks (model prog w) hp (isInstance (.ref x) (.type "object")) true := at_.type.andThen (PySem.W.looks_mroIn X (by
    unfold PySem.W.mroIn
    rw [hcd, Option.bind_some, inMro, hm]
    rfl))
  have may : refuseLoop (.ref x) "__setattr__" cd.mro = pure () := by
    rw [hm, refuseLoop_ref, refuseLoop_ref]
    exact PySem.F.store_Exception.passes _
  have lm : PySem.W.Looks (model prog w) hp (mroOf (.ref C)) cd.mro := (PySem.W.looks_clsIn X hcd).andThen .now
  have lt : PySem.W.Looks (model prog w) hp (storeTaker? none) none := .now
  have lc : PySem.W.Looks (model prog w) hp (classData C) cd := PySem.W.looks_clsIn X hcd
  refine codeAny_call_builtin SF.slot.plain SF.entry ?_
  refine @PySem.W.check_slot (model prog w) _ _ ⟨hp, g, d, t, os⟩ "object.__setattr__" "object" "__setattr__" (.ref x) [.str name tk, v] [] _ SF.kind SF.split isO (SF.args (.ref x) (.str name tk) v) ?_
  rw [PySem.W.osa_eq, PySem.refuse_eq]
  refine wpAny_bind (wpAny_bind (at_.type.at (wpAny_bind (lm.at ?_))))
  rw [may]
  refine wpAny_pure (wpAny_bind (at_.type.at (wpAny_bind ((PySem.W.looks_findIn X ha).at (wpAny_bind (lt.at ?_))))))
  show wpAny _ _ (storeInOwnDict (.ref x) (.ref C) (.str name tk) name v false) _ _ _
  cases cd with
  | mk nm bs mro ns qn hd sn sb ab col del =>
    dsimp only at hh
    subst hh
    unfold storeInOwnDict ownDictForStores
    repeat (first | with_reducible refine PySem.HandSPX.store_in_new ?_ ?_ | with_reducible refine wpAny_loadPart_at hx ?_ | with_reducible refine lc.at ?_ | wp_step)
    · exact ⟨_, #[], _, (Heap.get?_update_ne _ _ _ _ far.symm).trans (Heap.get?_push_at rfl rfl), rfl, fun e he => absurd he (by simp), fun _ => rfl⟩
    · intro h' tk' hn' hs
      have hx2 : (hp.push { cls := .type "dict", data := .dict #[] }).get? x = some { cls := .ref C, data := .fields fv } := Heap.get?_push_of_some _ hx
      refine hq h' tk' hp.objs.size (fun b o hb ho => ?_) (Nat.le_refl _) far.symm ?_ hn'
      · exact (hs.2 b (Nat.ne_of_lt (Heap.lt_size ho))).trans ((Heap.get?_update_ne _ _ _ _ hb).trans (Heap.get?_push_of_some _ ho))
      · exact (hs.2 x far).trans (Heap.get?_update_self _ hx2 rfl)
end

/-- what stands behind C(v): e the exception, d its dict -/
structure Made1 (h h' : Heap) (f : Str) (e C d : Addr) (v : Value) : Prop where
  old : ∀ b o, h.get? b = some o → h'.get? b = some o
  fre : h.objs.size ≤ e
  obj : ∃ t1 : Addr, h'.get? e = some { cls := .ref C, dict := some d, data := .fields #[.ref t1, .none, .none, .none, .bool false, .none] }
  frd : h.objs.size ≤ d
  ne : d ≠ e
  ns : h'.Ns1 d (fun y => if y = f then some v else none)
section
variable {prog : Program} {w : World} {A : Around} {R : Result → Shared → Prop} {s : Shared} {K : PySem.W.Frag} {mg : Str → Option Value} {x f q : Str} {C F fI : Addr}
theorem lcl {M : Model} {E : Value → Shared → Prop} {env : Env} {m : Str → Option Value} {y : Str} {pos : Pos} {v : Value} {Q : Value → Shared → Prop} (hk : env.scope.kind = .function) (hn : s.heap.Ns env.locals m) (hl : env.kindOf y = some .local) (hv : m y = some v) (hd : (y == ("__debug__" : Str)) = false) (h : Q v s) :
    wpAny M A (eval (.Name y pos) env) Q E s := wpAny_Name (wpAny_loadName_local hk hl hn hv h) hd
theorem own_init (T : XC K mg x f q C F fI) {e t0 : Addr} {v : Value} (X : K.In s.heap) (hlim : s.heap.NoLimit) (he : s.heap.get? e = some (PySem.HandSPX.excO C t0)) (hroom : A.depth < recursionLimit)
    (hq : ∀ h' tk dx, (∀ b o, b ≠ e → s.heap.get? b = some o → h'.get? b = some o) → h'.get? e = some { cls := .ref C, dict := some dx, data := .fields #[.ref t0, .none, .none, .none, .bool false, .none] } → s.heap.objs.size ≤ dx → dx ≠ e →
      h'.Ns1 dx (fun y => if y = f then some v else none) → R (.ok (.ret .none)) { s with heap := h', toks := tk }) :
    codeAny (model prog w) A (.call (.ref fI) ⟨[.ref e, v], []⟩) R s := by
  obtain ⟨oc, od, doc, pm, an, cdv, ct, osl, p1, p2, q1, q2, q3, q4, ho, hcd⟩ := T.fn
  obtain ⟨nm, qn, N, bs, sn, sub, ab, col, dd, k0, k1, k2, k3, k5, hC⟩ := T.cls
  have hcl : PySem.W.clsIn K C = some { name := nm, bases := bs, mro := .ref C :: .ref F :: exTl, ns := N, qualname := qn, hasDict := true, slotNames := sn, subclasses := sub, abstract := ab, collection := col, hasDel := false } := by
    unfold PySem.W.clsIn
    rw [hC] <;> rfl
  have fo := T.fld
  have hkd : (([("self", Value.ref e), (f, v)] : List (Str × Value)).all fun y => (iniS f).names.lookup y.1 == some .local || (iniS f).names.lookup y.1 == some .cell) = true := fo.kd
  refine Att.call_fn (binds := [("self", .ref e), (f, v)]) X hlim ho hcd hroom (fo.bd _ _ _ _ _ _ _ _ _ _ _ _ _ _) hkd (fun s₁ IC => ?_) rfl rfl rfl
  obtain ⟨h₁, tk₁, rfl⟩ := IC.toInCall.same
  have k : ∀ b o, s.heap.get? b = some o → h₁.get? b = some o := IC.toInCall.keep
  have hn := IC.toInCall.ns
  have X₁ : K.In h₁ := X.keeps k
  have he₁ := k _ _ he
  have ks := fo.ks q s.heap.objs.size fI cdv
  have kf := fo.kf q s.heap.objs.size fI cdv
  have ls : bindL (envOfC q (iniS f) s.heap.objs.size fI cdv).kindOf [("self", Value.ref e), (f, v)] (fun _ => none) "self" = some (.ref e) := by
    simp [bindL, ks, kf, fo.ne, Ne.symm fo.ne]
  have lf : bindL (envOfC q (iniS f) s.heap.objs.size fI cdv).kindOf [("self", Value.ref e), (f, v)] (fun _ => none) f = some v := by
    simp [bindL, ks, kf, fo.ne, Ne.symm fo.ne]
  show wpAny _ _ (execs _ _) _ _ _
  refine wpAny_execs_cons (plainObj_wpAny_Assign_Attribute ?_)
  refine lcl rfl hn kf lf fo.db (lcl rfl hn ks ls (by decide) ?_)
  refine PySem.W.set_plain X₁ (ox := PySem.HandSPX.excO C t0) (od := none) ⟨he₁, rfl, rfl, trivial⟩ T.sa ?_
  refine own_store X₁ he₁ hcl rfl rfl T.noN (fun h₃ tk₃ dx k₃ dn dne hx₃ hn₃ => ?_)
  show wpAny _ _ (execs _ _) _ _ _
  have z : s.heap.objs.size < h₁.objs.size := hn.lt
  exact wpAny_execs_nil (hq h₃ tk₃ dx (fun b o hb e => k₃ b o hb (k b o e)) hx₃ (Nat.le_of_lt (Nat.lt_of_lt_of_le z dn)) dne hn₃)
theorem own_made (T : XC K mg x f q C F fI) {v : Value} (X : K.In s.heap) (hlim : s.heap.NoLimit) (hroom : A.depth + 1 < recursionLimit)
    (hq : ∀ h' tk e d, Made1 s.heap h' f e C d v → R (.ok (.ret (.ref e))) { s with heap := h', toks := tk }) :
    codeAny (model prog w) A (.call (.ref C) ⟨[v], []⟩) R s := by
  obtain ⟨nm, qn, N, bs, sn, sub, ab, col, dd, k0, k1, k2, k3, k5, hC⟩ := T.cls
  obtain ⟨hp, g, dr, tk, os⟩ := s
  have k : ∀ b o, hp.get? b = some o → ((hp.push (PySem.W.kdv_tup [v])).push (PySem.HandSPX.excO C hp.objs.size)).get? b = some o := fun b o e => Heap.get?_push_of_some _ (Heap.get?_push_of_some _ e)
  have hget : ((hp.push (PySem.W.kdv_tup [v])).push (PySem.HandSPX.excO C hp.objs.size)).get? (hp.objs.size + 1) = some (PySem.HandSPX.excO C hp.objs.size) := by heap_get
  have one : [v].length ≤ sizeLine := by
    rw [sizeLine_eq]
    exact Nat.le_of_ble_eq_true rfl
  refine PySem.HandSPX.call_own PySem.F.excBase_Exception (tl_has F) (X _ _ hC) (PySem.W.looks_findIn X T.iC) (fun self => PySem.W.bind_fn X self T.tC) one ?_
  refine own_init (s := ⟨(hp.push (PySem.W.kdv_tup [v])).push (PySem.HandSPX.excO C hp.objs.size), g, dr, tk, os⟩) T (X.keeps k) (hlim.keeps k) hget ?_ fun h' tk' dx k' hx dn dne hns => ?_
  · exact hroom
  · have z : hp.objs.size + 1 + 1 ≤ dx := by
      have q := dn
      simp only [Heap.size_push] at q
      exact q
    exact ⟨rfl, hq h' tk' (hp.objs.size + 1) dx ⟨fun b o e => k' b o (Nat.ne_of_lt (Nat.lt_succ_of_lt (Heap.lt_size e))) (k b o e), Nat.le_succ _, ⟨_, hx⟩, Nat.le_trans (Nat.le_trans (Nat.le_succ _) (Nat.le_succ _)) z, dne, hns⟩⟩
end
/-! ### C(e) is raised -/
theorem lookF {f : Str} {v : V} {u : Value} (r : RelV v u) (y : Str) : RelO (List.lookup y [(f, v)]) (if y = f then some u else none) := by
  by_cases h : y = f
  · subst h
    rw [if_pos rfl]
    have e : List.lookup y [(y, v)] = some v := by simp [List.lookup]
    rw [e]
    exact r
  · rw [if_neg h]
    have e : (y == f) = false := by simpa using h
    simp [List.lookup, e, RelO]
section
variable {X : Cx} {x f q : Str} {C F fI : Addr} {a : Expr} {p pos pos2 : Pos} {k : Nat}
/-- C(e) -/
def tMk1 (C : Addr) (f : Str) (ta : TA) : L2.St → Hp → XK → Prop := fun σ H Q => ta σ H fun vs H1 => ∃ v, vs = [v] ∧ ∀ d, H1 d = none → Q (.ref C) (some d) (upd H1 d (.xd [(f, v)]))
theorem pmk1 {ta : TA} (T : XC X.K X.mg x f q C F fI) (hr : Room k X.A) (ha : PA X [a] ta) (hg : Gl X x) (hdb : (x == ("__debug__" : Str)) = false)
    (he : starEach (a :: []) X.env = (false, eval a X.env) :: starEach [] X.env := by rfl) (hpl : (backTo pos (starEach [] X.env)).any (·.1) = false := by rfl) : PMk X (.Call (.Name x p) [a] [] pos) (tMk1 C f ta) := by
  intro pins s σ H Q I h
  refine wpAny_Call_Name_kw (ld_glob I hg T.gC ?_ hdb)
  refine PySem.W.callWith_K (h₀ := X.base) I.ok.mod.kin T.kC (thn (ha.run pos pins s σ H _ I h) fun us s1 hh => ?_) he hpl
  obtain ⟨vs, H1, I1, r1, v, ev, q1⟩ := hh
  subst ev
  refine ⟨I1.kIn, ?_⟩
  obtain ⟨u, eu, rv⟩ := vals1 r1
  subst eu
  show wpAny _ _ (call (.ref C) [u]) _ _ _
  have hlim := I1.nolimit
  obtain ⟨hp, g, dr, tk, os⟩ := s1
  refine wpAny_call (own_made T I1.kIn hlim (by have := hr.dp; omega) fun h' tk' e d M => ?_)
  show MkP X pins σ Q (.ref e) ⟨h', g, dr, tk', os⟩
  obtain ⟨t1, hoe⟩ := M.obj
  have hns := M.ns
  obtain ⟨G', g1, g2⟩ := restrict h' fun b => decide (b ≠ e)
  have gk : ∀ b, b ≠ e → G'.get? b = h'.get? b := fun b hb => g1 b (decide_eq_true hb)
  have ge : G'.get? e = none := g2 e (by simp)
  have ob : ObjOk X.prog X.w (upd H1 d (.xd [(f, v)])) G' d (.xd [(f, v)]) := ⟨_, hns.at (fun o q => (gk d M.ne).trans q), fun y => lookF rv y⟩
  have J : Inv X pins σ (upd H1 d (.xd [(f, v)])) ⟨G', g, dr, tk', os⟩ := I1.laid (t' := tk') (fun b o q => (gk b (Nat.ne_of_lt (Nat.lt_of_lt_of_le (Heap.lt_size q) M.fre))).trans (M.old b o q)) M.frd ob
  refine ⟨e, _, _, ⟨G', g, dr, tk', os⟩, _, .ref C, some d, rfl, J, fun b o q => ?_, ge, hoe, ⟨rfl, rfl⟩, rfl, rfl, ?_, rfl, I1.bare, raises_own T.exC T.tyC, q1 d (I1.hok.fresh M.frd)⟩
  · by_cases hb : b = e
    · have z : G'.get? b = some o := q
      rw [hb, ge] at z
      cases z
    · exact (gk b hb).symm.trans q
  · rw [upd_ne (Ne.symm M.ne)]
    exact I1.hok.fresh M.fre
/-- raise C(e) -/
def raiseS (x f : Str) (m : Ev W) : Ev Fl := bindE m fun w => bindE (keepW w) fun d => fun st => .exc ⟨x, [(f, d)]⟩ st
theorem ds_raise1 {Wx : WX} {m : Ev W} (hc : X.calm = true) (tk : Takes X Wx) (T : XC X.K X.mg x f q C F fI) (hr : Room k X.A) (ha : DE X Wx a m) (hg : Gl X x) (hdb : (x == ("__debug__" : Str)) = false := by decide)
    (he : starEach (a :: []) X.env = (false, eval a X.env) :: starEach [] X.env := by rfl) (hpl : (backTo pos (starEach [] X.env)).any (·.1) = false := by rfl) :
    DS X Wx (.Raise (some (.Call (.Name x p) [a] [] pos)) none pos2) (raiseS x f m) :=
  useS (ps_raise hc tk (pmk1 T hr (pa_cons ha pa_nil he) hg hdb he hpl)) fun D' σ H ⟨G, st, rel, h⟩ => by
    show upE X.K X.mg Wx m σ H _
    refine stepS rel h fun w st1 G1 H1 v x1 r1 p => ?_
    obtain ⟨d, st2, e, p2⟩ := keepW_sres p
    obtain ⟨G2, x2, rd, fr⟩ := keepW_ok rel x1 r1 e
    refine ⟨v, rfl, fun dd hdd => ?_⟩
    exact p2 G2 σ _ _ _ (x2.alloc hdd).rel x2.bs ⟨⟨C, rfl, T.gC⟩, [(f, v)], upd_same, rfl, .cons (rd.mono (upd_fro hdd)) .nil⟩
end
end Dl

namespace Dl
open PySem PySem.Spec PyProof.Rows L2

/-! ### the body of a def, where what stands need not be kept beyond the def -/
def FOk0 (K : PySem.W.Frag) (G : Gh) (D' : Ends) (f : Fl) (st' : Stt) : Prop :=
  match f with
  | .next => ∀ G' σ' H', Rel K G' st' σ' H' → Bs G G' → D'.nx σ' H'
  | .ret d => ∀ G' σ' H' v, Rel K G' st' σ' H' → Bs G G' → Rp K G' H' v d → D'.rt v H'
  | .brk => False
  | .cont => False
def SRes0 (K : PySem.W.Frag) (mg : Str → Option Value) (Wx : WX) (G : Gh) (r : R Fl) (D' : Ends) : Prop :=
  match r with
  | .stuck => False
  | .ok f st' => FOk0 K G D' f st'
  | .exc x st' => ∀ G' σ' H' cl dx, Rel K G' st' σ' H' → Bs G G' → RpX K mg G' H' x cl dx → Wx cl dx σ' H'
def upS0 (K : PySem.W.Frag) (mg : Str → Option Value) (Wx : WX) (m : Ev Fl) : TS := fun D' σ H => ∃ G st, Rel K G st σ H ∧ SRes0 K mg Wx G (m st) D'
abbrev DS0 (X : Cx) (Wx : WX) (s : List Stmt) (m : Ev Fl) : Prop := PSs X s (upS0 X.K X.mg Wx m)
section
variable {P : Program} {w : World} {K : PySem.W.Frag} {mg : Str → Option Value} {base : Heap} {k : Nat} {f : Addr} {qual : Str} {scope : Scope} {body : List Stmt}
/-- a def by such a mirror -/
theorem fng0_of {name : Str} {params : Arguments} {dV kV doc pm cdv ct oc : Value} {an od : Option Addr} {osl : Array (Option Value)} {N ps : List Str} {m : Ev Fl}
    (lk : K.lookup f = some ⟨oc, od, .func (PySem.W.fnOf name qual params body scope dV kV doc pm an cdv ct), osl⟩) (hcd : PySem.W.codeIn K cdv qual = true) (S : FnScope N ps scope)
    (hb : ∀ (A : Around) (outer : List Env) (s : Shared) (H : Hp) (E : XK), RoomG k (A.deeper (envOfC qual scope s.heap.objs.size f cdv)) →
      DS0 (cxOf (CX P w) P w K mg base N qual scope f cdv A outer s H E) (fun cl dx _ H' => E cl dx H') body m) :
    FnG P w K mg base (k + 1) f (PySem.W.fnOf name qual params body scope dV kV doc pm an cdv ct) ps (runF N.length m) := ⟨by
  intro A outer s H args us vs ds G dk Q E hr e0 hbn r hl en rl fin
  have lv : vs.length = ps.length := rl.length.trans hl
  have inHeap : K.In s.heap := e0.mod.kin.keeps (fun b o e => (e0.bs b o e).1)
  have noLim : s.heap.NoLimit := e0.mod.nolimit.keeps (fun b o e => (e0.bs b o e).1)
  have kinds : ∀ y ∈ ps.zip us, scope.names.lookup y.1 = some .local ∨ (scope.names.lookup y.1 = some .cell ∧ ((cellsFrom (s.heap.objs.size + 1) scope.names []).lookup y.1).isSome = true) := by
    rintro ⟨n, v⟩ hy
    exact (S.par n (List.of_mem_zip hy).1).imp id fun q => ⟨q, PySem.W.cellsFrom_some _ _ _ (.inl q)⟩
  refine codeAny_call_function hr.r.depth (inHeap _ _ lk) rfl S.co S.gen rfl (PySem.W.codeRec_of inHeap hcd) (hbn _ _ _ _ ?_)
  refine wpAny_newFunctionEnv_cells S.kind kinds fun env he s1 x => ?_
  subst he
  refine ⟨noLim.keeps x.toInCall.keep, codeAny_func ?_⟩
  have room : RoomG k (A.deeper (envOfC qual scope s.heap.objs.size f cdv)) := ⟨hr.r.deeper _, hr.g⟩
  have I : Inv (cxOf (CX P w) P w K mg base N qual scope f cdv A outer s H E) [] (start N vs) H s1 := inv_start S hr.r.hd e0 lv r x
  have rel := enter_rel (K := K) en rl N.length
  have red : upS0 K mg (fun cl dx _ H' => E cl dx H') m { nx := fun _ H' => Q .non H', rt := Q } (start N vs) H := by
    refine ⟨G.enter H, _, rel, ?_⟩
    unfold runF at fin
    cases q : m ⟨ds.map .fz ++ List.replicate (N.length - ds.length) .un, dk⟩ with
    | stuck => rw [q] at fin; exact fin
    | exc y st1 => rw [q] at fin; exact fun G' σ' H' cl dx r' b' q' => fin G' H' cl dx (done_of r' b') q'
    | ok fl st1 =>
      rw [q] at fin
      cases fl with
      | next => exact fun G' σ' H' r' g' => fin G' H' .non (done_of r' g') .non
      | ret d => exact fun G' σ' H' v r' g' rp => fin G' H' v (done_of r' g') rp
      | brk => exact fin.elim
      | cont => exact fin.elim
  refine wpAny_mono ((hb A outer s H E room).run [] s1 (start N vs) H _ I red) (fun fl s' hs => ?_) (fun e s' hs => hs)
  cases fl with
  | ret u =>
    obtain ⟨v, σ', H', J, rv, q⟩ := hs
    exact ⟨v, H', J.os, J.bare, J.base, J.hok, rv, q⟩
  | next =>
    obtain ⟨σ', H', J, q⟩ := hs
    exact ⟨V.non, H', J.os, J.bare, J.base, J.hok, rfl, q⟩
  | brk => obtain ⟨_, _, _, q⟩ := hs; exact q.elim
  | cont => obtain ⟨_, _, _, q⟩ := hs; exact q.elim⟩
theorem fng0 {x : Str} {st : Stmt} {fd : FuncData} {N ps : List Str} {m : Ev Fl} (F : Fun K x qual st f fd) (S : FnScope N ps (defScope st))
    (hb : ∀ (cdv : Value) (A : Around) (outer : List Env) (s : Shared) (H : Hp) (E : XK), RoomG k (A.deeper (envOfC qual (defScope st) s.heap.objs.size f cdv)) →
      DS0 (cxOf (CX P w) P w K mg base N qual (defScope st) f cdv A outer s H E) (fun cl dx _ H' => E cl dx H') (defBody st) m) : FnG P w K mg base (k + 1) f fd ps (runF N.length m) := by
  obtain ⟨oc, od, kV, doc, pm, an, cdv, ct, osl, rfl, lk, hcd⟩ := F.ex
  exact fng0_of lk hcd S fun A outer s H E hr => hb cdv A outer s H E hr
end
section
variable {K : PySem.W.Frag} {mg : Str → Option Value} {Wx : WX} {G : Gh} {st : Stt} {σ : Sg} {H : Hp}
theorem Rel.putUn (r : Rel K G st σ H) (i : Nat) (v : Option V) : Rel K G (st.put i .un) (σ.set i v) H where
  g := r.g
  dko := r.dko
  len := by
    show (st.ρ.set i _).length = _
    rw [List.length_set, List.length_set, r.len]
  fz := fun j d e => by
    rcases getSet e with ⟨_, z, _⟩ | ⟨ne, e⟩
    · cases z
    · obtain ⟨u, h1, h2⟩ := r.fz j d e
      exact ⟨u, by rw [List.getElem?_set_ne (Ne.symm ne)]; exact h1, h2⟩
  lv := fun j d e => by
    rcases getSet e with ⟨_, z, _⟩ | ⟨ne, e⟩
    · cases z
    · obtain ⟨u, h1, h2⟩ := r.lv j d e
      exact ⟨u, by rw [List.getElem?_set_ne (Ne.symm ne)]; exact h1, h2⟩
  ap := fun j l d e a h1 h2 s1 s2 => by
    rcases getSet h1 with ⟨_, z, _⟩ | ⟨n1, h1⟩
    · cases z
    · rcases getSet h2 with ⟨_, z, _⟩ | ⟨n2, h2⟩
      · cases z
      · rw [List.getElem?_set_ne (Ne.symm n1)] at s1
        rw [List.getElem?_set_ne (Ne.symm n2)] at s2
        exact r.ap j l d e a h1 h2 s1 s2
end
/-- try: body, except c as n: a suite that returns a value made of the exception's fields -/
def tryF (i : Nat) (cat : Str → Option Bool) (hd : Exn → Option D) (m : Ev Fl) : Ev Fl := fun st => match m st with
  | .exc x st1 => match cat x.cls with
    | some true => match hd x with
      | some d => if i < st1.ρ.length then .ok (.ret d) (st1.put i .un) else .stuck
      | none => .stuck
    | some false => .exc x st1
    | none => .stuck
  | r => r
/-- what is asked of the suite -/
def SuOk (X : Cx) (i : Nat) (su : List Stmt) (hd : Exn → Option D) : Prop := ∀ (a : Addr) (oe : Obj) (cls : Value) (d : Option Addr) (pn : List (Addr × Obj)), Zc cls d oe → (∃ vs, oe.data = .fields vs) →
  PSs (X.suite a ((a, oe) :: pn)) su (fun D' σ H => ∃ G st x dv, Rel X.K G st σ H ∧ σ[i]? = some (some (.ref a)) ∧ RpX X.K X.mg G H x cls d ∧ hd x = some dv ∧ ∀ G' H' v, Ex X.K σ G st H G' st H' → Rp X.K G' H' v dv → D'.rt v H')
section
variable {X : Cx} {Wx : WX} {cx n : Str} {c : Value} {i : Nat} {body su : List Stmt} {b₀ : Stmt} {np pos pos' : Pos} {m : Ev Fl} {cat : Str → Option Bool} {hd : Exn → Option D}
theorem ds0_try (hs : X.stack = X.env :: X.outer) (hf : X.env.frame = some X.env.locals) (hN : X.N.Nodup) (hi : X.N[i]? = some n) (hln : X.env.kindOf n = some .local) (hc : Names X cx c) (tk : Takes X Wx)
    (hcat : ∀ y b, cat y = some b → ∀ C, X.mg y = some (.ref C) → PySem.W.exmOne X.K (.ref C) c = some b)
    (hb : ∀ (W : WX) (pn : List (Addr × Obj)) (xe : Value → Shared → Prop), Takes (X.tr pn xe) W → PassesOwn (model X.prog X.w) X.A X.env xe → DSs (X.tr pn xe) W body m)
    (hsu : SuOk X i (b₀ :: su) hd) :
    DS0 X Wx [.Try body [.ExceptHandler (some (.Name cx np)) (some n) (b₀ :: su) pos'] [] [] pos] (tryF i cat hd m) :=
  pss_one (useS (ps_try_as (i := i) (tb := fun W => upS X.K X.mg W m)
    (ts := fun a cls d => fun D' σ H => ∃ G st x dv, Rel X.K G st σ H ∧ σ[i]? = some (some (.ref a)) ∧ RpX X.K X.mg G H x cls d ∧ hd x = some dv ∧ ∀ G' H' v, Ex X.K σ G st H G' st H' → Rp X.K G' H' v dv → D'.rt v H')
    hs hf hN hi hln hc tk hb hsu) fun D' σ H ⟨G, st, rel, h⟩ => by
      refine ⟨G, st, rel, ?_⟩
      unfold tryF at h
      cases q : m st with
      | stuck => rw [q] at h; exact h
      | ok f st1 =>
        rw [q] at h
        cases f with
        | next => exact fun G' σ' H' r g => h G' σ' H' r g.bs
        | ret d => exact fun G' σ' H' v r g => h G' σ' H' v r g.bs
        | brk => exact h.elim
        | cont => exact h.elim
      | exc x st1 =>
        rw [q] at h
        intro G' σ' H' cl dx r b rx
        obtain ⟨C, ecl, hC⟩ := rx.cls
        subst ecl
        cases e : cat x.cls with
        | none => simp only [e] at h; exact h.elim
        | some bb =>
          refine ⟨bb, hcat _ _ e C hC, fun hbb a ha => ?_, fun hbb => ?_⟩
          · subst hbb
            simp only [e] at h
            cases e2 : hd x with
            | none => simp only [e2] at h; exact h.elim
            | some dv =>
              simp only [e2] at h
              split at h
              case isFalse => exact h.elim
              rename_i hil
              refine ⟨G', st1.put i .un, x, dv, r.putUn i _, ?_, rx, e2, fun G2 H2 v ex rp => ?_⟩
              · rw [List.getElem?_set_self (by rw [← r.len]; exact hil)]
              · exact h G2 _ H2 v ex.rel (b.trans ex.bs) rp
          · subst hbb
            simp only [e] at h
            exact h G' σ' H' _ dx r b rx)
end

/-! ### isinstance of the caught one, its field -/
structure IsC (K : PySem.W.Frag) (D : Addr) : Prop where
  cl : (PySem.W.clsIn K D).isSome = true
  ga : PySem.W.findIn K (.ref D) "__getattribute__" = some (some (.builtin "BaseException.__getattribute__"))
  gg : PySem.W.findIn K (.ref D) "__getattr__" = some none
  ex : PySem.W.subIn K (.ref D) (.type "BaseException") = some true
  ca : PySem.W.findIn K (.ref D) "__class__" = some (some (.builtin "object.__class__"))
  cg : PySem.W.specialIn K (.builtin "object.__class__") "__get__" = some (some (.builtin "getset_descriptor.__get__"))
  ct : PySem.W.takesIn K (.builtin "object.__class__") = some true
  ob : PySem.W.mroIn K D (.type "object") = some true
def rIs1 (K : PySem.W.Frag) (a : Addr) (cls : Value) (d : Option Addr) : List V → Hp → VK → Prop := fun xs H Q => ∃ (D dd : Addr) (c : V) (cv : Value) (b : Bool) (fs : List (Str × V)), IsC K D ∧ cls = .ref D ∧ d = some dd ∧ xs = [.ref a, c] ∧ (∀ u, RelV c u → u = cv) ∧
  PySem.W.kitOne K (.ref D) cv = some b ∧ H dd = some (.xd fs) ∧ Q (.bl b) H
theorem call_is1 {X : Cx} {a : Addr} {oe : Obj} {cls : Value} {d : Option Addr} {pn : List (Addr × Obj)} (hz : Zc cls d oe) (hf : ∃ vs, oe.data = .fields vs) : CallR (X.suite a ((a, oe) :: pn)) (.builtin "isinstance") (rIs1 X.K a cls d) := by
  intro pins s σ H xs us Q I r h
  obtain ⟨D, dd, c, cv, b, fs, T, rfl, rfl, rfl, hcv, e, hdd, q⟩ := h
  obtain ⟨u1, u2, rfl, r1, r2⟩ := vals2 r
  obtain rfl : u1 = Value.ref a := r1
  have ec := hcv _ r2
  subst ec
  obtain ⟨hget, _⟩ := I.pin (a, oe) (List.mem_append.mpr (.inl List.mem_cons_self))
  obtain ⟨vs, hv⟩ := hf
  have hx : ObjOk X.prog X.w H s.heap dd (.xd fs) := I.hok dd _ hdd
  obtain ⟨mA, hns, hr⟩ := hx
  obtain ⟨od, ho, _⟩ := lookIn_ns hns
  have J : PySem.W.InstAt s.heap a oe D (some od) := ⟨hget, hz.1, by unfold PySem.W.notCls; rw [hv] <;> rfl, by rw [hz.2]; exact ho⟩
  exact PySem.W.kia_one (PySem.W.kitx_exc T.cl T.ga T.gg T.ex T.ca T.cg T.ct T.ob) I.kIn J e (fun z => nomatch z) fun tk => ⟨.bl b, H, I.kept (t' := tk) fun _ _ z => z, rfl, q⟩
/-- return (w, e.f if isinstance(e, B) else None), where e is of the class y below B -/
def hdIf (y f wd : Str) : Exn → Option D := fun x => if x.cls = y then match x.fs with
  | [(g, d)] => if g = f then some (.tup [.str wd, d]) else none
  | _ => none else none
section
variable {X : Cx} {y f q wd n bn : Str} {C F fI FE : Addr} {i : Nat} {j0 j1 : _} {p1 p2 p3 p4 p5 p6 p7 p8 p9 p10 p11 : Pos} {kt : _}
theorem su_if (T : XC X.K X.mg y f q C F fI) (U : IsC X.K C) (hk : PySem.W.kitOne X.K (.ref C) (.ref FE) = some true) (gb : Gl X bn) (mb : X.mg bn = some (.ref FE)) (db : (bn == ("__debug__" : Str)) = false) (gi : Gl X "isinstance") (mi : X.mg "isinstance" = none)
    (hN : X.N[i]? = some n) (hv : Vis X.env.scope n) (hd : (n == ("__debug__" : Str)) = false) (hcd : (n == ("__classdict__" : Str)) = false) (hb : attributeBase (.Name n p6) f X.env (eval (.Name n p6) X.env) = eval (.Name n p6) X.env := by rfl)
    (s1 : starEach [.Name n p3, .Name bn p4] X.env = (false, eval (.Name n p3) X.env) :: starEach [.Name bn p4] X.env := by rfl) (s2 : starEach [.Name bn p4] X.env = (false, eval (.Name bn p4) X.env) :: starEach [] X.env := by rfl) :
    SuOk X i [.Return (some (.Tuple [.Constant (.str wd) j0 p1, .IfExp (.Call (.Name "isinstance" p2) [.Name n p3, .Name bn p4] [] p5) (.Attribute (.Name n p6) f p7) (.Constant .none j1 p8) p9] kt p10)) p11] (hdIf y f wd) := by
  intro a oe cls d pn hz hf
  refine useSs (pss_one (ps_ret (pe_tup (pa_cons pe_str (pa_cons (pe_ifExp (pt_val (pe_callB (X := X.suite a ((a, oe) :: pn)) (call_is1 hz hf) gi mi boot_isinstance (pa_cons (pv i hN hv hd hcd) (pa_cons (pe_glob gb mb (v := .ref FE) rfl db) pa_nil s2) s1) (by decide) (by decide) s1 rfl))
    (pe_xf ⟨T.ga, T.gg, T.exC, T.hdC⟩ T.noN hz hf (pv i hN hv hd hcd) hb) pe_non) pa_nil)))))  fun D' σ H ⟨G, st, x, dv, rel, hσ, rx, hx, q⟩ => ?_
  unfold hdIf at hx
  split at hx
  · rename_i hy
    split at hx
    · rename_i g dd hfs
      split at hx
      · rename_i hgf
        cases hx
        subst hgf
        obtain ⟨C', ecl, hC'⟩ := rx.cls
        rw [hy, T.gC] at hC'
        cases hC'
        have fs := rx.fs
        cases d with
        | none =>
          rw [hfs] at fs
          cases fs
        | some dx =>
          obtain ⟨gs, hgs, e1, e2⟩ := fs
          rw [hfs] at e1 e2
          match gs, e1, e2, hgs with
          | [(g', v)], e1, e2, hgs =>
            cases e1
            cases e2 with
            | cons rv _ =>
              refine ⟨V.ref a, hσ, C, dx, V.ref FE, Value.ref FE, true, _, U, ecl, rfl, rfl, fun u hu => hu, hk, hgs, true, rfl, ?_⟩
              dsimp only
              rw [if_pos rfl]
              refine ⟨V.ref a, hσ, rfl, ecl, dx, _, v, rfl, hgs, ?_, ?_, fun p hp => q G _ _ (.alloc (.refl rel) hp) (.tup upd_same (.cons (.str wd) (.cons (rv.mono (upd_fro hp)) .nil)))⟩
              · simp [List.lookup]
              · rw [sizeLine_eq]
                exact Nat.le_of_ble_eq_true rfl
      · cases hx
    · cases hx
  · cases hx
end
end Dl

namespace Dl
open PySem PySem.Spec PyProof.Rows L2

/-! ### sorted(set(t)), t a tuple of ints -/
/-- the members, ascending, each once -/
def ascI (ns : List Int) : List Int := (dd ns).mergeSort fun a b => decide (a ≤ b)
theorem ascI_mem {ns : List Int} {k : Int} : k ∈ ascI ns ↔ k ∈ ns := by
  unfold ascI
  rw [(List.mergeSort_perm _ _).mem_iff, dd_mem]
theorem ascI_lt (ns : List Int) : (ascI ns).Pairwise (· < ·) := by
  have h1 : (ascI ns).Pairwise (fun a b => decide (a ≤ b) = true) := List.pairwise_mergeSort (fun a b c h1 h2 => by simp at *; omega) (fun a b => by simp; omega) _
  have h2 : (ascI ns).Nodup := (List.mergeSort_perm _ _).nodup_iff.mpr dd_nodup
  have h3 := h1.and h2
  exact h3.imp fun ⟨a, b⟩ => by
    have a := of_decide_eq_true a
    omega
theorem asc_same : ∀ {a b : List Int}, a.Pairwise (· < ·) → b.Pairwise (· < ·) → (∀ k, k ∈ a ↔ k ∈ b) → a = b
  | [], [], _, _, _ => rfl
  | [], y :: b, _, _, h => absurd ((h y).mpr List.mem_cons_self) (by simp)
  | x :: a, [], _, _, h => absurd ((h x).mp List.mem_cons_self) (by simp)
  | x :: a, y :: b, ha, hb, h => by
    obtain ⟨a1, a2⟩ := List.pairwise_cons.mp ha
    obtain ⟨b1, b2⟩ := List.pairwise_cons.mp hb
    have e : x = y := by
      rcases List.mem_cons.mp ((h x).mp List.mem_cons_self) with e | m
      · exact e
      · rcases List.mem_cons.mp ((h y).mpr List.mem_cons_self) with e | m'
        · exact e.symm
        · have := a1 y m'
          have := b1 x m
          omega
    subst e
    refine congrArg _ (asc_same a2 b2 fun k => ⟨fun m => ?_, fun m => ?_⟩)
    · rcases List.mem_cons.mp ((h k).mp (List.mem_cons_of_mem _ m)) with e | z
      · have := a1 k m
        omega
      · exact z
    · rcases List.mem_cons.mp ((h k).mpr (List.mem_cons_of_mem _ m)) with e | z
      · have := b1 k m
        omega
      · exact z
theorem ascI_self {ns : List Int} (h : ns.Pairwise (· < ·)) : ascI ns = ns := asc_same (ascI_lt ns) h fun _ => ascI_mem
def sortSetW : List D → Option W
  | [.tup ds] => match intsOf ds with
    | some ns => if ns.length < 64 then some (.fresh (.lst ((ascI ns).map .int))) else none
    | none => none
  | _ => none
def rSetTI (K : PySem.W.Frag) (w : World) : List V → Hp → VK → Prop := fun vs H Q => ∃ (l : Addr) (ns : List Int), vs = [V.ref l] ∧ SqT K H l (ns.map V.int) ∧ ns.length < 64 ∧ ∀ p n, H p = none → n ≤ ns.length → Q (.ref p) (upd H p (SetO w p (fun k => decide (k ∈ ns)) n))
section
variable {X : Cx} {Wx : WX} {a : Expr} {p p2 q pos : Pos}
theorem cr_setTI (hc : X.calm = true) : CallR X (.type "set") (rSetTI X.K X.w) := by
  intro pins s σ H xs us Q I r h
  obtain ⟨l, ns, rfl, hl, hn, q⟩ := h
  rw [Vals.ref1 r]
  obtain ⟨its, rv, pl, hz⟩ := I.tuple hl
  have hit : IntsAre its.toArray.toList ns := by simpa using rv.ints
  refine call_set_tupI ns (I.ok.hd hc) pl hit (by unfold scanBound; omega) fun h' tk c R hc' k => ?_
  exact ⟨.ref s.heap.objs.size, _, I.laid (t' := tk) k (Nat.le_refl _) (setO_new R), rfl, q _ c (I.hok.fresh (Nat.le_refl _)) hc'⟩
def rSS (K : PySem.W.Frag) (w : World) : List V → Hp → VK → Prop := fun vs H Q => rSetTI K w vs H fun x H2 => rSortedSet w [x] H2 Q
theorem pb_sortSet {K : PySem.W.Frag} {w : World} : PuB K (rSS K w) sortSetW := fun σ Gs ss Hs G st H vs ds wv Q r x h hf q => by
  unfold sortSetW at hf
  split at hf
  · rename_i es
    split at hf
    · rename_i ns e
      split at hf
      · rename_i hl
        cases hf
        obtain ⟨v, rfl, k1⟩ := h.one
        obtain ⟨a, us, rfl, ht, rl⟩ := k1.tup
        rw [intsOf_eq e] at rl
        have eu := RpL.of_ints rl
        subst eu
        refine ⟨a, ns, rfl, .of ht, hl, fun p n hp hn => ⟨p, _, n, rfl, upd_same, by omega, fun zs p2 h1 h2 h3 h4 => ?_⟩⟩
        have ez : zs = ascI ns := asc_same h1 (ascI_lt ns) fun k => by
          rw [h2 k, ascI_mem]
          exact ⟨of_decide_eq_true, decide_eq_true⟩
        subst ez
        have x2 : Ex K σ Gs ss Hs G st (upd H p (SetO w p (fun k => decide (k ∈ ns)) n)) := x.alloc hp
        exact q G _ _ (x2.alloc h4) (((Ex.refl x.rel).alloc hp).alloc h4) ⟨p2, rfl, x2.back h4, x2.rel.own h4, .lst upd_same (RpL.ints _)⟩
      · cases hf
    · cases hf
  · cases hf
theorem de_sortSet {m : Ev (List W)} (hc : X.calm = true) (hg : Gl X "sorted") (hm : X.mg "sorted" = none) (hg2 : Gl X "set") (hm2 : X.mg "set" = none) (ha : DR X Wx [a] m)
    (na : starEach [a] X.env = (false, eval a X.env) :: starEach [] X.env := by rfl)
    (nb : starEach [.Call (.Name "set" p2) [a] [] q] X.env = (false, eval (.Call (.Name "set" p2) [a] [] q) X.env) :: starEach [] X.env := by rfl) :
    DE X Wx (.Call (.Name "sorted" p) [.Call (.Name "set" p2) [a] [] q] [] pos) (bltE sortSetW m) := by
  have h1 : PE X (.Call (.Name "set" p2) [a] [] q) (tCB (rSetTI X.K X.w) (upR X.K X.mg Wx m)) := pe_callTy (cr_setTI hc) hg2 hm2 PyProof.Rows.boot_set ha (by decide) (by decide) na rfl
  exact useE (pe_callB (cr_sortedSet hc) hg hm boot_sorted (pa_cons h1 pa_nil nb) (by decide) (by decide) nb rfl) fun σ H Q h => up_blt (pb_sortSet (w := X.w)) h
end
end Dl

namespace Dl
open PySem PySem.Spec PyProof.Rows L2

/-! ### defs that call themselves, defs with a default, own exceptions: what the printed texts use -/
section
variable {P : Program} {w : World} {K : PySem.W.Frag} {mg : Str → Option Value} {base : Heap} {k : Nat} {f : Addr} {fd : FuncData} {ps : List Str}
theorem fng_stuck : FnG P w K mg base k f fd ps (fun _ _ => .stuck) := ⟨fun _ _ _ _ _ _ _ _ _ _ _ _ _ _ _ _ _ _ _ fin => fin.elim⟩
end
structure CalD (P : Program) (w : World) (K : PySem.W.Frag) (mg : Str → Option Value) (base : Heap) (k : Nat) (x : Str) (st : Stmt) (dvs : List V) (ps : List Str) (F : List D → Option Dk → RF) : Prop where
  ex : ∃ f fd, FunD K x x (defArgs st) (defBody st) (defScope st) dvs [] f fd ∧ FnG P w K mg base k f fd ps F ∧ mg x = some (.ref f)
section
variable {X : Cx} {Wx : WX} {k j n : Nat} {st : Stmt} {ps ks : List Str} {perm : List Nat} {dfs : List D} {dvs dvs' : List V} {F : List D → Option Dk → RF} {x : Str} {p pos : Pos} {e : Expr} {es : List Expr} {m : Ev (List W)}
theorem de_callCD (c : CalD X.prog X.w X.K X.mg X.base k x st dvs ps F) (hr : RoomG j X.A) (hk : k ≤ j) (hg : Gl X x) (hb : ∀ {f : Addr} {fd : FuncData}, FunD X.K x x (defArgs st) (defBody st) (defScope st) dvs [] f fd → ∃ dvs', Bd X.K fd ps n [] perm dfs dvs') (tk : Takes X Wx) (ha : DB X Wx (e :: es) m)
    (hdb : (x == ("__debug__" : Str)) = false := by decide) (he : starEach (e :: es) X.env = (false, eval e X.env) :: starEach es X.env := by rfl) (hpl : (backTo pos (starEach es X.env)).any (·.1) = false := by rfl) : DE X Wx (.Call (.Name x p) (e :: es) [] pos) (callE F perm dfs n m) := by
  obtain ⟨f, fd, h1, h2, h3⟩ := c.ex
  obtain ⟨dvs', hb'⟩ := hb h1
  exact de_call h2 (hr.mono hk) hg h3 h1.kp hb' tk ha hdb he hpl
end
/-- an own class of exceptions, its base b -/
structure XT (K : PySem.W.Frag) (mg : Str → Option Value) (x f q b : Str) : Prop where
  ex : ∃ C F fI, XC K mg x f q C F fI ∧ IsC K C ∧ PySem.W.kitOne K (.ref C) (.ref F) = some true ∧ mg b = some (.ref F) ∧ PySem.W.exmOne K (.ref C) (.ref C) = some true
section
variable {X : Cx} {Wx : WX} {x f q b n wd : Str} {k i : Nat} {a : Expr} {m : Ev W} {p pos pos2 : Pos}
theorem ds_raiseT (hc : X.calm = true) (tk : Takes X Wx) (T : XT X.K X.mg x f q b) (hr : Room k X.A) (ha : DE X Wx a m) (hg : Gl X x) (hdb : (x == ("__debug__" : Str)) = false := by decide)
    (he : starEach (a :: []) X.env = (false, eval a X.env) :: starEach [] X.env := by rfl) (hpl : (backTo pos (starEach [] X.env)).any (·.1) = false := by rfl) :
    DS X Wx (.Raise (some (.Call (.Name x p) [a] [] pos)) none pos2) (raiseS x f m) := by
  obtain ⟨C, F, fI, T, _⟩ := T.ex
  exact ds_raise1 hc tk T hr ha hg hdb he hpl
def catOne (x : Str) : Str → Option Bool := fun y => if y = x then some true else none
variable {j0 j1 kt : _} {np pos' p1 p2 p3 p4 p5 p6 p7 p8 p9 p10 p11 : Pos} {body : List Stmt} {mb : Ev Fl}
theorem ds0_tryT (hs : X.stack = X.env :: X.outer) (hf : X.env.frame = some X.env.locals) (hN : X.N.Nodup) (hi : X.N[i]? = some n) (hln : X.env.kindOf n = some .local) (T : XT X.K X.mg x f q b) (gx : Gl X x) (dx : (x == ("__debug__" : Str)) = false) (tk : Takes X Wx)
    (hb : ∀ (W : WX) (pn : List (Addr × Obj)) (xe : Value → Shared → Prop), Takes (X.tr pn xe) W → PassesOwn (model X.prog X.w) X.A X.env xe → DSs (X.tr pn xe) W body mb)
    (gb : Gl X b) (db : (b == ("__debug__" : Str)) = false) (gi : Gl X "isinstance") (mi : X.mg "isinstance" = none) (hv : Vis X.env.scope n) (hd : (n == ("__debug__" : Str)) = false) (hcd : (n == ("__classdict__" : Str)) = false)
    (hat : attributeBase (.Name n p6) f X.env (eval (.Name n p6) X.env) = eval (.Name n p6) X.env := by rfl)
    (s1 : starEach [.Name n p3, .Name b p4] X.env = (false, eval (.Name n p3) X.env) :: starEach [.Name b p4] X.env := by rfl) (s2 : starEach [.Name b p4] X.env = (false, eval (.Name b p4) X.env) :: starEach [] X.env := by rfl) :
    DS0 X Wx [.Try body [.ExceptHandler (some (.Name x np)) (some n) [.Return (some (.Tuple [.Constant (.str wd) j0 p1, .IfExp (.Call (.Name "isinstance" p2) [.Name n p3, .Name b p4] [] p5) (.Attribute (.Name n p6) f p7) (.Constant .none j1 p8) p9] kt p10)) p11] pos'] [] [] pos]
      (tryF i (catOne x) (hdIf x f wd) mb) := by
  obtain ⟨C, F, fI, T, U, hk, mb', hx⟩ := T.ex
  refine ds0_try hs hf hN hi hln ⟨gx, dx, .inl T.gC⟩ tk (fun y bb hy C' hC' => ?_) hb (su_if T U hk gb mb' db gi mi hi hv hd hcd hat s1 s2)
  unfold catOne at hy
  split at hy
  · rename_i e
    subst e
    cases hy
    rw [T.gC] at hC'
    cases hC'
    exact hx
  · cases hy
end
end Dl

namespace Dl
open PySem PySem.Spec PyProof.Rows L2

/-! ### the end: what the top says of an own class of exceptions, of a default -/
theorem fld_most (q : Str) : FldOk "most" q := ⟨fun s doc pm cdv ct an p1 p2 q1 q2 q3 q4 x v => .of_eq (by first | rfl | with_unfolding_all rfl), by decide, fun _ _ _ _ => rfl, fun _ _ _ _ => rfl, by decide, by decide⟩
theorem fld_thing (q : Str) : FldOk "thing" q := ⟨fun s doc pm cdv ct an p1 p2 q1 q2 q3 q4 x v => .of_eq (by first | rfl | with_unfolding_all rfl), by decide, fun _ _ _ _ => rfl, fun _ _ _ _ => rfl, by decide, by decide⟩
theorem exm_own {K : PySem.W.Frag} {C : Addr} (h1 : PySem.W.subIn K (.ref C) (.type "BaseException") = some true) (h2 : (PySem.W.clsIn K C).isSome = true) (h3 : PySem.W.typeIn K (.ref C) = some (.type "type")) (h4 : PySem.W.subIn K (.ref C) (.ref C) = some true) :
    PySem.W.exmOne K (.ref C) (.ref C) = some true := by
  have e1 : (PySem.W.subIn K (.ref C) (.type "BaseException") == some true) = true := by rw [h1] <;> rfl
  have e2 : ((PySem.W.clsIn K C).isSome && PySem.W.typeIn K (.ref C) == some (.type "type")) = true := by
    rw [h2, h3] <;> rfl
  refine (if_pos e1).trans ?_
  exact (if_pos e2).trans h4
theorem funD1 {K : PySem.W.Frag} {x qual : Str} {params : Arguments} {body : List Stmt} {scope : Scope} {f T : Addr} {oc tc kV doc pm cdv ct : Value} {od an td : Option Addr} {osl tsl : Array (Option Value)} {i : Int} {tk : Tok} {n : Nat}
    (l : K.lookup f = some ⟨oc, od, .func (PySem.W.fnOf x qual params body scope (.ref T) kV doc pm an cdv ct), osl⟩) (c : PySem.W.codeIn K cdv qual = true) (k : PySem.W.keepIn K (.ref f) = true) (t : K.lookup T = some ⟨tc, td, .seq #[.int i tk] n, tsl⟩) :
    FunD K x qual params body scope [.int i] [] f (PySem.W.fnOf x qual params body scope (.ref T) kV doc pm an cdv ct) :=
  ⟨⟨oc, od, .ref T, kV, doc, pm, an, cdv, ct, osl, rfl, l, c, .inr ⟨by simp, T, _, [.int i tk], n, rfl, t, rfl, .cons ⟨tk, rfl⟩ .nil⟩, .inl rfl⟩, k⟩
end Dl

namespace Dl
open L2 PySem.Spec
open PySem hiding upTo
open PyProof.Rows hiding inR cutD

/-! ### repr again: small numbers weigh little, texts of plain signs may stand in the data -/
mutual
def wgtX : D → Nat
  | .int i => if i.natAbs < 100 then 3 else 1921
  | .str x => (reprText x).length
  | .tup ds => 4 + wgtXL ds
  | .lst ds => 4 + wgtXL ds
  | _ => 5
def wgtXL : List D → Nat
  | [] => 0
  | d :: r => wgtX d + 2 + wgtXL r
end
mutual
theorem wgtX_le : ∀ d : D, showD d = true → (py d).shown.length ≤ wgtX d
  | .non, _ => by simp only [py, PyData.shown, wgtX]; decide
  | .bl b, _ => by simp only [py, PyData.shown, wgtX]; cases b <;> decide
  | .int i, h => by
    have h' : i.natAbs.log2 < 1920 := by simpa [showD] using h
    simp only [py, PyData.shown, wgtX]
    have e2 : ((toString i : String) : Str).length = (toString i).length := PySem.ofString_length _
    rw [e2]
    split
    · rename_i h2
      exact int_text_length_le10 (k := 2) (by decide) h2
    · exact int_text_length_le (k := 1920) (by decide) h'
  | .str x, _ => by simp only [py, PyData.shown, wgtX]; exact Nat.le_refl _
  | .tup ds, h => by
    have h' : showL ds = true := by simpa [showD] using h
    have e := wgtXL_le ds h'
    have e2 := tupleText_le (PyData.shownAll (pyL ds))
    simp only [py, PyData.shown, wgtX]
    omega
  | .lst ds, h => by
    have h' : showL ds = true := by simpa [showD] using h
    have e := wgtXL_le ds h'
    have e2 := listText_le (PyData.shownAll (pyL ds))
    simp only [py, PyData.shown, wgtX]
    omega
  | .dct _ _ _, _ => by simp only [py, PyData.shown, wgtX]; decide
  | .deck, _ => by simp only [py, PyData.shown, wgtX]; decide
  | .scr _, _ => by simp only [py, PyData.shown, wgtX]; decide
theorem wgtXL_le : ∀ ds : List D, showL ds = true → piled (PyData.shownAll (pyL ds)) ≤ wgtXL ds
  | [], _ => by simp only [pyL, PyData.shownAll, wgtXL]; exact Nat.le_refl _
  | d :: r, h => by
    have h' : showD d = true ∧ showL r = true := by simpa [showL] using h
    have e1 := wgtX_le d h'.1
    have e2 := wgtXL_le r h'.2
    simp only [pyL, PyData.shownAll, wgtXL, piled_cons]
    omega
end
def reprX : List D → Option W
  | [d] => if okD 64 d = true ∧ showD d = true ∧ wgtX d ≤ big then some (.val (.str (textOf d))) else none
  | _ => none
theorem pb_reprX {K : PySem.W.Frag} : PuB K (rRepr K) reprX := fun σ Gs ss Hs G st H vs ds w Q r x h hf q => by
  unfold reprX at hf
  split at hf
  · split at hf
    · rename_i hc
      cases hf
      obtain ⟨v, rfl, k1⟩ := h.one
      exact ⟨v, _, rfl, k1.dp hc.1, okD_shaped hc.1, showD_py _ hc.2.1, Nat.le_trans (wgtX_le _ hc.2.1) hc.2.2, q.val x (.str _)⟩
    · cases hf
  · cases hf
mutual
/-- None, bools, numbers, plain texts, tuples of such -/
def tpX : D → Bool
  | .non => true
  | .bl _ => true
  | .int _ => true
  | .str x => (reprText x).cps.toList.all fun k => decide (k < 128)
  | .tup ds => tpXL ds
  | _ => false
def tpXL : List D → Bool
  | [] => true
  | d :: r => tpX d && tpXL r
end
mutual
theorem textX_free {k : Nat} (hk : 128 ≤ k) : ∀ d : D, tpX d = true → k ∉ (py d).shown.cps.toList
  | .non, _ => text_free hk .non rfl
  | .bl b, _ => text_free hk (.bl b) rfl
  | .int i, _ => text_free hk (.int i) rfl
  | .tup ds, h => by
    have h' : tpXL ds = true := by simpa [tpX] using h
    simp only [py, PyData.shown]
    exact tupleText_free hk (textsX_free hk ds h')
  | .str x, h => by
    have h' : ((reprText x).cps.toList.all fun k => decide (k < 128)) = true := by simpa [tpX] using h
    intro m
    have m' : k ∈ (reprText x).cps.toList := by simpa only [py, PyData.shown] using m
    have z := of_decide_eq_true (List.all_eq_true.mp h' k m')
    omega
  | .lst _, h => by simp [tpX] at h
  | .dct _ _ _, h => by simp [tpX] at h
  | .deck, h => by simp [tpX] at h
  | .scr _, h => by simp [tpX] at h
theorem textsX_free {k : Nat} (hk : 128 ≤ k) : ∀ ds : List D, tpXL ds = true → ∀ t ∈ PyData.shownAll (pyL ds), k ∉ t.cps.toList
  | [], _, t, ht => by simp [pyL, PyData.shownAll] at ht
  | d :: r, h, t, ht => by
    have h' : tpX d = true ∧ tpXL r = true := by simpa [tpXL] using h
    simp only [pyL, PyData.shownAll, List.mem_cons] at ht
    rcases ht with rfl | ht
    · exact textX_free hk d h'.1
    · exact textsX_free hk r h'.2 t ht
end
theorem textX_ok {d : D} (h : tpX d = true) : PyData.strOk (textOf d) = true := by
  unfold PyData.strOk
  rw [← Array.all_toList, List.all_eq_true]
  intro k hm
  rw [decide_eq_true_eq]
  by_cases hk : k < 128
  · omega
  · exact absurd hm (textX_free (by omega) d h)
structure RpX' (d : D) : Prop where
  ok : okD 64 d = true
  sh : showD d = true
  wg : wgtX d ≤ big
  tp : tpX d = true
abbrev Rx (d : D) : Prop := RpX' d
theorem RpX'.w {d : D} (h : Rx d) : reprX [d] = some (.val (.str (textOf d))) := if_pos ⟨h.ok, h.sh, h.wg⟩
theorem RpX'.ne {d : D} (h : Rx d) : neW (.str (textOf d)) (.str (textOf d)) = some (.val (.bl false)) := by
  unfold Dl.neW
  rw [if_pos ⟨strOkD (textX_ok h.tp), strOkD (textX_ok h.tp)⟩]
  simp [eqd]
theorem RpX'.eq {d : D} (h : Rx d) : eqW (.str (textOf d)) (.str (textOf d)) = some (.val (.bl true)) := by
  unfold Dl.eqW
  rw [if_pos ⟨strOkD (textX_ok h.tp), strOkD (textX_ok h.tp)⟩]
  simp [eqd]
section
variable {st st1 st2 : Stt} {w1 w2 : W} {d : D} {m1 m2 : Ev W}
theorem reprX_ne (h : Rx d) (h1 : m1 st = .ok w1 st1) (c1 : content st1 w1 = some d) (h2 : m2 st1 = .ok w2 st2) (c2 : content st2 w2 = some d) :
    op2 neW (bltE reprX (rCons m1 rNil)) (bltE reprX (rCons m2 rNil)) st = .ok (.val (.bl false)) st2 :=
  op2_ok (blt_ok (ds := [d]) (rc_cons h1 rc_nil) (by rw [s_ctC, c1, s_ctN]) h.w) (blt_ok (ds := [d]) (rc_cons h2 rc_nil) (by rw [s_ctC, c2, s_ctN]) h.w) rfl rfl h.ne
theorem reprX_eq (h : Rx d) (h1 : m1 st = .ok w1 st1) (c1 : content st1 w1 = some d) (h2 : m2 st1 = .ok w2 st2) (c2 : content st2 w2 = some d) :
    op2 eqW (bltE reprX (rCons m1 rNil)) (bltE reprX (rCons m2 rNil)) st = .ok (.val (.bl true)) st2 :=
  op2_ok (blt_ok (ds := [d]) (rc_cons h1 rc_nil) (by rw [s_ctC, c1, s_ctN]) h.w) (blt_ok (ds := [d]) (rc_cons h2 rc_nil) (by rw [s_ctC, c2, s_ctN]) h.w) rfl rfl h.eq
theorem reprX_if {s1 : Ev Fl} (h : Rx d) (h1 : m1 st = .ok w1 st1) (c1 : content st1 w1 = some d) (h2 : m2 st1 = .ok w2 st2) (c2 : content st2 w2 = some d) :
    ifS (eTst truthB (op2 neW (bltE reprX (rCons m1 rNil)) (bltE reprX (rCons m2 rNil)))) s1 (okE .next) st = .ok .next st2 :=
  ifN_f (tst_ok (reprX_ne h h1 c1 h2 c2) rfl rfl)
end
/-! ### while -/
theorem whileN_more {t : Ev Bool} {b : Ev Fl} : ∀ (n : Nat) {st : Stt}, whileN t b n st ≠ .stuck → whileN t b (n + 1) st = whileN t b n st
  | 0, st, h => absurd rfl h
  | n + 1, st, h => by
    have ih : ∀ {s : Stt}, whileN t b n s ≠ .stuck → whileN t b (n + 1) s = whileN t b n s := fun h => whileN_more n h
    unfold whileN at h ⊢
    unfold bindE at h ⊢
    cases e : t st with
    | stuck => rfl
    | exc x s => rfl
    | ok k s =>
      rw [e] at h
      cases k with
      | false => rfl
      | true =>
        simp only [if_true] at h ⊢
        cases e2 : b s with
        | stuck => rfl
        | exc x s2 => rfl
        | ok f s2 =>
          rw [e2] at h
          cases f with
          | next => exact ih h
          | cont => exact ih h
          | brk => rfl
          | ret d => rfl
theorem whileN_far {t : Ev Bool} {b : Ev Fl} {n : Nat} {st : Stt} (h : whileN t b n st ≠ .stuck) : ∀ k : Nat, whileN t b (n + k) st = whileN t b n st
  | 0 => rfl
  | k + 1 => by
    have ih := whileN_far h k
    show whileN t b (n + k + 1) st = _
    rw [whileN_more (n + k) (by rw [ih]; exact h), ih]
theorem while_eq {t : Ev Bool} {b : Ev Fl} {n : Nat} {st : Stt} {r : R Fl} (h : whileN t b n st = r) (hr : r ≠ .stuck) : whileS t b st = r := by
  have hn : whileN t b n st ≠ .stuck := by rw [h]; exact hr
  have hx : ∃ n, whileN t b n st ≠ .stuck := ⟨n, hn⟩
  unfold whileS
  rw [dif_pos hx]
  have hc := hx.choose_spec
  rw [← whileN_far hc n, Nat.add_comm, whileN_far hn, h]
section
variable {t : Ev Bool} {b : Ev Fl} {n : Nat} {st st1 st2 : Stt} {r : R Fl}
theorem wN_end (h : t st = .ok false st1) : whileN t b (n + 1) st = .ok .next st1 := by
  unfold whileN bindE
  rw [h]
  rfl
theorem wN_go (h : t st = .ok true st1) (h2 : b st1 = .ok .next st2) : whileN t b (n + 1) st = whileN t b n st2 := by
  show bindE t _ st = _
  rw [s_bind, h]
  simp only [if_true, h2]
/-- a measure that falls -/
theorem while_all (M : Stt → Nat) (P : Stt → Prop) (h : ∀ st, P st → (∃ st1, t st = .ok false st1 ∧ P st1) ∨ ∃ st1 st2, t st = .ok true st1 ∧ b st1 = .ok .next st2 ∧ P st2 ∧ M st2 < M st) :
    ∀ (n : Nat) {st : Stt}, P st → M st ≤ n → ∃ st', whileN t b (n + 1) st = .ok .next st' ∧ P st' ∧ ∃ s0, t s0 = .ok false st'
  | n, st, p, l => by
    rcases h st p with ⟨st1, h1, p1⟩ | ⟨st1, st2, h1, h2, p2, m⟩
    · exact ⟨st1, wN_end h1, p1, st, h1⟩
    · rw [wN_go h1 h2]
      cases n with
      | zero => omega
      | succ n => exact while_all M P h n p2 (by omega)
end
end Dl

namespace Dl
open L2 PySem.Spec
open PySem hiding upTo
open PyProof.Rows hiding inR cutD

/-! ### loops over coded rows -/
section
variable {α : Type} {enc val : α → D} {st st1 : Stt} {m : Ev W} {ds : List D}
theorem lcL_cons {vs : List Nat} {g : D → Stt → Option Stt} {b : List D → Ev (List D)} {d : D} {r acc acc2 : List D} {s1 s2 : Stt} (h1 : g d (st.wipe vs) = some s1) (h2 : b acc s1 = .ok acc2 s2) : lcL vs g b (d :: r) acc st = lcL vs g b r acc2 s2 := by
  simp only [lcL, h1, h2]
/-- one name; what each item adds -/
theorem lcL_A {v : Nat} {b : List D → Ev (List D)} (f : α → List D) (ρ : List Slot) (dk : Option Dk) : ∀ {l : List α}, (∀ a ∈ l, ∀ acc : List D, acc.length + (f a).length ≤ big → b acc ⟨ρ.set v (.fz (enc a)), dk⟩ = .ok (acc ++ f a) ⟨ρ.set v (.fz (enc a)), dk⟩) →
    ∀ {acc : List D} {s : Slot}, acc.length + (l.flatMap f).length ≤ big → ∃ s', lcL [v] (nmG v) b (l.map enc) acc ⟨ρ.set v s, dk⟩ = .ok (acc ++ l.flatMap f) ⟨ρ.set v s', dk⟩
  | [], _, acc, s, _ => ⟨s, by simp [lcL, okE]⟩
  | a :: l, h, acc, s, hl => by
    rw [List.flatMap_cons, List.length_append] at hl
    have e : nmG v (enc a) ((⟨ρ.set v s, dk⟩ : Stt).wipe [v]) = some ⟨ρ.set v (.fz (enc a)), dk⟩ := by
      show some (Stt.mk (((ρ.set v s).set v .un).set v (.fz (enc a))) dk) = _
      rw [List.set_set, List.set_set]
    rw [List.map_cons, lcL_cons e (h a List.mem_cons_self acc (by omega)), List.flatMap_cons, ← List.append_assoc]
    exact lcL_A f ρ dk (fun x hx => h x (List.mem_cons_of_mem _ hx)) (by rw [List.length_append]; omega)
theorem lc_A {v : Nat} {r : Ev (List D)} {b : List D → Ev (List D)} {l : List α} {s : Slot} (f : α → List D) (h1 : r st = .ok (l.map enc) st1) (hv : st1.ρ[v]? = some s) (hs : notLv (some s) = true)
    (hb : ∀ a ∈ l, ∀ acc : List D, acc.length + (f a).length ≤ big → b acc ⟨st1.ρ.set v (.fz (enc a)), st1.dk⟩ = .ok (acc ++ f a) ⟨st1.ρ.set v (.fz (enc a)), st1.dk⟩) (hl : (l.flatMap f).length ≤ big) :
    lcE [v] r (nmG v) b st = .ok (.fresh (.lst (l.flatMap f))) st1 := by
  obtain ⟨s2, h2⟩ := lcL_A f st1.ρ st1.dk hb (acc := []) (s := s) (by rw [List.length_nil]; omega)
  have e1 : (⟨st1.ρ.set v s, st1.dk⟩ : Stt) = st1 := by
    obtain ⟨hv1, hv2⟩ := List.getElem?_eq_some_iff.mp hv
    rw [← hv2, List.set_getElem_self]
  rw [e1, List.nil_append] at h2
  rw [lcE_ok h1 (noLv1 hv hs) h2]
  have e2 : (Stt.mk (st1.ρ.set v s2) st1.dk).rest st1 [v] = st1 := by
    show Stt.mk ((st1.ρ.set v s2).set v (st1.ρ.getD v .un)) st1.dk = st1
    have e3 : st1.ρ.getD v .un = s := by rw [List.getD_eq_getElem?_getD, hv]; rfl
    rw [List.set_set, e3]
    exact e1
  rw [e2]
theorem lc_mapA {v : Nat} {r : Ev (List D)} {l : List α} {s : Slot} (h1 : r st = .ok (l.map enc) st1) (hv : st1.ρ[v]? = some s) (hs : notLv (some s) = true)
    (hm : ∀ a ∈ l, m ⟨st1.ρ.set v (.fz (enc a)), st1.dk⟩ = .ok (.val (val a)) ⟨st1.ρ.set v (.fz (enc a)), st1.dk⟩) (hl : l.length ≤ big) : lcE [v] r (nmG v) (lcB (okE true) (lcP m)) st = .ok (.fresh (.lst (l.map val))) st1 := by
  have e : ∀ l : List α, l.flatMap (fun a => [val a]) = l.map val := fun l => by
    induction l with
    | nil => rfl
    | cons a l ih => rw [List.flatMap_cons, List.map_cons, List.singleton_append, ih]
  have q := lc_A (v := v) (b := lcB (okE true) (lcP m)) (fun a => [val a]) h1 hv hs (fun a ha acc hacc => lcP_ok (hm a ha) rfl (by simp only [List.length_cons, List.length_nil] at hacc; omega)) (by rw [e, List.length_map]; exact hl)
  rw [e] at q
  exact q
/-- a loop over a coded row: the invariant tells what is done -/
theorem forA {g : D → Stt → Option Stt} {b : Ev Fl} (P : List α → Stt → Prop) : ∀ {l pre : List α} {st : Stt}, (∀ pre1 a post st, pre ++ l = pre1 ++ a :: post → P pre1 st → ∃ st1 st2, g (enc a) st = some st1 ∧ b st1 = .ok .next st2 ∧ P (pre1 ++ [a]) st2) → P pre st →
    ∃ st', forL g b (l.map enc) st = .ok .next st' ∧ P (pre ++ l) st'
  | [], pre, st, _, p => ⟨st, rfl, by rw [List.append_nil]; exact p⟩
  | a :: l, pre, st, h, p => by
    obtain ⟨st1, st2, h1, h2, h3⟩ := h pre a l st rfl p
    obtain ⟨st3, h4, h5⟩ := forA P (l := l) (pre := pre ++ [a]) (fun pre1 x post s hx => h pre1 x post s (by rw [List.append_cons]; exact hx)) h3
    exact ⟨st3, by rw [List.map_cons, for_step h1 h2]; exact h4, by rw [List.append_cons]; exact h5⟩
end
/-! ### exceptions on their way -/
section
variable {st st1 st2 st3 : Stt} {e : Ev W} {w : W} {d : D} {x : Exn}
theorem bind_exc {α β : Type} {m : Ev α} {k : α → Ev β} (h : m st = .exc x st1) : bindE m k st = .exc x st1 := by
  rw [s_bind, h]
theorem call_exc {F : List D → Option Dk → RF} {n : Nat} {perm : List Nat} {dfs : List D} {rb : Ev (List W)} {ws : List W} {ds as : List D} {dk' : Option Dk} (h : rb st = .ok ws st1) (hn : ws.length = n) (c : contents st1 ws = some ds) (hg : gather perm (ds ++ dfs) = as) (hF : F as st1.dk = .exc x dk') :
    callE F perm dfs n rb st = .exc x ((frzAll ws st1).deck dk') := by
  rw [s_call, s_bind, h]
  simp only [if_pos hn, s_callW, c, hg, hF]
theorem ac_exc1 {r : Ev (List D)} (h : e st = .exc x st1) : aCons e r st = .exc x st1 := by
  rw [s_aCons]
  exact bind_exc h
theorem ac_exc {r : Ev (List D)} (h : e st = .ok w st1) (hk : keepW w st1 = .ok d st2) (h2 : r st2 = .exc x st3) : aCons e r st = .exc x st3 := by
  rw [s_aCons, s_bind, h]
  simp only [s_bind, hk, h2]
theorem ret_exc (h : e st = .exc x st1) : retS e st = .exc x st1 := by
  rw [s_ret]
  exact bind_exc h
end
end Dl

namespace Lk12
open L2 Dl PySem PySem.Spec PyProof.Rows
def topS (i : Nat) : Stmt := PySem.Challenge.pw_touchrings_k12_beats_and_changes_counted.main.body.getD i (.Pass ⟨0, 0, 0, 0⟩)

/-! ### _law_deck -/
abbrev S__law_deck : Stmt := topS 44
abbrev N__law_deck : List Str := ["_law_script", "_law_mixed", "_law_cell"]
theorem sc__law_deck : FnScope N__law_deck ["_law_script"] (defScope S__law_deck) := ⟨rfl, rfl, rfl, by decide +kernel, rfl, by decide +kernel, by decide +kernel⟩
def M__law_deck : Ev Fl :=
  (seqS (setS 1 (eC (.int 10897219)))
    (seqS (forS (seqM (scrCut (eVar 0) (oSome (eC (.int 63))))) (nmG 2)
    (setS 1 (op2 modD (bltE intW (rCons (op2 addD (op2 addD (op2 mulA (eVar 1) (eC (.int 39373))) (op2 modD (bltE intW (rCons (eVar 2) rNil)) (eC (.int 2147483549)))) (eC (.int 77))) rNil)) (eC (.int 2147483563)))))
    (retS (deckE "cells" "draws" (revE (bltE listW (rCons (scrCut (eVar 0) (oSome (eC (.int 63)))) rNil))) (eVar 1) (eC (.int 0))))))
def F__law_deck : List D → Option Dk → RF := runF 3 M__law_deck
theorem bd__law_deck_1 {K : PySem.W.Frag} {f : Addr} {fd : FuncData} (F : Fun K "_law_deck" "_law_deck" S__law_deck f fd) : Bd K fd ["_law_script"] 1 [] [0] [] [] := by
  obtain ⟨oc, od, kV, doc, pm, an, cdv, ct, osl, rfl, lk, hcd⟩ := F.ex
  exact ⟨⟨[], .nil, fun s us ws hK l1 l2 => match us, ws, l1, l2 with | [u0], [], _, _ => .of_eq rfl⟩, fun _ _ => .nil, rfl, by decide⟩
set_option maxHeartbeats 0 in
theorem ok__law_deck {P : Program} {w : World} {K : PySem.W.Frag} {mg : Str → Option Value} {base : Heap} (z_int : mg "int" = none) (z_list : mg "list" = none) {f : Addr} {fd : FuncData} (F : Fun K "_law_deck" "_law_deck" S__law_deck f fd) :
    FnG P w K mg base 1 f fd ["_law_script"] F__law_deck :=
  have sc := sc__law_deck
  fng F sc fun cdv A outer s H E hr =>
    (dss_cons (ds_set (i := 1) sc.nd rfl (by first | exact .inl rfl | exact .inr rfl) de_int)
    (dss_cons (ds_for (passes_of rfl) (by rfl) (di_seq (de_scrCut (de_var (pv 0)) (do_some de_int))) (dg_name (i := 2) sc.nd rfl (by first | exact .inl rfl | exact .inr rfl)) (dss_one (ds_set (i := 1) sc.nd rfl (by first | exact .inl rfl | exact .inr rfl) (de_mod (de_blty call_int1 pb_int (by rfl) z_int boot_int (dr_cons (de_add (de_add (de_mulA (de_var (pv 1)) de_int) (de_mod (de_blty call_int1 pb_int (by rfl) z_int boot_int (dr_cons (de_var (pv 2)) dr_nil)) de_int)) de_int) dr_nil)) de_int))))
    (dss_one (ds_ret (de_deck (de_rev (de_blty (call_listAll (by rfl)) pb_list (by rfl) z_list boot_list (dr_cons (de_scrCut (de_var (pv 0)) (do_some de_int)) dr_nil))) (de_var (pv 1)) de_int)))))

/-! ### _law_spots -/
abbrev S__law_spots : Stmt := topS 48
abbrev N__law_spots : List Str := ["_law_rings_here", "_law_found", "_law_u", "_law_length_here", "_law_i"]
theorem sc__law_spots : FnScope N__law_spots ["_law_rings_here"] (defScope S__law_spots) := ⟨rfl, rfl, rfl, by decide +kernel, rfl, by decide +kernel, by decide +kernel⟩
def M__law_spots : Ev Fl :=
  (seqS (setS 1 (bindE aNil lstOf))
    (seqS (forS (ofL enumOf (aCons (eVar 0) aNil)) (seqG 2 (consG (nmG 2) (consG (nmG 3) nilG)))
    (exprS (methL extD (eVar 1) (aCons (lcE [4] (ofL rng1 (aCons (eVar 3) aNil)) (nmG 4) (lcB (okE true) (lcP (bindE (aCons (eVar 2) (aCons (eVar 4) aNil)) tupOf)))) aNil))))
    (retS (eVar 1))))
def F__law_spots : List D → Option Dk → RF := runF 5 M__law_spots
theorem bd__law_spots_1 {K : PySem.W.Frag} {f : Addr} {fd : FuncData} (F : Fun K "_law_spots" "_law_spots" S__law_spots f fd) : Bd K fd ["_law_rings_here"] 1 [] [0] [] [] := by
  obtain ⟨oc, od, kV, doc, pm, an, cdv, ct, osl, rfl, lk, hcd⟩ := F.ex
  exact ⟨⟨[], .nil, fun s us ws hK l1 l2 => match us, ws, l1, l2 with | [u0], [], _, _ => .of_eq rfl⟩, fun _ _ => .nil, rfl, by decide⟩
set_option maxHeartbeats 0 in
theorem ok__law_spots {P : Program} {w : World} {K : PySem.W.Frag} {mg : Str → Option Value} {base : Heap} (z_enumerate : mg "enumerate" = none) (z_range : mg "range" = none) {f : Addr} {fd : FuncData} (F : Fun K "_law_spots" "_law_spots" S__law_spots f fd) :
    FnG P w K mg base 1 f fd ["_law_rings_here"] F__law_spots :=
  have sc := sc__law_spots
  fng F sc fun cdv A outer s H E hr =>
    (dss_cons (ds_set (i := 1) sc.nd rfl (by first | exact .inl rfl | exact .inr rfl) (de_lst da_nil))
    (dss_cons (ds_for (passes_of rfl) (by rfl) (di_enum (by rfl) z_enumerate (da_cons (de_var (pv 0)) da_nil)) (dg_seq (by rfl) (dgs_cons (dg_name (i := 2) sc.nd rfl (by first | exact .inl rfl | exact .inr rfl)) (dgs_cons (dg_name (i := 3) sc.nd rfl (by first | exact .inl rfl | exact .inr rfl)) dgs_nil))) (dss_one (ds_expr (de_extend (de_var (pv 1)) (da_cons (de_lc (own := [("_law_i", 4)]) (by rfl) sc.nd (blkOk_by (N := N__law_spots) (sc := defScope S__law_spots) (by decide +kernel)) (di_range1 (by rfl) z_range (da_cons (de_var (pv 3)) da_nil)) gt_name (by decide) (fun _ _ _ _ _ => (dg_name (i := 4) sc.nd rfl (by first | exact .inl rfl | exact .inr rfl))) (fun _ _ _ _ _ => dts_nil) (fun _ _ _ _ _ => (de_tup (da_cons (de_var (pv 2)) (da_cons (de_var (pv 4)) da_nil))))) da_nil)))))
    (dss_one (ds_ret (de_var (pv 1))))))

/-! ### _law_draw -/
abbrev S__law_draw : Stmt := topS 45
abbrev N__law_draw : List Str := ["_law_deck_here", "_law_many", "_law_number", "_law_cell"]
theorem sc__law_draw : FnScope N__law_draw ["_law_deck_here", "_law_many"] (defScope S__law_draw) := ⟨rfl, rfl, rfl, by decide +kernel, rfl, by decide +kernel, by decide +kernel⟩
def M__law_draw : Ev Fl :=
  (seqS (dkPut "draws" (op2 addD (dkGet "draws" (eVar 0)) (eC (.int 1))) (eVar 0))
    (seqS (setS 2 (op2 addD (dkGet "mixed" (eVar 0)) (op2 mulA (eC (.int 60373)) (dkGet "draws" (eVar 0)))))
    (seqS (ifS (dkNe "cells" (eVar 0))
    (seqS (setS 3 (dkPop "cells" (eVar 0)))
    (seqS (ifS (eTst truthB (op2 geW (eVar 3) (op2 powD (eC (.int 10)) (eC (.int 18)))))
    (seqS (exprS (dkApp "cells" (eVar 0) (op2 fdivD (eVar 3) (bltE max2W (rCons (eC (.int 2)) (rCons (eVar 1) rNil))))))
    (retS (op2 modD (bltE intW (rCons (eVar 3) rNil)) (eVar 1))))
    (okE .next))
    (setS 2 (op2 addD (eVar 2) (op2 modD (bltE intW (rCons (eVar 3) rNil)) (eC (.int 2147483549)))))))
    (okE .next))
    (seqS (setS 2 (op2 modD (bltE intW (rCons (op2 addD (op2 mulA (eVar 2) (eC (.int 69621))) (eC (.int 77))) rNil)) (eC (.int 2147483579))))
    (seqS (setS 2 (op2 modD (bltE intW (rCons (op2 addD (op2 addD (op2 mulA (eVar 2) (eVar 2)) (op2 mulA (eC (.int 50021)) (dkGet "draws" (eVar 0)))) (eC (.int 113))) rNil)) (eC (.int 2147483629))))
    (seqS (setS 2 (op2 modD (bltE intW (rCons (op2 mulA (eVar 2) (eC (.int 40014))) rNil)) (eC (.int 2147483399))))
    (retS (op2 modD (bltE intW (rCons (op2 fdivD (eVar 2) (eC (.int 64))) rNil)) (eVar 1)))))))))
def F__law_draw : List D → Option Dk → RF := runF 4 M__law_draw
theorem bd__law_draw_2 {K : PySem.W.Frag} {f : Addr} {fd : FuncData} (F : Fun K "_law_draw" "_law_draw" S__law_draw f fd) : Bd K fd ["_law_deck_here", "_law_many"] 2 [] [0, 1] [] [] := by
  obtain ⟨oc, od, kV, doc, pm, an, cdv, ct, osl, rfl, lk, hcd⟩ := F.ex
  exact ⟨⟨[], .nil, fun s us ws hK l1 l2 => match us, ws, l1, l2 with | [u0, u1], [], _, _ => .of_eq rfl⟩, fun _ _ => .nil, rfl, by decide⟩
set_option maxHeartbeats 0 in
theorem ok__law_draw {P : Program} {w : World} {K : PySem.W.Frag} {mg : Str → Option Value} {base : Heap} (z_int : mg "int" = none) (z_max : mg "max" = none) {f : Addr} {fd : FuncData} (F : Fun K "_law_draw" "_law_draw" S__law_draw f fd) :
    FnG P w K mg base 1 f fd ["_law_deck_here", "_law_many"] F__law_draw :=
  have sc := sc__law_draw
  fng F sc fun cdv A outer s H E hr =>
    (dss_cons (ds_dkPut hr.u1 (de_var (pv 0)) (de_add (de_dkGet hr.u1 (de_var (pv 0))) de_int))
    (dss_cons (ds_set (i := 2) sc.nd rfl (by first | exact .inl rfl | exact .inr rfl) (de_add (de_dkGet hr.u1 (de_var (pv 0))) (de_mulA de_int (de_dkGet hr.u1 (de_var (pv 0))))))
    (dss_cons (ds_if (dt_dkNe hr.u1 hr.u64 (de_var (pv 0))) (dss_cons (ds_set (i := 3) sc.nd rfl (by first | exact .inl rfl | exact .inr rfl) (de_dkPop hr.u1 (de_var (pv 0))))
    (dss_cons (ds_if (dt_cmp op_ge pu_ge (nomark _) (de_var (pv 3)) (de_pow de_int de_int)) (dss_cons (ds_expr (de_dkApp hr.u1 (de_var (pv 0)) (de_fdiv (de_var (pv 3)) (de_blt (call_max2 (by rfl)) pb_max2 (by rfl) z_max boot_max (dr_cons de_int (dr_cons (de_var (pv 1)) dr_nil))))))
    (dss_one (ds_ret (de_mod (de_blty call_int1 pb_int (by rfl) z_int boot_int (dr_cons (de_var (pv 3)) dr_nil)) (de_var (pv 1)))))) dss_nil)
    (dss_one (ds_set (i := 2) sc.nd rfl (by first | exact .inl rfl | exact .inr rfl) (de_add (de_var (pv 2)) (de_mod (de_blty call_int1 pb_int (by rfl) z_int boot_int (dr_cons (de_var (pv 3)) dr_nil)) de_int)))))) dss_nil)
    (dss_cons (ds_set (i := 2) sc.nd rfl (by first | exact .inl rfl | exact .inr rfl) (de_mod (de_blty call_int1 pb_int (by rfl) z_int boot_int (dr_cons (de_add (de_mulA (de_var (pv 2)) de_int) de_int) dr_nil)) de_int))
    (dss_cons (ds_set (i := 2) sc.nd rfl (by first | exact .inl rfl | exact .inr rfl) (de_mod (de_blty call_int1 pb_int (by rfl) z_int boot_int (dr_cons (de_add (de_add (de_mulA (de_var (pv 2)) (de_var (pv 2))) (de_mulA de_int (de_dkGet hr.u1 (de_var (pv 0))))) de_int) dr_nil)) de_int))
    (dss_cons (ds_set (i := 2) sc.nd rfl (by first | exact .inl rfl | exact .inr rfl) (de_mod (de_blty call_int1 pb_int (by rfl) z_int boot_int (dr_cons (de_mulA (de_var (pv 2)) de_int) dr_nil)) de_int))
    (dss_one (ds_ret (de_mod (de_blty call_int1 pb_int (by rfl) z_int boot_int (dr_cons (de_fdiv (de_var (pv 2)) de_int) dr_nil)) (de_var (pv 1)))))))))))

/-! ### _law_pick -/
abbrev S__law_pick : Stmt := topS 46
abbrev N__law_pick : List Str := ["_law_deck_here", "_law_some"]
theorem sc__law_pick : FnScope N__law_pick ["_law_deck_here", "_law_some"] (defScope S__law_pick) := ⟨rfl, rfl, rfl, by decide +kernel, rfl, by decide +kernel, by decide +kernel⟩
def M__law_pick : Ev Fl :=
  (retS (op2 getW (eVar 1) (callE F__law_draw [0, 1] [] 2 (bCons (eVar 0) (bCons (bltE lenW (rCons (eVar 1) rNil)) bNil)))))
def F__law_pick : List D → Option Dk → RF := runF 2 M__law_pick
theorem bd__law_pick_2 {K : PySem.W.Frag} {f : Addr} {fd : FuncData} (F : Fun K "_law_pick" "_law_pick" S__law_pick f fd) : Bd K fd ["_law_deck_here", "_law_some"] 2 [] [0, 1] [] [] := by
  obtain ⟨oc, od, kV, doc, pm, an, cdv, ct, osl, rfl, lk, hcd⟩ := F.ex
  exact ⟨⟨[], .nil, fun s us ws hK l1 l2 => match us, ws, l1, l2 with | [u0, u1], [], _, _ => .of_eq rfl⟩, fun _ _ => .nil, rfl, by decide⟩
set_option maxHeartbeats 0 in
theorem ok__law_pick {P : Program} {w : World} {K : PySem.W.Frag} {mg : Str → Option Value} {base : Heap} (h__law_draw : Cal P w K mg base 1 "_law_draw" S__law_draw ["_law_deck_here", "_law_many"] F__law_draw) (z_len : mg "len" = none) {f : Addr} {fd : FuncData} (F : Fun K "_law_pick" "_law_pick" S__law_pick f fd) :
    FnG P w K mg base 2 f fd ["_law_deck_here", "_law_some"] F__law_pick :=
  have sc := sc__law_pick
  fng F sc fun cdv A outer s H E hr =>
    (dss_one (ds_ret (de_ix hr.u1 (de_var (pv 1)) (de_callC h__law_draw hr (by decide) (by rfl) bd__law_draw_2 (takes_of rfl rfl rfl rfl) (db_cons (de_var (pv 0)) (db_cons (de_blt call_len pb_len (by rfl) z_len boot_len (dr_cons (de_var (pv 1)) dr_nil)) db_nil))))))

/-! ### _law_rings -/
abbrev S__law_rings : Stmt := topS 49
abbrev N__law_rings : List Str := ["_law_deck_here", "_law_most", "_law_found", "_law_left", "_law_turn", "_law_length_here"]
theorem sc__law_rings : FnScope N__law_rings ["_law_deck_here", "_law_most"] (defScope S__law_rings) := ⟨rfl, rfl, rfl, by decide +kernel, rfl, by decide +kernel, by decide +kernel⟩
def M__law_rings : Ev Fl :=
  (seqS (parS [2, 3] (rCons (bindE aNil lstOf) (rCons (eVar 1) rNil)))
    (seqS (forS (ofL rng1 (aCons (callE F__law_pick [0, 1] [] 2 (bCons (eVar 0) (bCons (bindE (aCons (eC (.int 2)) (aCons (eC (.int 3)) (aCons (eC (.int 2)) (aCons (eC (.int 1)) (aCons (eC (.int 3)) (aCons (eC (.int 4)) (aCons (eC (.int 2)) (aCons (eC (.int 5)) aNil)))))))) tupOf) bNil))) aNil)) (nmG 4)
    (seqS (setS 5 (callE F__law_pick [0, 1] [] 2 (bCons (eVar 0) (bCons (bindE (aCons (eC (.int 2)) (aCons (eC (.int 3)) (aCons (eC (.int 4)) (aCons (eC (.int 1)) (aCons (eC (.int 3)) (aCons (eC (.int 5)) (aCons (eC (.int 2)) (aCons (eC (.int 6)) aNil)))))))) tupOf) bNil))))
    (ifS (eTst truthB (op2 leW (eVar 5) (eVar 3)))
    (seqS (exprS (methL appD (eVar 2) (aCons (eVar 5) aNil)))
    (setS 3 (op2 subD (eVar 3) (eVar 5))))
    (okE .next))))
    (retS (ifE (eTst truthB (op2 neW (eVar 2) (bindE aNil lstOf))) (bltE tupW (rCons (eVar 2) rNil)) (bindE (aCons (eC (.int 1)) aNil) tupOf)))))
def F__law_rings : List D → Option Dk → RF := runF 6 M__law_rings
theorem bd__law_rings_2 {K : PySem.W.Frag} {f : Addr} {fd : FuncData} (F : Fun K "_law_rings" "_law_rings" S__law_rings f fd) : Bd K fd ["_law_deck_here", "_law_most"] 2 [] [0, 1] [] [] := by
  obtain ⟨oc, od, kV, doc, pm, an, cdv, ct, osl, rfl, lk, hcd⟩ := F.ex
  exact ⟨⟨[], .nil, fun s us ws hK l1 l2 => match us, ws, l1, l2 with | [u0, u1], [], _, _ => .of_eq rfl⟩, fun _ _ => .nil, rfl, by decide⟩
set_option maxHeartbeats 0 in
theorem ok__law_rings {P : Program} {w : World} {K : PySem.W.Frag} {mg : Str → Option Value} {base : Heap} (h__law_pick : Cal P w K mg base 2 "_law_pick" S__law_pick ["_law_deck_here", "_law_some"] F__law_pick) (z_range : mg "range" = none) (z_tuple : mg "tuple" = none) {f : Addr} {fd : FuncData} (F : Fun K "_law_rings" "_law_rings" S__law_rings f fd) :
    FnG P w K mg base 3 f fd ["_law_deck_here", "_law_most"] F__law_rings :=
  have sc := sc__law_rings
  fng F sc fun cdv A outer s H E hr =>
    (dss_cons (ds_par (i := 2) (j := 3) (by rfl) sc.nd rfl rfl (by decide) rfl rfl (dr_cons (de_lst da_nil) (dr_cons (de_var (pv 1)) dr_nil)) (by rfl))
    (dss_cons (ds_for (passes_of rfl) (by rfl) (di_range1 (by rfl) z_range (da_cons (de_callC h__law_pick hr (by decide) (by rfl) bd__law_pick_2 (takes_of rfl rfl rfl rfl) (db_cons (de_var (pv 0)) (db_cons (de_tup (da_cons de_int (da_cons de_int (da_cons de_int (da_cons de_int (da_cons de_int (da_cons de_int (da_cons de_int (da_cons de_int da_nil))))))))) db_nil))) da_nil)) (dg_name (i := 4) sc.nd rfl (by first | exact .inl rfl | exact .inr rfl)) (dss_cons (ds_set (i := 5) sc.nd rfl (by first | exact .inl rfl | exact .inr rfl) (de_callC h__law_pick hr (by decide) (by rfl) bd__law_pick_2 (takes_of rfl rfl rfl rfl) (db_cons (de_var (pv 0)) (db_cons (de_tup (da_cons de_int (da_cons de_int (da_cons de_int (da_cons de_int (da_cons de_int (da_cons de_int (da_cons de_int (da_cons de_int da_nil))))))))) db_nil))))
    (dss_one (ds_if (dt_cmp op_le pu_le (nomark _) (de_var (pv 5)) (de_var (pv 3))) (dss_cons (ds_expr (de_append (de_var (pv 2)) (da_cons (de_var (pv 5)) da_nil)))
    (dss_one (ds_set (i := 3) sc.nd rfl (by first | exact .inl rfl | exact .inr rfl) (de_minus (de_var (pv 3)) (de_var (pv 5)))))) dss_nil))))
    (dss_one (ds_ret (de_if (dt_cmp (op_neD hr.u64) pu_ne (nomark _) (de_var (pv 2)) (de_lst da_nil)) (de_blty call_tuple_of pb_tup (by rfl) z_tuple boot_tuple (dr_cons (de_var (pv 2)) dr_nil)) (de_tup (da_cons de_int da_nil)))))))

/-! ### _law_order -/
abbrev S__law_order : Stmt := topS 47
abbrev N__law_order : List Str := ["_law_deck_here", "_law_n", "_law_left", "_law_found", "_law_turn"]
theorem sc__law_order : FnScope N__law_order ["_law_deck_here", "_law_n"] (defScope S__law_order) := ⟨rfl, rfl, rfl, by decide +kernel, rfl, by decide +kernel, by decide +kernel⟩
def M__law_order : Ev Fl :=
  (seqS (parS [2, 3] (rCons (rgE false (eVar 1)) (rCons (bindE aNil lstOf) rNil)))
    (seqS (forS (ofL rng1 (aCons (eVar 1) aNil)) (nmG 4)
    (exprS (methL appD (eVar 3) (aCons (methL popAtD (eVar 2) (aCons (callE F__law_draw [0, 1] [] 2 (bCons (eVar 0) (bCons (bltE lenW (rCons (eVar 2) rNil)) bNil))) aNil)) aNil))))
    (retS (bltE tupW (rCons (eVar 3) rNil)))))
def F__law_order : List D → Option Dk → RF := runF 5 M__law_order
theorem bd__law_order_2 {K : PySem.W.Frag} {f : Addr} {fd : FuncData} (F : Fun K "_law_order" "_law_order" S__law_order f fd) : Bd K fd ["_law_deck_here", "_law_n"] 2 [] [0, 1] [] [] := by
  obtain ⟨oc, od, kV, doc, pm, an, cdv, ct, osl, rfl, lk, hcd⟩ := F.ex
  exact ⟨⟨[], .nil, fun s us ws hK l1 l2 => match us, ws, l1, l2 with | [u0, u1], [], _, _ => .of_eq rfl⟩, fun _ _ => .nil, rfl, by decide⟩
set_option maxHeartbeats 0 in
theorem ok__law_order {P : Program} {w : World} {K : PySem.W.Frag} {mg : Str → Option Value} {base : Heap} (h__law_draw : Cal P w K mg base 1 "_law_draw" S__law_draw ["_law_deck_here", "_law_many"] F__law_draw) (z_len : mg "len" = none) (z_list : mg "list" = none) (z_range : mg "range" = none) (z_tuple : mg "tuple" = none) {f : Addr} {fd : FuncData} (F : Fun K "_law_order" "_law_order" S__law_order f fd) :
    FnG P w K mg base 2 f fd ["_law_deck_here", "_law_n"] F__law_order :=
  have sc := sc__law_order
  fng F sc fun cdv A outer s H E hr =>
    (dss_cons (ds_par (i := 2) (j := 3) (by rfl) sc.nd rfl rfl (by decide) rfl rfl (dr_cons (de_listRg (by rfl) (by rfl) z_list (by rfl) z_range (de_var (pv 1))) (dr_cons (de_lst da_nil) dr_nil)) (by rfl))
    (dss_cons (ds_for (passes_of rfl) (by rfl) (di_range1 (by rfl) z_range (da_cons (de_var (pv 1)) da_nil)) (dg_name (i := 4) sc.nd rfl (by first | exact .inl rfl | exact .inr rfl)) (dss_one (ds_expr (de_append (de_var (pv 3)) (da_cons (de_popAt (de_var (pv 2)) (da_cons (de_callC h__law_draw hr (by decide) (by rfl) bd__law_draw_2 (takes_of rfl rfl rfl rfl) (db_cons (de_var (pv 0)) (db_cons (de_blt call_len pb_len (by rfl) z_len boot_len (dr_cons (de_var (pv 2)) dr_nil)) db_nil))) da_nil)) da_nil)))))
    (dss_one (ds_ret (de_blty call_tuple_of pb_tup (by rfl) z_tuple boot_tuple (dr_cons (de_var (pv 3)) dr_nil))))))

/-! ### _law_floor -/
abbrev S__law_floor : Stmt := topS 50
abbrev N__law_floor : List Str := ["_law_deck_here", "_law_most", "_law_rings_here", "_law_touches", "_law_spots_here", "_law_order_here", "_law_way", "_law_turn", "_law_x", "_law_y"]
theorem sc__law_floor : FnScope N__law_floor ["_law_deck_here", "_law_most"] (defScope S__law_floor) := ⟨rfl, rfl, rfl, by decide +kernel, rfl, by decide +kernel, by decide +kernel⟩
def M__law_floor : Ev Fl :=
  (seqS (parS [2, 3] (rCons (callE F__law_rings [0, 1] [] 2 (bCons (eVar 0) (bCons (eVar 1) bNil))) (rCons (bindE aNil lstOf) rNil)))
    (seqS (setS 4 (callE F__law_spots [0] [] 1 (bCons (eVar 2) bNil)))
    (seqS (parS [5, 6] (rCons (callE F__law_order [0, 1] [] 2 (bCons (eVar 0) (bCons (bltE lenW (rCons (eVar 4) rNil)) bNil))) (rCons (callE F__law_draw [0, 1] [] 2 (bCons (eVar 0) (bCons (eC (.int 5)) bNil))) rNil)))
    (seqS (forS (ofL rng1 (aCons (ifE (eTst truthB (op2 gtW (eVar 6) (eC (.int 0)))) (callE F__law_draw [0, 1] [] 2 (bCons (eVar 0) (bCons (op2 addD (bltE min2W (rCons (eC (.int 20)) (rCons (op2 fdivD (bltE lenW (rCons (eVar 4) rNil)) (eC (.int 2))) rNil))) (eC (.int 1))) bNil))) (bltE min2W (rCons (eC (.int 20)) (rCons (op2 fdivD (bltE lenW (rCons (eVar 4) rNil)) (eC (.int 2))) rNil)))) aNil)) (nmG 7)
    (seqS (asgS (bltE sortW (rCons (bindE (aCons (op2 getW (eVar 4) (op2 getW (eVar 5) (op2 mulA (eC (.int 2)) (eVar 7)))) (aCons (op2 getW (eVar 4) (op2 getW (eVar 5) (op2 addD (op2 mulA (eC (.int 2)) (eVar 7)) (eC (.int 1))))) aNil)) lstOf) rNil)) (seqG 2 (consG (nmG 8) (consG (nmG 9) nilG))))
    (exprS (methL appD (eVar 3) (aCons (bindE (aCons (eVar 8) (aCons (eVar 9) aNil)) tupOf) aNil)))))
    (retS (bindE (aCons (eVar 2) (aCons (bltE tupW (rCons (bltE sortW (rCons (eVar 3) rNil)) rNil)) aNil)) tupOf))))))
def F__law_floor : List D → Option Dk → RF := runF 10 M__law_floor
theorem bd__law_floor_2 {K : PySem.W.Frag} {f : Addr} {fd : FuncData} (F : Fun K "_law_floor" "_law_floor" S__law_floor f fd) : Bd K fd ["_law_deck_here", "_law_most"] 2 [] [0, 1] [] [] := by
  obtain ⟨oc, od, kV, doc, pm, an, cdv, ct, osl, rfl, lk, hcd⟩ := F.ex
  exact ⟨⟨[], .nil, fun s us ws hK l1 l2 => match us, ws, l1, l2 with | [u0, u1], [], _, _ => .of_eq rfl⟩, fun _ _ => .nil, rfl, by decide⟩
set_option maxHeartbeats 0 in
theorem ok__law_floor {P : Program} {w : World} {K : PySem.W.Frag} {mg : Str → Option Value} {base : Heap} (h__law_draw : Cal P w K mg base 1 "_law_draw" S__law_draw ["_law_deck_here", "_law_many"] F__law_draw) (h__law_order : Cal P w K mg base 2 "_law_order" S__law_order ["_law_deck_here", "_law_n"] F__law_order) (h__law_rings : Cal P w K mg base 3 "_law_rings" S__law_rings ["_law_deck_here", "_law_most"] F__law_rings) (h__law_spots : Cal P w K mg base 1 "_law_spots" S__law_spots ["_law_rings_here"] F__law_spots) (z_len : mg "len" = none) (z_min : mg "min" = none) (z_range : mg "range" = none) (z_sorted : mg "sorted" = none) (z_tuple : mg "tuple" = none) {f : Addr} {fd : FuncData} (F : Fun K "_law_floor" "_law_floor" S__law_floor f fd) :
    FnG P w K mg base 4 f fd ["_law_deck_here", "_law_most"] F__law_floor :=
  have sc := sc__law_floor
  fng F sc fun cdv A outer s H E hr =>
    (dss_cons (ds_par (i := 2) (j := 3) (by rfl) sc.nd rfl rfl (by decide) rfl rfl (dr_cons (de_callC h__law_rings hr (by decide) (by rfl) bd__law_rings_2 (takes_of rfl rfl rfl rfl) (db_cons (de_var (pv 0)) (db_cons (de_var (pv 1)) db_nil))) (dr_cons (de_lst da_nil) dr_nil)) (by rfl))
    (dss_cons (ds_set (i := 4) sc.nd rfl (by first | exact .inl rfl | exact .inr rfl) (de_callC h__law_spots hr (by decide) (by rfl) bd__law_spots_1 (takes_of rfl rfl rfl rfl) (db_cons (de_var (pv 2)) db_nil)))
    (dss_cons (ds_par (i := 5) (j := 6) (by rfl) sc.nd rfl rfl (by decide) rfl rfl (dr_cons (de_callC h__law_order hr (by decide) (by rfl) bd__law_order_2 (takes_of rfl rfl rfl rfl) (db_cons (de_var (pv 0)) (db_cons (de_blt call_len pb_len (by rfl) z_len boot_len (dr_cons (de_var (pv 4)) dr_nil)) db_nil))) (dr_cons (de_callC h__law_draw hr (by decide) (by rfl) bd__law_draw_2 (takes_of rfl rfl rfl rfl) (db_cons (de_var (pv 0)) (db_cons de_int db_nil))) dr_nil)) (by rfl))
    (dss_cons (ds_for (passes_of rfl) (by rfl) (di_range1 (by rfl) z_range (da_cons (de_if (dt_cmp op_gt pu_gt (nomark _) (de_var (pv 6)) de_int) (de_callC h__law_draw hr (by decide) (by rfl) bd__law_draw_2 (takes_of rfl rfl rfl rfl) (db_cons (de_var (pv 0)) (db_cons (de_add (de_blt (call_min2 (by rfl)) pb_min2 (by rfl) z_min boot_min (dr_cons de_int (dr_cons (de_fdiv (de_blt call_len pb_len (by rfl) z_len boot_len (dr_cons (de_var (pv 4)) dr_nil)) de_int) dr_nil))) de_int) db_nil))) (de_blt (call_min2 (by rfl)) pb_min2 (by rfl) z_min boot_min (dr_cons de_int (dr_cons (de_fdiv (de_blt call_len pb_len (by rfl) z_len boot_len (dr_cons (de_var (pv 4)) dr_nil)) de_int) dr_nil)))) da_nil)) (dg_name (i := 7) sc.nd rfl (by first | exact .inl rfl | exact .inr rfl)) (dss_cons (ds_asg (de_blt (cr_sortA (by rfl) hr.u70) pb_sort (by rfl) z_sorted boot_sorted (dr_cons (de_lst (da_cons (de_ix hr.u1 (de_var (pv 4)) (de_ix hr.u1 (de_var (pv 5)) (de_mulA de_int (de_var (pv 7))))) (da_cons (de_ix hr.u1 (de_var (pv 4)) (de_ix hr.u1 (de_var (pv 5)) (de_add (de_mulA de_int (de_var (pv 7))) de_int))) da_nil))) dr_nil)) (dg_seq (by rfl) (dgs_cons (dg_name (i := 8) sc.nd rfl (by first | exact .inl rfl | exact .inr rfl)) (dgs_cons (dg_name (i := 9) sc.nd rfl (by first | exact .inl rfl | exact .inr rfl)) dgs_nil))))
    (dss_one (ds_expr (de_append (de_var (pv 3)) (da_cons (de_tup (da_cons (de_var (pv 8)) (da_cons (de_var (pv 9)) da_nil))) da_nil))))))
    (dss_one (ds_ret (de_tup (da_cons (de_var (pv 2)) (da_cons (de_blty call_tuple_of pb_tup (by rfl) z_tuple boot_tuple (dr_cons (de_blt (cr_sortA (by rfl) hr.u70) pb_sort (by rfl) z_sorted boot_sorted (dr_cons (de_var (pv 3)) dr_nil)) dr_nil)) da_nil)))))))))

/-! ### _law_call -/
abbrev S__law_call : Stmt := topS 52
abbrev N__law_call : List Str := ["_law_deck_here", "_law_floor_here", "_law_number"]
theorem sc__law_call : FnScope N__law_call ["_law_deck_here", "_law_floor_here"] (defScope S__law_call) := ⟨rfl, rfl, rfl, by decide +kernel, rfl, by decide +kernel, by decide +kernel⟩
def M__law_call : Ev Fl :=
  (retS (bltE tupW (rCons (lcE [2] (ofL rng1 (aCons (bltE lenW (rCons (op2 getW (eVar 1) (eC (.int 1))) rNil)) aNil)) (nmG 2) (lcB (eTst truthB (op2 eqW (callE F__law_draw [0, 1] [] 2 (bCons (eVar 0) (bCons (eC (.int 2)) bNil))) (eC (.int 0)))) (lcP (eVar 2)))) rNil)))
def F__law_call : List D → Option Dk → RF := runF 3 M__law_call
theorem bd__law_call_2 {K : PySem.W.Frag} {f : Addr} {fd : FuncData} (F : Fun K "_law_call" "_law_call" S__law_call f fd) : Bd K fd ["_law_deck_here", "_law_floor_here"] 2 [] [0, 1] [] [] := by
  obtain ⟨oc, od, kV, doc, pm, an, cdv, ct, osl, rfl, lk, hcd⟩ := F.ex
  exact ⟨⟨[], .nil, fun s us ws hK l1 l2 => match us, ws, l1, l2 with | [u0, u1], [], _, _ => .of_eq rfl⟩, fun _ _ => .nil, rfl, by decide⟩
set_option maxHeartbeats 0 in
theorem ok__law_call {P : Program} {w : World} {K : PySem.W.Frag} {mg : Str → Option Value} {base : Heap} (h__law_draw : Cal P w K mg base 1 "_law_draw" S__law_draw ["_law_deck_here", "_law_many"] F__law_draw) (z_len : mg "len" = none) (z_range : mg "range" = none) (z_tuple : mg "tuple" = none) {f : Addr} {fd : FuncData} (F : Fun K "_law_call" "_law_call" S__law_call f fd) :
    FnG P w K mg base 2 f fd ["_law_deck_here", "_law_floor_here"] F__law_call :=
  have sc := sc__law_call
  fng F sc fun cdv A outer s H E hr =>
    (dss_one (ds_ret (de_blty call_tuple_of pb_tup (by rfl) z_tuple boot_tuple (dr_cons (de_lc (own := [("_law_number", 2)]) (by rfl) sc.nd (blkOk_by (N := N__law_call) (sc := defScope S__law_call) (by decide +kernel)) (di_range1 (by rfl) z_range (da_cons (de_blt call_len pb_len (by rfl) z_len boot_len (dr_cons (de_ix hr.u1 (de_var (pv 1)) de_int) dr_nil)) da_nil)) gt_name (by decide) (fun _ _ _ _ _ => (dg_name (i := 2) sc.nd rfl (by first | exact .inl rfl | exact .inr rfl))) (fun _ _ _ _ _ => dts_one (dt_cmp (op_eqD hr.u64) pu_eq (nomark _) (de_callC h__law_draw hr (by decide) (by rfl) bd__law_draw_2 takes0 (db_cons (de_var (pv 0)) (db_cons de_int db_nil))) de_int)) (fun _ _ _ _ _ => (de_var (pv 2)))) dr_nil))))

/-! ### _law_plan -/
abbrev S__law_plan : Stmt := topS 53
abbrev N__law_plan : List Str := ["_law_deck_here", "_law_floor_here", "_law_deep", "_law_great", "_law_found", "_law_turn", "_law_k"]
theorem sc__law_plan : FnScope N__law_plan ["_law_deck_here", "_law_floor_here", "_law_deep", "_law_great"] (defScope S__law_plan) := ⟨rfl, rfl, rfl, by decide +kernel, rfl, by decide +kernel, by decide +kernel⟩
def M__law_plan (R__law_plan : List D → Option Dk → RF) : Ev Fl :=
  (seqS (setS 4 (bindE aNil lstOf))
    (seqS (forS (ofL rng1 (aCons (callE F__law_draw [0, 1] [] 2 (bCons (eVar 0) (bCons (eC (.int 4)) bNil))) aNil)) (nmG 5)
    (ifS (andT (eTst truthB (op2 gtW (eVar 2) (eC (.int 0)))) (eTst truthB (op2 eqW (callE F__law_draw [0, 1] [] 2 (bCons (eVar 0) (bCons (eC (.int 3)) bNil))) (eC (.int 0)))))
    (seqS (setS 6 (callE F__law_pick [0, 1] [] 2 (bCons (eVar 0) (bCons (bindE (aCons (eC (.int 0)) (aCons (eC (.int 1)) (aCons (eC (.int 2)) (aCons (eC (.int 3)) (aCons (eC (.int 5)) (aCons (eC (.int 2)) aNil)))))) tupOf) bNil))))
    (seqS (ifS (andT (eTst truthD (eVar 3)) (eTst truthB (op2 eqW (callE F__law_draw [0, 1] [] 2 (bCons (eVar 0) (bCons (eC (.int 3)) bNil))) (eC (.int 0)))))
    (setS 6 (op2 addD (callE F__law_pick [0, 1] [] 2 (bCons (eVar 0) (bCons (bindE (aCons (eC (.int 7)) (aCons (eC (.int 60)) (aCons (op2 powD (eC (.int 10)) (eC (.int 6))) aNil))) tupOf) bNil))) (callE F__law_draw [0, 1] [] 2 (bCons (eVar 0) (bCons (op2 powD (eC (.int 10)) (eC (.int 6))) bNil)))))
    (okE .next))
    (exprS (methL appD (eVar 4) (aCons (bindE (aCons (eC (.str "times")) (aCons (eVar 6) (aCons (callE R__law_plan [0, 1, 2, 3] [] 4 (bCons (eVar 0) (bCons (eVar 1) (bCons (op2 subD (eVar 2) (eC (.int 1))) (bCons (eVar 3) bNil))))) aNil))) tupOf) aNil)))))
    (exprS (methL appD (eVar 4) (aCons (bindE (aCons (eC (.str "beat")) (aCons (callE F__law_call [0, 1] [] 2 (bCons (eVar 0) (bCons (eVar 1) bNil))) aNil)) tupOf) aNil)))))
    (retS (bltE tupW (rCons (eVar 4) rNil)))))
def F__law_plan : Nat → List D → Option Dk → RF
  | 0 => fun _ _ => .stuck
  | n + 1 => runF 7 (M__law_plan (F__law_plan n))
theorem bd__law_plan_4 {K : PySem.W.Frag} {f : Addr} {fd : FuncData} (F : Fun K "_law_plan" "_law_plan" S__law_plan f fd) : Bd K fd ["_law_deck_here", "_law_floor_here", "_law_deep", "_law_great"] 4 [] [0, 1, 2, 3] [] [] := by
  obtain ⟨oc, od, kV, doc, pm, an, cdv, ct, osl, rfl, lk, hcd⟩ := F.ex
  exact ⟨⟨[], .nil, fun s us ws hK l1 l2 => match us, ws, l1, l2 with | [u0, u1, u2, u3], [], _, _ => .of_eq rfl⟩, fun _ _ => .nil, rfl, by decide⟩
set_option maxHeartbeats 0 in
theorem ok__law_plan {P : Program} {w : World} {K : PySem.W.Frag} {mg : Str → Option Value} {base : Heap} (h__law_call : Cal P w K mg base 2 "_law_call" S__law_call ["_law_deck_here", "_law_floor_here"] F__law_call) (h__law_draw : Cal P w K mg base 1 "_law_draw" S__law_draw ["_law_deck_here", "_law_many"] F__law_draw) (h__law_pick : Cal P w K mg base 2 "_law_pick" S__law_pick ["_law_deck_here", "_law_some"] F__law_pick) (z_range : mg "range" = none) (z_tuple : mg "tuple" = none) {f0 : Addr} {fd0 : FuncData} (F0 : Fun K "_law_plan" "_law_plan" S__law_plan f0 fd0) (g0 : mg "_law_plan" = some (.ref f0)) : ∀ n : Nat, FnG P w K mg base (2 + n) f0 fd0 ["_law_deck_here", "_law_floor_here", "_law_deep", "_law_great"] (F__law_plan n) := by
  intro n
  induction n with
  | zero => exact fng_stuck
  | succ n ih =>
    have h__law_plan : Cal P w K mg base (2 + n) "_law_plan" S__law_plan ["_law_deck_here", "_law_floor_here", "_law_deep", "_law_great"] (F__law_plan n) := ⟨f0, fd0, F0, ih, g0⟩
    exact (by
      have F := F0
      have sc := sc__law_plan
      exact fng (k := 2 + n) F sc fun cdv A outer s H E hr =>
    (dss_cons (ds_set (i := 4) sc.nd rfl (by first | exact .inl rfl | exact .inr rfl) (de_lst da_nil))
    (dss_cons (ds_for (passes_of rfl) (by rfl) (di_range1 (by rfl) z_range (da_cons (de_callC h__law_draw hr (by omega) (by rfl) bd__law_draw_2 (takes_of rfl rfl rfl rfl) (db_cons (de_var (pv 0)) (db_cons de_int db_nil))) da_nil)) (dg_name (i := 5) sc.nd rfl (by first | exact .inl rfl | exact .inr rfl)) (dss_one (ds_if (dt_w (dw_and (dt_cmp op_gt pu_gt (nomark _) (de_var (pv 2)) de_int) (dw_and1 (dt_cmp (op_eqD hr.u64) pu_eq (nomark _) (de_callC h__law_draw hr (by omega) (by rfl) bd__law_draw_2 (takes_of rfl rfl rfl rfl) (db_cons (de_var (pv 0)) (db_cons de_int db_nil))) de_int)))) (dss_cons (ds_set (i := 6) sc.nd rfl (by first | exact .inl rfl | exact .inr rfl) (de_callC h__law_pick hr (by omega) (by rfl) bd__law_pick_2 (takes_of rfl rfl rfl rfl) (db_cons (de_var (pv 0)) (db_cons (de_tup (da_cons de_int (da_cons de_int (da_cons de_int (da_cons de_int (da_cons de_int (da_cons de_int da_nil))))))) db_nil))))
    (dss_cons (ds_if (dt_w (dw_and (dt_val (de_var (pv 3))) (dw_and1 (dt_cmp (op_eqD hr.u64) pu_eq (nomark _) (de_callC h__law_draw hr (by omega) (by rfl) bd__law_draw_2 (takes_of rfl rfl rfl rfl) (db_cons (de_var (pv 0)) (db_cons de_int db_nil))) de_int)))) (dss_one (ds_set (i := 6) sc.nd rfl (by first | exact .inl rfl | exact .inr rfl) (de_add (de_callC h__law_pick hr (by omega) (by rfl) bd__law_pick_2 (takes_of rfl rfl rfl rfl) (db_cons (de_var (pv 0)) (db_cons (de_tup (da_cons de_int (da_cons de_int (da_cons (de_pow de_int de_int) da_nil)))) db_nil))) (de_callC h__law_draw hr (by omega) (by rfl) bd__law_draw_2 (takes_of rfl rfl rfl rfl) (db_cons (de_var (pv 0)) (db_cons (de_pow de_int de_int) db_nil)))))) dss_nil)
    (dss_one (ds_expr (de_append (de_var (pv 4)) (da_cons (de_tup (da_cons de_str (da_cons (de_var (pv 6)) (da_cons (de_callC h__law_plan hr (by omega) (by rfl) bd__law_plan_4 (takes_of rfl rfl rfl rfl) (db_cons (de_var (pv 0)) (db_cons (de_var (pv 1)) (db_cons (de_minus (de_var (pv 2)) de_int) (db_cons (de_var (pv 3)) db_nil))))) da_nil)))) da_nil)))))) (dss_one (ds_expr (de_append (de_var (pv 4)) (da_cons (de_tup (da_cons de_str (da_cons (de_callC h__law_call hr (by omega) (by rfl) bd__law_call_2 (takes_of rfl rfl rfl rfl) (db_cons (de_var (pv 0)) (db_cons (de_var (pv 1)) db_nil))) da_nil))) da_nil)))))))
    (dss_one (ds_ret (de_blty call_tuple_of pb_tup (by rfl) z_tuple boot_tuple (dr_cons (de_var (pv 4)) dr_nil)))))))

/-! ### is_pair -/
abbrev S_is_pair : Stmt := topS 10
abbrev N_is_pair : List Str := ["thing"]
theorem sc_is_pair : FnScope N_is_pair ["thing"] (defScope S_is_pair) := ⟨rfl, rfl, rfl, by decide +kernel, rfl, by decide +kernel, by decide +kernel⟩
def M_is_pair : Ev Fl :=
  (retS (andV (isiE "tuple" (eVar 0)) (op2 eqW (bltE lenW (rCons (eVar 0) rNil)) (eC (.int 2)))))
def F_is_pair : List D → Option Dk → RF := runF 1 M_is_pair
theorem bd_is_pair_1 {K : PySem.W.Frag} {f : Addr} {fd : FuncData} (F : Fun K "is_pair" "is_pair" S_is_pair f fd) : Bd K fd ["thing"] 1 [] [0] [] [] := by
  obtain ⟨oc, od, kV, doc, pm, an, cdv, ct, osl, rfl, lk, hcd⟩ := F.ex
  exact ⟨⟨[], .nil, fun s us ws hK l1 l2 => match us, ws, l1, l2 with | [u0], [], _, _ => .of_eq rfl⟩, fun _ _ => .nil, rfl, by decide⟩
set_option maxHeartbeats 0 in
theorem ok_is_pair {P : Program} {w : World} {K : PySem.W.Frag} {mg : Str → Option Value} {base : Heap} (z_isinstance : mg "isinstance" = none) (z_len : mg "len" = none) (z_tuple : mg "tuple" = none) {f : Addr} {fd : FuncData} (F : Fun K "is_pair" "is_pair" S_is_pair f fd) :
    FnG P w K mg base 1 f fd ["thing"] F_is_pair :=
  have sc := sc_is_pair
  fng F sc fun cdv A outer s H E hr =>
    (dss_one (ds_ret (de_and (de_isi (by rfl) (de_var (pv 0)) (by rfl) z_isinstance (pe_bltn (by rfl) z_tuple boot_tuple rfl)) (de_one (de_cmp (op_eqD hr.u64) pu_eq (nomark _) (de_blt call_len pb_len (by rfl) z_len boot_len (dr_cons (de_var (pv 0)) dr_nil)) de_int)))))

/-! ### is_integer -/
abbrev S_is_integer : Stmt := topS 7
abbrev N_is_integer : List Str := ["thing"]
theorem sc_is_integer : FnScope N_is_integer ["thing"] (defScope S_is_integer) := ⟨rfl, rfl, rfl, by decide +kernel, rfl, by decide +kernel, by decide +kernel⟩
def M_is_integer : Ev Fl :=
  (retS (andV (isiE "int" (eVar 0)) (notV (isiE "bool" (eVar 0)))))
def F_is_integer : List D → Option Dk → RF := runF 1 M_is_integer
theorem bd_is_integer_1 {K : PySem.W.Frag} {f : Addr} {fd : FuncData} (F : Fun K "is_integer" "is_integer" S_is_integer f fd) : Bd K fd ["thing"] 1 [] [0] [] [] := by
  obtain ⟨oc, od, kV, doc, pm, an, cdv, ct, osl, rfl, lk, hcd⟩ := F.ex
  exact ⟨⟨[], .nil, fun s us ws hK l1 l2 => match us, ws, l1, l2 with | [u0], [], _, _ => .of_eq rfl⟩, fun _ _ => .nil, rfl, by decide⟩
set_option maxHeartbeats 0 in
theorem ok_is_integer {P : Program} {w : World} {K : PySem.W.Frag} {mg : Str → Option Value} {base : Heap} (z_bool : mg "bool" = none) (z_int : mg "int" = none) (z_isinstance : mg "isinstance" = none) {f : Addr} {fd : FuncData} (F : Fun K "is_integer" "is_integer" S_is_integer f fd) :
    FnG P w K mg base 1 f fd ["thing"] F_is_integer :=
  have sc := sc_is_integer
  fng F sc fun cdv A outer s H E hr =>
    (dss_one (ds_ret (de_and (de_isi (by rfl) (de_var (pv 0)) (by rfl) z_isinstance (pe_bltn (by rfl) z_int boot_int rfl)) (de_one (de_not (de_isi (by rfl) (de_var (pv 0)) (by rfl) z_isinstance (pe_bltn (by rfl) z_bool boot_bool rfl)))))))

/-! ### is_from -/
abbrev S_is_from : Stmt := topS 8
abbrev N_is_from : List Str := ["thing", "least"]
theorem sc_is_from : FnScope N_is_from ["thing", "least"] (defScope S_is_from) := ⟨rfl, rfl, rfl, by decide +kernel, rfl, by decide +kernel, by decide +kernel⟩
def M_is_from : Ev Fl :=
  (retS (andV (callE F_is_integer [0] [] 1 (bCons (eVar 0) bNil)) (op2 geW (eVar 0) (eVar 1))))
def F_is_from : List D → Option Dk → RF := runF 2 M_is_from
theorem bd_is_from_2 {K : PySem.W.Frag} {f : Addr} {fd : FuncData} (F : Fun K "is_from" "is_from" S_is_from f fd) : Bd K fd ["thing", "least"] 2 [] [0, 1] [] [] := by
  obtain ⟨oc, od, kV, doc, pm, an, cdv, ct, osl, rfl, lk, hcd⟩ := F.ex
  exact ⟨⟨[], .nil, fun s us ws hK l1 l2 => match us, ws, l1, l2 with | [u0, u1], [], _, _ => .of_eq rfl⟩, fun _ _ => .nil, rfl, by decide⟩
set_option maxHeartbeats 0 in
theorem ok_is_from {P : Program} {w : World} {K : PySem.W.Frag} {mg : Str → Option Value} {base : Heap} (h_is_integer : Cal P w K mg base 1 "is_integer" S_is_integer ["thing"] F_is_integer) {f : Addr} {fd : FuncData} (F : Fun K "is_from" "is_from" S_is_from f fd) :
    FnG P w K mg base 2 f fd ["thing", "least"] F_is_from :=
  have sc := sc_is_from
  fng F sc fun cdv A outer s H E hr =>
    (dss_one (ds_ret (de_and (de_callC h_is_integer hr (by decide) (by rfl) bd_is_integer_1 (takes_of rfl rfl rfl rfl) (db_cons (de_var (pv 0)) db_nil)) (de_one (de_cmp op_ge pu_ge (nomark _) (de_var (pv 0)) (de_var (pv 1)))))))

/-! ### are_rings_value -/
abbrev S_are_rings_value : Stmt := topS 11
abbrev N_are_rings_value : List Str := ["thing", "length"]
theorem sc_are_rings_value : FnScope N_are_rings_value ["thing"] (defScope S_are_rings_value) := ⟨rfl, rfl, rfl, by decide +kernel, rfl, by decide +kernel, by decide +kernel⟩
def M_are_rings_value : Ev Fl :=
  (retS (andV (isiE "tuple" (eVar 0)) (andV (chainE leW leW (eC (.int 1)) (bltE lenW (rCons (eVar 0) rNil)) (eC (.int 40))) (bltE allW (rCons (lcE [1] (seqM (eVar 0)) (nmG 1) (lcB (okE true) (lcP (callE F_is_from [0, 1] [] 2 (bCons (eVar 1) (bCons (eC (.int 1)) bNil)))))) rNil)))))
def F_are_rings_value : List D → Option Dk → RF := runF 2 M_are_rings_value
theorem bd_are_rings_value_1 {K : PySem.W.Frag} {f : Addr} {fd : FuncData} (F : Fun K "are_rings_value" "are_rings_value" S_are_rings_value f fd) : Bd K fd ["thing"] 1 [] [0] [] [] := by
  obtain ⟨oc, od, kV, doc, pm, an, cdv, ct, osl, rfl, lk, hcd⟩ := F.ex
  exact ⟨⟨[], .nil, fun s us ws hK l1 l2 => match us, ws, l1, l2 with | [u0], [], _, _ => .of_eq rfl⟩, fun _ _ => .nil, rfl, by decide⟩
set_option maxHeartbeats 0 in
theorem ok_are_rings_value {P : Program} {w : World} {K : PySem.W.Frag} {mg : Str → Option Value} {base : Heap} (h_is_from : Cal P w K mg base 2 "is_from" S_is_from ["thing", "least"] F_is_from) (z_all : mg "all" = none) (z_isinstance : mg "isinstance" = none) (z_len : mg "len" = none) (z_tuple : mg "tuple" = none) (c_MOST_RINGS : ∃ u, mg "MOST_RINGS" = some u ∧ RelV (.int 40) u) {f : Addr} {fd : FuncData} (F : Fun K "are_rings_value" "are_rings_value" S_are_rings_value f fd) :
    FnG P w K mg base 3 f fd ["thing"] F_are_rings_value :=
  have sc := sc_are_rings_value
  fng F sc fun cdv A outer s H E hr =>
    (dss_one (ds_ret (de_and (de_isi (by rfl) (de_var (pv 0)) (by rfl) z_isinstance (pe_bltn (by rfl) z_tuple boot_tuple rfl)) (de_and (de_chain op_le op_le pu_le pu_le de_int (de_blt call_len pb_len (by rfl) z_len boot_len (dr_cons (de_var (pv 0)) dr_nil)) (de_c (C8.pe_gc (by rfl) c_MOST_RINGS) (fun _ _ => .int _))) (de_one (de_blt (cr_all (by rfl)) pb_all (by rfl) z_all boot_all (dr_cons (de_lc (own := [("length", 1)]) (by rfl) sc.nd (blkOk_by (N := N_are_rings_value) (sc := defScope S_are_rings_value) (by decide +kernel)) (di_seq (de_var (pv 0))) gt_name (by decide) (fun _ _ _ _ _ => (dg_name (i := 1) sc.nd rfl (by first | exact .inl rfl | exact .inr rfl))) (fun _ _ _ _ _ => dts_nil) (fun _ _ _ _ _ => (de_callC h_is_from hr (by decide) (by rfl) bd_is_from_2 takes0 (db_cons (de_var (pv 1)) (db_cons de_int db_nil))))) dr_nil)))))))

/-! ### is_between -/
abbrev S_is_between : Stmt := topS 9
abbrev N_is_between : List Str := ["thing", "least", "most"]
theorem sc_is_between : FnScope N_is_between ["thing", "least", "most"] (defScope S_is_between) := ⟨rfl, rfl, rfl, by decide +kernel, rfl, by decide +kernel, by decide +kernel⟩
def M_is_between : Ev Fl :=
  (retS (andV (callE F_is_integer [0] [] 1 (bCons (eVar 0) bNil)) (chainE leW leW (eVar 1) (eVar 0) (eVar 2))))
def F_is_between : List D → Option Dk → RF := runF 3 M_is_between
theorem bd_is_between_3 {K : PySem.W.Frag} {f : Addr} {fd : FuncData} (F : Fun K "is_between" "is_between" S_is_between f fd) : Bd K fd ["thing", "least", "most"] 3 [] [0, 1, 2] [] [] := by
  obtain ⟨oc, od, kV, doc, pm, an, cdv, ct, osl, rfl, lk, hcd⟩ := F.ex
  exact ⟨⟨[], .nil, fun s us ws hK l1 l2 => match us, ws, l1, l2 with | [u0, u1, u2], [], _, _ => .of_eq rfl⟩, fun _ _ => .nil, rfl, by decide⟩
set_option maxHeartbeats 0 in
theorem ok_is_between {P : Program} {w : World} {K : PySem.W.Frag} {mg : Str → Option Value} {base : Heap} (h_is_integer : Cal P w K mg base 1 "is_integer" S_is_integer ["thing"] F_is_integer) {f : Addr} {fd : FuncData} (F : Fun K "is_between" "is_between" S_is_between f fd) :
    FnG P w K mg base 2 f fd ["thing", "least", "most"] F_is_between :=
  have sc := sc_is_between
  fng F sc fun cdv A outer s H E hr =>
    (dss_one (ds_ret (de_and (de_callC h_is_integer hr (by decide) (by rfl) bd_is_integer_1 (takes_of rfl rfl rfl rfl) (db_cons (de_var (pv 0)) db_nil)) (de_one (de_chain op_le op_le pu_le pu_le (de_var (pv 1)) (de_var (pv 0)) (de_var (pv 2)))))))

/-! ### is_place_of -/
abbrev S_is_place_of : Stmt := topS 12
abbrev N_is_place_of : List Str := ["rings", "thing"]
theorem sc_is_place_of : FnScope N_is_place_of ["rings", "thing"] (defScope S_is_place_of) := ⟨rfl, rfl, rfl, by decide +kernel, rfl, by decide +kernel, by decide +kernel⟩
def M_is_place_of : Ev Fl :=
  (seqS (ifS (orT (bindE (eTst truthD (callE F_is_pair [0] [] 1 (bCons (eVar 1) bNil))) fun b => okE (!b)) (bindE (eTst truthD (callE F_is_between [0, 1, 2] [] 3 (bCons (op2 getW (eVar 1) (eC (.int 0))) (bCons (eC (.int 0)) (bCons (op2 subD (bltE lenW (rCons (eVar 0) rNil)) (eC (.int 1))) bNil))))) fun b => okE (!b)))
    (retS (eC (.bl false)))
    (okE .next))
    (retS (callE F_is_between [0, 1, 2] [] 3 (bCons (op2 getW (eVar 1) (eC (.int 1))) (bCons (eC (.int 0)) (bCons (op2 subD (op2 getW (eVar 0) (op2 getW (eVar 1) (eC (.int 0)))) (eC (.int 1))) bNil))))))
def F_is_place_of : List D → Option Dk → RF := runF 2 M_is_place_of
theorem bd_is_place_of_2 {K : PySem.W.Frag} {f : Addr} {fd : FuncData} (F : Fun K "is_place_of" "is_place_of" S_is_place_of f fd) : Bd K fd ["rings", "thing"] 2 [] [0, 1] [] [] := by
  obtain ⟨oc, od, kV, doc, pm, an, cdv, ct, osl, rfl, lk, hcd⟩ := F.ex
  exact ⟨⟨[], .nil, fun s us ws hK l1 l2 => match us, ws, l1, l2 with | [u0, u1], [], _, _ => .of_eq rfl⟩, fun _ _ => .nil, rfl, by decide⟩
set_option maxHeartbeats 0 in
theorem ok_is_place_of {P : Program} {w : World} {K : PySem.W.Frag} {mg : Str → Option Value} {base : Heap} (h_is_between : Cal P w K mg base 2 "is_between" S_is_between ["thing", "least", "most"] F_is_between) (h_is_pair : Cal P w K mg base 1 "is_pair" S_is_pair ["thing"] F_is_pair) (z_len : mg "len" = none) {f : Addr} {fd : FuncData} (F : Fun K "is_place_of" "is_place_of" S_is_place_of f fd) :
    FnG P w K mg base 3 f fd ["rings", "thing"] F_is_place_of :=
  have sc := sc_is_place_of
  fng F sc fun cdv A outer s H E hr =>
    (dss_cons (ds_if (dt_w (dw_or (dt_not (dt_val (de_callC h_is_pair hr (by decide) (by rfl) bd_is_pair_1 (takes_of rfl rfl rfl rfl) (db_cons (de_var (pv 1)) db_nil)))) (dw_or1 (dt_not (dt_val (de_callC h_is_between hr (by decide) (by rfl) bd_is_between_3 (takes_of rfl rfl rfl rfl) (db_cons (de_ix hr.u1 (de_var (pv 1)) de_int) (db_cons de_int (db_cons (de_minus (de_blt call_len pb_len (by rfl) z_len boot_len (dr_cons (de_var (pv 0)) dr_nil)) de_int) db_nil))))))))) (dss_one (ds_ret de_bl)) dss_nil)
    (dss_one (ds_ret (de_callC h_is_between hr (by decide) (by rfl) bd_is_between_3 (takes_of rfl rfl rfl rfl) (db_cons (de_ix hr.u1 (de_var (pv 1)) de_int) (db_cons de_int (db_cons (de_minus (de_ix hr.u1 (de_var (pv 0)) (de_ix hr.u1 (de_var (pv 1)) de_int)) de_int) db_nil)))))))

/-! ### is_touch_of -/
abbrev S_is_touch_of : Stmt := topS 13
abbrev N_is_touch_of : List Str := ["rings", "thing"]
theorem sc_is_touch_of : FnScope N_is_touch_of ["rings", "thing"] (defScope S_is_touch_of) := ⟨rfl, rfl, rfl, by decide +kernel, rfl, by decide +kernel, by decide +kernel⟩
def M_is_touch_of : Ev Fl :=
  (seqS (ifS (orT (bindE (eTst truthD (callE F_is_pair [0] [] 1 (bCons (eVar 1) bNil))) fun b => okE (!b)) (orT (bindE (eTst truthD (callE F_is_place_of [0, 1] [] 2 (bCons (eVar 0) (bCons (op2 getW (eVar 1) (eC (.int 0))) bNil)))) fun b => okE (!b)) (bindE (eTst truthD (callE F_is_place_of [0, 1] [] 2 (bCons (eVar 0) (bCons (op2 getW (eVar 1) (eC (.int 1))) bNil)))) fun b => okE (!b))))
    (retS (eC (.bl false)))
    (okE .next))
    (retS (op2 ltW (op2 getW (eVar 1) (eC (.int 0))) (op2 getW (eVar 1) (eC (.int 1))))))
def F_is_touch_of : List D → Option Dk → RF := runF 2 M_is_touch_of
theorem bd_is_touch_of_2 {K : PySem.W.Frag} {f : Addr} {fd : FuncData} (F : Fun K "is_touch_of" "is_touch_of" S_is_touch_of f fd) : Bd K fd ["rings", "thing"] 2 [] [0, 1] [] [] := by
  obtain ⟨oc, od, kV, doc, pm, an, cdv, ct, osl, rfl, lk, hcd⟩ := F.ex
  exact ⟨⟨[], .nil, fun s us ws hK l1 l2 => match us, ws, l1, l2 with | [u0, u1], [], _, _ => .of_eq rfl⟩, fun _ _ => .nil, rfl, by decide⟩
set_option maxHeartbeats 0 in
theorem ok_is_touch_of {P : Program} {w : World} {K : PySem.W.Frag} {mg : Str → Option Value} {base : Heap} (h_is_pair : Cal P w K mg base 1 "is_pair" S_is_pair ["thing"] F_is_pair) (h_is_place_of : Cal P w K mg base 3 "is_place_of" S_is_place_of ["rings", "thing"] F_is_place_of) {f : Addr} {fd : FuncData} (F : Fun K "is_touch_of" "is_touch_of" S_is_touch_of f fd) :
    FnG P w K mg base 4 f fd ["rings", "thing"] F_is_touch_of :=
  have sc := sc_is_touch_of
  fng F sc fun cdv A outer s H E hr =>
    (dss_cons (ds_if (dt_w (dw_or (dt_not (dt_val (de_callC h_is_pair hr (by decide) (by rfl) bd_is_pair_1 (takes_of rfl rfl rfl rfl) (db_cons (de_var (pv 1)) db_nil)))) (dw_or (dt_not (dt_val (de_callC h_is_place_of hr (by decide) (by rfl) bd_is_place_of_2 (takes_of rfl rfl rfl rfl) (db_cons (de_var (pv 0)) (db_cons (de_ix hr.u1 (de_var (pv 1)) de_int) db_nil))))) (dw_or1 (dt_not (dt_val (de_callC h_is_place_of hr (by decide) (by rfl) bd_is_place_of_2 (takes_of rfl rfl rfl rfl) (db_cons (de_var (pv 0)) (db_cons (de_ix hr.u1 (de_var (pv 1)) de_int) db_nil))))))))) (dss_one (ds_ret de_bl)) dss_nil)
    (dss_one (ds_ret (de_cmp (op_ltD hr.u200) pu_lt (nomark _) (de_ix hr.u1 (de_var (pv 1)) de_int) (de_ix hr.u1 (de_var (pv 1)) de_int)))))

/-! ### are_touches_of -/
abbrev S_are_touches_of : Stmt := topS 14
abbrev N_are_touches_of : List Str := ["rings", "thing", "some", "touch", "place"]
theorem sc_are_touches_of : FnScope N_are_touches_of ["rings", "thing"] (defScope S_are_touches_of) := ⟨rfl, rfl, rfl, by decide +kernel, rfl, by decide +kernel, by decide +kernel⟩
def M_are_touches_of : Ev Fl :=
  (seqS (ifS (orT (bindE (eTst truthD (isiE "tuple" (eVar 1))) fun b => okE (!b)) (bindE (eTst truthD (bltE allW (rCons (lcE [3] (seqM (eVar 1)) (nmG 3) (lcB (okE true) (lcP (callE F_is_touch_of [0, 1] [] 2 (bCons (eVar 0) (bCons (eVar 3) bNil)))))) rNil))) fun b => okE (!b)))
    (retS (eC (.bl false)))
    (okE .next))
    (seqS (setS 2 (lcE [3, 4] (seqM (eVar 1)) (nmG 3) (lcB (okE true) (lcI (seqM (eVar 3)) (lcL [4] (nmG 4) (lcB (okE true) (lcP (eVar 4))))))))
    (retS (andV (op2 eqW (bltE listW (rCons (eVar 1) rNil)) (bltE sortW (rCons (eVar 1) rNil))) (op2 eqW (bltE lenSetW (rCons (eVar 2) rNil)) (bltE lenW (rCons (eVar 2) rNil)))))))
def F_are_touches_of : List D → Option Dk → RF := runF 5 M_are_touches_of
theorem bd_are_touches_of_2 {K : PySem.W.Frag} {f : Addr} {fd : FuncData} (F : Fun K "are_touches_of" "are_touches_of" S_are_touches_of f fd) : Bd K fd ["rings", "thing"] 2 [] [0, 1] [] [] := by
  obtain ⟨oc, od, kV, doc, pm, an, cdv, ct, osl, rfl, lk, hcd⟩ := F.ex
  exact ⟨⟨[], .nil, fun s us ws hK l1 l2 => match us, ws, l1, l2 with | [u0, u1], [], _, _ => .of_eq rfl⟩, fun _ _ => .nil, rfl, by decide⟩
set_option maxHeartbeats 0 in
theorem ok_are_touches_of {P : Program} {w : World} {K : PySem.W.Frag} {mg : Str → Option Value} {base : Heap} (h_is_touch_of : Cal P w K mg base 4 "is_touch_of" S_is_touch_of ["rings", "thing"] F_is_touch_of) (z_all : mg "all" = none) (z_isinstance : mg "isinstance" = none) (z_len : mg "len" = none) (z_list : mg "list" = none) (z_set : mg "set" = none) (z_sorted : mg "sorted" = none) (z_tuple : mg "tuple" = none) {f : Addr} {fd : FuncData} (F : Fun K "are_touches_of" "are_touches_of" S_are_touches_of f fd) :
    FnG P w K mg base 5 f fd ["rings", "thing"] F_are_touches_of :=
  have sc := sc_are_touches_of
  fng F sc fun cdv A outer s H E hr =>
    (dss_cons (ds_if (dt_w (dw_or (dt_not (dt_val (de_isi (by rfl) (de_var (pv 1)) (by rfl) z_isinstance (pe_bltn (by rfl) z_tuple boot_tuple rfl)))) (dw_or1 (dt_not (dt_val (de_blt (cr_all (by rfl)) pb_all (by rfl) z_all boot_all (dr_cons (de_lc (own := [("touch", 3)]) (by rfl) sc.nd (blkOk_by (N := N_are_touches_of) (sc := defScope S_are_touches_of) (by decide +kernel)) (di_seq (de_var (pv 1))) gt_name (by decide) (fun _ _ _ _ _ => (dg_name (i := 3) sc.nd rfl (by first | exact .inl rfl | exact .inr rfl))) (fun _ _ _ _ _ => dts_nil) (fun _ _ _ _ _ => (de_callC h_is_touch_of hr (by decide) (by rfl) bd_is_touch_of_2 takes0 (db_cons (de_var (pv 0)) (db_cons (de_var (pv 3)) db_nil))))) dr_nil))))))) (dss_one (ds_ret de_bl)) dss_nil)
    (dss_cons (ds_setLc2 (own := [("touch", 3), ("place", 4)]) (vs1 := [4]) (by rfl) sc.nd (blkOk_by (N := N_are_touches_of) (sc := defScope S_are_touches_of) (by decide +kernel)) (by decide) (di_seq (de_var (pv 1))) gt_name (by decide) (fun _ _ _ _ _ => (dg_name (i := 3) sc.nd rfl (by first | exact .inl rfl | exact .inr rfl))) (fun _ _ _ _ _ => dts_nil) (fun _ _ _ _ _ => (di_seq (de_var (pv 3)))) gt_name (by decide) (fun _ _ _ _ _ => (dg_name (i := 4) sc.nd rfl (by first | exact .inl rfl | exact .inr rfl))) (fun _ _ _ _ _ => dts_nil) (fun _ _ _ _ _ => (de_var (pv 4))) (i := 2) rfl rfl (by rfl))
    (dss_one (ds_ret (de_and (de_cmp (op_eqD hr.u64) pu_eq (nomark _) (de_blty (call_listAll (by rfl)) pb_list (by rfl) z_list boot_list (dr_cons (de_var (pv 1)) dr_nil)) (de_blt (cr_sortA (by rfl) hr.u70) pb_sort (by rfl) z_sorted boot_sorted (dr_cons (de_var (pv 1)) dr_nil))) (de_one (de_cmp (op_eqD hr.u64) pu_eq (nomark _) (de_lenSet (by rfl) hr.u64 (by rfl) z_len (by rfl) z_set (dr_cons (de_var (pv 2)) dr_nil)) (de_blt call_len pb_len (by rfl) z_len boot_len (dr_cons (de_var (pv 2)) dr_nil)))))))))

/-! ### is_floor_value -/
abbrev S_is_floor_value : Stmt := topS 15
abbrev N_is_floor_value : List Str := ["thing"]
theorem sc_is_floor_value : FnScope N_is_floor_value ["thing"] (defScope S_is_floor_value) := ⟨rfl, rfl, rfl, by decide +kernel, rfl, by decide +kernel, by decide +kernel⟩
def M_is_floor_value : Ev Fl :=
  (retS (andV (callE F_is_pair [0] [] 1 (bCons (eVar 0) bNil)) (andV (callE F_are_rings_value [0] [] 1 (bCons (op2 getW (eVar 0) (eC (.int 0))) bNil)) (callE F_are_touches_of [0, 1] [] 2 (bCons (op2 getW (eVar 0) (eC (.int 0))) (bCons (op2 getW (eVar 0) (eC (.int 1))) bNil))))))
def F_is_floor_value : List D → Option Dk → RF := runF 1 M_is_floor_value
theorem bd_is_floor_value_1 {K : PySem.W.Frag} {f : Addr} {fd : FuncData} (F : Fun K "is_floor_value" "is_floor_value" S_is_floor_value f fd) : Bd K fd ["thing"] 1 [] [0] [] [] := by
  obtain ⟨oc, od, kV, doc, pm, an, cdv, ct, osl, rfl, lk, hcd⟩ := F.ex
  exact ⟨⟨[], .nil, fun s us ws hK l1 l2 => match us, ws, l1, l2 with | [u0], [], _, _ => .of_eq rfl⟩, fun _ _ => .nil, rfl, by decide⟩
set_option maxHeartbeats 0 in
theorem ok_is_floor_value {P : Program} {w : World} {K : PySem.W.Frag} {mg : Str → Option Value} {base : Heap} (h_are_rings_value : Cal P w K mg base 3 "are_rings_value" S_are_rings_value ["thing"] F_are_rings_value) (h_are_touches_of : Cal P w K mg base 5 "are_touches_of" S_are_touches_of ["rings", "thing"] F_are_touches_of) (h_is_pair : Cal P w K mg base 1 "is_pair" S_is_pair ["thing"] F_is_pair) {f : Addr} {fd : FuncData} (F : Fun K "is_floor_value" "is_floor_value" S_is_floor_value f fd) :
    FnG P w K mg base 6 f fd ["thing"] F_is_floor_value :=
  have sc := sc_is_floor_value
  fng F sc fun cdv A outer s H E hr =>
    (dss_one (ds_ret (de_and (de_callC h_is_pair hr (by decide) (by rfl) bd_is_pair_1 (takes_of rfl rfl rfl rfl) (db_cons (de_var (pv 0)) db_nil)) (de_and (de_callC h_are_rings_value hr (by decide) (by rfl) bd_are_rings_value_1 (takes_of rfl rfl rfl rfl) (db_cons (de_ix hr.u1 (de_var (pv 0)) de_int) db_nil)) (de_one (de_callC h_are_touches_of hr (by decide) (by rfl) bd_are_touches_of_2 (takes_of rfl rfl rfl rfl) (db_cons (de_ix hr.u1 (de_var (pv 0)) de_int) (db_cons (de_ix hr.u1 (de_var (pv 0)) de_int) db_nil))))))))

/-! ### need_floor -/
abbrev S_need_floor : Stmt := topS 16
abbrev N_need_floor : List Str := ["floor"]
theorem sc_need_floor : FnScope N_need_floor ["floor"] (defScope S_need_floor) := ⟨rfl, rfl, rfl, by decide +kernel, rfl, by decide +kernel, by decide +kernel⟩
def M_need_floor : Ev Fl :=
  (ifS (bindE (eTst truthD (callE F_is_floor_value [0] [] 1 (bCons (eVar 0) bNil))) fun b => okE (!b))
    (fun _ => .stuck)
    (okE .next))
def F_need_floor : List D → Option Dk → RF := runF 1 M_need_floor
theorem bd_need_floor_1 {K : PySem.W.Frag} {f : Addr} {fd : FuncData} (F : Fun K "need_floor" "need_floor" S_need_floor f fd) : Bd K fd ["floor"] 1 [] [0] [] [] := by
  obtain ⟨oc, od, kV, doc, pm, an, cdv, ct, osl, rfl, lk, hcd⟩ := F.ex
  exact ⟨⟨[], .nil, fun s us ws hK l1 l2 => match us, ws, l1, l2 with | [u0], [], _, _ => .of_eq rfl⟩, fun _ _ => .nil, rfl, by decide⟩
set_option maxHeartbeats 0 in
theorem ok_need_floor {P : Program} {w : World} {K : PySem.W.Frag} {mg : Str → Option Value} {base : Heap} (h_is_floor_value : Cal P w K mg base 6 "is_floor_value" S_is_floor_value ["thing"] F_is_floor_value) {f : Addr} {fd : FuncData} (F : Fun K "need_floor" "need_floor" S_need_floor f fd) :
    FnG P w K mg base 7 f fd ["floor"] F_need_floor :=
  have sc := sc_need_floor
  fng F sc fun cdv A outer s H E hr =>
    (dss_one (ds_if (dt_not (dt_val (de_callC h_is_floor_value hr (by decide) (by rfl) bd_is_floor_value_1 (takes_of rfl rfl rfl rfl) (db_cons (de_var (pv 0)) db_nil)))) (dss_one ds_never) dss_nil))

/-! ### is_call -/
abbrev S_is_call : Stmt := topS 25
abbrev N_is_call : List Str := ["floor", "thing", "number"]
theorem sc_is_call : FnScope N_is_call ["floor", "thing"] (defScope S_is_call) := ⟨rfl, rfl, rfl, by decide +kernel, rfl, by decide +kernel, by decide +kernel⟩
def M_is_call : Ev Fl :=
  (seqS (ifS (orT (bindE (eTst truthD (isiE "tuple" (eVar 1))) fun b => okE (!b)) (bindE (eTst truthD (bltE allW (rCons (lcE [2] (seqM (eVar 1)) (nmG 2) (lcB (okE true) (lcP (callE F_is_between [0, 1, 2] [] 3 (bCons (eVar 2) (bCons (eC (.int 0)) (bCons (op2 subD (bltE lenW (rCons (op2 getW (eVar 0) (eC (.int 1))) rNil)) (eC (.int 1))) bNil))))))) rNil))) fun b => okE (!b)))
    (retS (eC (.bl false)))
    (okE .next))
    (retS (op2 eqW (bltE listW (rCons (eVar 1) rNil)) (bltE sortSetW (rCons (eVar 1) rNil)))))
def F_is_call : List D → Option Dk → RF := runF 3 M_is_call
theorem bd_is_call_2 {K : PySem.W.Frag} {f : Addr} {fd : FuncData} (F : Fun K "is_call" "is_call" S_is_call f fd) : Bd K fd ["floor", "thing"] 2 [] [0, 1] [] [] := by
  obtain ⟨oc, od, kV, doc, pm, an, cdv, ct, osl, rfl, lk, hcd⟩ := F.ex
  exact ⟨⟨[], .nil, fun s us ws hK l1 l2 => match us, ws, l1, l2 with | [u0, u1], [], _, _ => .of_eq rfl⟩, fun _ _ => .nil, rfl, by decide⟩
set_option maxHeartbeats 0 in
theorem ok_is_call {P : Program} {w : World} {K : PySem.W.Frag} {mg : Str → Option Value} {base : Heap} (h_is_between : Cal P w K mg base 2 "is_between" S_is_between ["thing", "least", "most"] F_is_between) (z_all : mg "all" = none) (z_isinstance : mg "isinstance" = none) (z_len : mg "len" = none) (z_list : mg "list" = none) (z_set : mg "set" = none) (z_sorted : mg "sorted" = none) (z_tuple : mg "tuple" = none) {f : Addr} {fd : FuncData} (F : Fun K "is_call" "is_call" S_is_call f fd) :
    FnG P w K mg base 3 f fd ["floor", "thing"] F_is_call :=
  have sc := sc_is_call
  fng F sc fun cdv A outer s H E hr =>
    (dss_cons (ds_if (dt_w (dw_or (dt_not (dt_val (de_isi (by rfl) (de_var (pv 1)) (by rfl) z_isinstance (pe_bltn (by rfl) z_tuple boot_tuple rfl)))) (dw_or1 (dt_not (dt_val (de_blt (cr_all (by rfl)) pb_all (by rfl) z_all boot_all (dr_cons (de_lc (own := [("number", 2)]) (by rfl) sc.nd (blkOk_by (N := N_is_call) (sc := defScope S_is_call) (by decide +kernel)) (di_seq (de_var (pv 1))) gt_name (by decide) (fun _ _ _ _ _ => (dg_name (i := 2) sc.nd rfl (by first | exact .inl rfl | exact .inr rfl))) (fun _ _ _ _ _ => dts_nil) (fun _ _ _ _ _ => (de_callC h_is_between hr (by decide) (by rfl) bd_is_between_3 takes0 (db_cons (de_var (pv 2)) (db_cons de_int (db_cons (de_minus (de_blt call_len pb_len (by rfl) z_len boot_len (dr_cons (de_ix hr.u1 (de_var (pv 0)) de_int) dr_nil)) de_int) db_nil)))))) dr_nil))))))) (dss_one (ds_ret de_bl)) dss_nil)
    (dss_one (ds_ret (de_cmp (op_eqD hr.u64) pu_eq (nomark _) (de_blty (call_listAll (by rfl)) pb_list (by rfl) z_list boot_list (dr_cons (de_var (pv 1)) dr_nil)) (de_sortSet (by rfl) (by rfl) z_sorted (by rfl) z_set (dr_cons (de_var (pv 1)) dr_nil))))))

/-! ### is_step -/
abbrev S_is_step : Stmt := topS 26
abbrev N_is_step : List Str := ["floor", "thing"]
theorem sc_is_step : FnScope N_is_step ["floor", "thing"] (defScope S_is_step) := ⟨rfl, rfl, rfl, by decide +kernel, rfl, by decide +kernel, by decide +kernel⟩
def M_is_step : Ev Fl :=
  (seqS (ifS (orT (bindE (eTst truthD (isiE "tuple" (eVar 1))) fun b => okE (!b)) (orT (eTst truthB (op2 eqW (eVar 1) (bindE aNil tupOf))) (bindE (eTst truthD (isiE "str" (op2 getW (eVar 1) (eC (.int 0))))) fun b => okE (!b))))
    (retS (eC (.bl false)))
    (okE .next))
    (seqS (ifS (eTst truthB (op2 eqW (op2 getW (eVar 1) (eC (.int 0))) (eC (.str "beat"))))
    (retS (andV (op2 eqW (bltE lenW (rCons (eVar 1) rNil)) (eC (.int 2))) (callE F_is_call [0, 1] [] 2 (bCons (eVar 0) (bCons (op2 getW (eVar 1) (eC (.int 1))) bNil)))))
    (okE .next))
    (retS (andV (op2 eqW (op2 getW (eVar 1) (eC (.int 0))) (eC (.str "times"))) (andV (op2 eqW (bltE lenW (rCons (eVar 1) rNil)) (eC (.int 3))) (callE F_is_from [0, 1] [] 2 (bCons (op2 getW (eVar 1) (eC (.int 1))) (bCons (eC (.int 0)) bNil))))))))
def F_is_step : List D → Option Dk → RF := runF 2 M_is_step
theorem bd_is_step_2 {K : PySem.W.Frag} {f : Addr} {fd : FuncData} (F : Fun K "is_step" "is_step" S_is_step f fd) : Bd K fd ["floor", "thing"] 2 [] [0, 1] [] [] := by
  obtain ⟨oc, od, kV, doc, pm, an, cdv, ct, osl, rfl, lk, hcd⟩ := F.ex
  exact ⟨⟨[], .nil, fun s us ws hK l1 l2 => match us, ws, l1, l2 with | [u0, u1], [], _, _ => .of_eq rfl⟩, fun _ _ => .nil, rfl, by decide⟩
set_option maxHeartbeats 0 in
theorem ok_is_step {P : Program} {w : World} {K : PySem.W.Frag} {mg : Str → Option Value} {base : Heap} (h_is_call : Cal P w K mg base 3 "is_call" S_is_call ["floor", "thing"] F_is_call) (h_is_from : Cal P w K mg base 2 "is_from" S_is_from ["thing", "least"] F_is_from) (z_isinstance : mg "isinstance" = none) (z_len : mg "len" = none) (z_str : mg "str" = none) (z_tuple : mg "tuple" = none) (c_BEAT : ∃ u, mg "BEAT" = some u ∧ RelV (.str "beat") u) (c_TIMES : ∃ u, mg "TIMES" = some u ∧ RelV (.str "times") u) {f : Addr} {fd : FuncData} (F : Fun K "is_step" "is_step" S_is_step f fd) :
    FnG P w K mg base 4 f fd ["floor", "thing"] F_is_step :=
  have sc := sc_is_step
  fng F sc fun cdv A outer s H E hr =>
    (dss_cons (ds_if (dt_w (dw_or (dt_not (dt_val (de_isi (by rfl) (de_var (pv 1)) (by rfl) z_isinstance (pe_bltn (by rfl) z_tuple boot_tuple rfl)))) (dw_or (dt_cmp (op_eqD hr.u64) pu_eq (nomark _) (de_var (pv 1)) (de_tup da_nil)) (dw_or1 (dt_not (dt_val (de_isi (by rfl) (de_ix hr.u1 (de_var (pv 1)) de_int) (by rfl) z_isinstance (pe_bltn (by rfl) z_str boot_str rfl)))))))) (dss_one (ds_ret de_bl)) dss_nil)
    (dss_cons (ds_if (dt_cmp (op_eqD hr.u64) pu_eq (nomark _) (de_ix hr.u1 (de_var (pv 1)) de_int) (de_c (C8.pe_gc (by rfl) c_BEAT) (fun _ _ => .str _))) (dss_one (ds_ret (de_and (de_cmp (op_eqD hr.u64) pu_eq (nomark _) (de_blt call_len pb_len (by rfl) z_len boot_len (dr_cons (de_var (pv 1)) dr_nil)) de_int) (de_one (de_callC h_is_call hr (by decide) (by rfl) bd_is_call_2 (takes_of rfl rfl rfl rfl) (db_cons (de_var (pv 0)) (db_cons (de_ix hr.u1 (de_var (pv 1)) de_int) db_nil))))))) dss_nil)
    (dss_one (ds_ret (de_and (de_cmp (op_eqD hr.u64) pu_eq (nomark _) (de_ix hr.u1 (de_var (pv 1)) de_int) (de_c (C8.pe_gc (by rfl) c_TIMES) (fun _ _ => .str _))) (de_and (de_cmp (op_eqD hr.u64) pu_eq (nomark _) (de_blt call_len pb_len (by rfl) z_len boot_len (dr_cons (de_var (pv 1)) dr_nil)) de_int) (de_one (de_callC h_is_from hr (by decide) (by rfl) bd_is_from_2 (takes_of rfl rfl rfl rfl) (db_cons (de_ix hr.u1 (de_var (pv 1)) de_int) (db_cons de_int db_nil))))))))))

/-! ### is_plan_value -/
abbrev S_is_plan_value : Stmt := topS 27
abbrev N_is_plan_value : List Str := ["floor", "thing", "waiting", "plan", "step"]
theorem sc_is_plan_value : FnScope N_is_plan_value ["floor", "thing"] (defScope S_is_plan_value) := ⟨rfl, rfl, rfl, by decide +kernel, rfl, by decide +kernel, by decide +kernel⟩
noncomputable def M_is_plan_value : Ev Fl :=
  (seqS (setS 2 (bindE (aCons (eVar 1) aNil) lstOf))
    (seqS (whileS (eTst truthB (op2 neW (eVar 2) (bindE aNil lstOf)))
    (seqS (setS 3 (methL popD (eVar 2) aNil))
    (seqS (ifS (orT (bindE (eTst truthD (isiE "tuple" (eVar 3))) fun b => okE (!b)) (bindE (eTst truthD (bltE allW (rCons (lcE [4] (seqM (eVar 3)) (nmG 4) (lcB (okE true) (lcP (callE F_is_step [0, 1] [] 2 (bCons (eVar 0) (bCons (eVar 4) bNil)))))) rNil))) fun b => okE (!b)))
    (retS (eC (.bl false)))
    (okE .next))
    (exprS (methL extD (eVar 2) (aCons (lcE [4] (seqM (eVar 3)) (nmG 4) (lcB (eTst truthB (op2 eqW (op2 getW (eVar 4) (eC (.int 0))) (eC (.str "times")))) (lcP (op2 getW (eVar 4) (eC (.int 2)))))) aNil))))))
    (retS (eC (.bl true)))))
noncomputable def F_is_plan_value : List D → Option Dk → RF := runF 5 M_is_plan_value
theorem bd_is_plan_value_2 {K : PySem.W.Frag} {f : Addr} {fd : FuncData} (F : Fun K "is_plan_value" "is_plan_value" S_is_plan_value f fd) : Bd K fd ["floor", "thing"] 2 [] [0, 1] [] [] := by
  obtain ⟨oc, od, kV, doc, pm, an, cdv, ct, osl, rfl, lk, hcd⟩ := F.ex
  exact ⟨⟨[], .nil, fun s us ws hK l1 l2 => match us, ws, l1, l2 with | [u0, u1], [], _, _ => .of_eq rfl⟩, fun _ _ => .nil, rfl, by decide⟩
set_option maxHeartbeats 0 in
theorem ok_is_plan_value {P : Program} {w : World} {K : PySem.W.Frag} {mg : Str → Option Value} {base : Heap} (h_is_step : Cal P w K mg base 4 "is_step" S_is_step ["floor", "thing"] F_is_step) (z_all : mg "all" = none) (z_isinstance : mg "isinstance" = none) (z_tuple : mg "tuple" = none) (c_TIMES : ∃ u, mg "TIMES" = some u ∧ RelV (.str "times") u) {f : Addr} {fd : FuncData} (F : Fun K "is_plan_value" "is_plan_value" S_is_plan_value f fd) :
    FnG P w K mg base 5 f fd ["floor", "thing"] F_is_plan_value :=
  have sc := sc_is_plan_value
  fng F sc fun cdv A outer s H E hr =>
    (dss_cons (ds_set (i := 2) sc.nd rfl (by first | exact .inl rfl | exact .inr rfl) (de_lst (da_cons (de_var (pv 1)) da_nil)))
    (dss_cons (ds_while (passes_of rfl) (dt_cmp (op_neD hr.u64) pu_ne (nomark _) (de_var (pv 2)) (de_lst da_nil)) (dss_cons (ds_set (i := 3) sc.nd rfl (by first | exact .inl rfl | exact .inr rfl) (de_pop (de_var (pv 2))))
    (dss_cons (ds_if (dt_w (dw_or (dt_not (dt_val (de_isi (by rfl) (de_var (pv 3)) (by rfl) z_isinstance (pe_bltn (by rfl) z_tuple boot_tuple rfl)))) (dw_or1 (dt_not (dt_val (de_blt (cr_all (by rfl)) pb_all (by rfl) z_all boot_all (dr_cons (de_lc (own := [("step", 4)]) (by rfl) sc.nd (blkOk_by (N := N_is_plan_value) (sc := defScope S_is_plan_value) (by decide +kernel)) (di_seq (de_var (pv 3))) gt_name (by decide) (fun _ _ _ _ _ => (dg_name (i := 4) sc.nd rfl (by first | exact .inl rfl | exact .inr rfl))) (fun _ _ _ _ _ => dts_nil) (fun _ _ _ _ _ => (de_callC h_is_step hr (by decide) (by rfl) bd_is_step_2 takes0 (db_cons (de_var (pv 0)) (db_cons (de_var (pv 4)) db_nil))))) dr_nil))))))) (dss_one (ds_ret de_bl)) dss_nil)
    (dss_one (ds_expr (de_extend (de_var (pv 2)) (da_cons (de_lc (own := [("step", 4)]) (by rfl) sc.nd (blkOk_by (N := N_is_plan_value) (sc := defScope S_is_plan_value) (by decide +kernel)) (di_seq (de_var (pv 3))) gt_name (by decide) (fun _ _ _ _ _ => (dg_name (i := 4) sc.nd rfl (by first | exact .inl rfl | exact .inr rfl))) (fun _ _ _ _ _ => dts_one (dt_cmp (op_eqD hr.u64) pu_eq (nomark _) (de_ix hr.u1 (de_var (pv 4)) de_int) (de_c (C8.pe_gc (by rfl) c_TIMES) (fun _ _ => .str _)))) (fun _ _ _ _ _ => (de_ix hr.u1 (de_var (pv 4)) de_int))) da_nil)))))))
    (dss_one (ds_ret de_bl))))

/-! ### need_plan -/
abbrev S_need_plan : Stmt := topS 28
abbrev N_need_plan : List Str := ["floor", "plan"]
theorem sc_need_plan : FnScope N_need_plan ["floor", "plan"] (defScope S_need_plan) := ⟨rfl, rfl, rfl, by decide +kernel, rfl, by decide +kernel, by decide +kernel⟩
noncomputable def M_need_plan : Ev Fl :=
  (seqS (exprS (callE F_need_floor [0] [] 1 (bCons (eVar 0) bNil)))
    (ifS (bindE (eTst truthD (callE F_is_plan_value [0, 1] [] 2 (bCons (eVar 0) (bCons (eVar 1) bNil)))) fun b => okE (!b))
    (fun _ => .stuck)
    (okE .next)))
noncomputable def F_need_plan : List D → Option Dk → RF := runF 2 M_need_plan
theorem bd_need_plan_2 {K : PySem.W.Frag} {f : Addr} {fd : FuncData} (F : Fun K "need_plan" "need_plan" S_need_plan f fd) : Bd K fd ["floor", "plan"] 2 [] [0, 1] [] [] := by
  obtain ⟨oc, od, kV, doc, pm, an, cdv, ct, osl, rfl, lk, hcd⟩ := F.ex
  exact ⟨⟨[], .nil, fun s us ws hK l1 l2 => match us, ws, l1, l2 with | [u0, u1], [], _, _ => .of_eq rfl⟩, fun _ _ => .nil, rfl, by decide⟩
set_option maxHeartbeats 0 in
theorem ok_need_plan {P : Program} {w : World} {K : PySem.W.Frag} {mg : Str → Option Value} {base : Heap} (h_is_plan_value : Cal P w K mg base 5 "is_plan_value" S_is_plan_value ["floor", "thing"] F_is_plan_value) (h_need_floor : Cal P w K mg base 7 "need_floor" S_need_floor ["floor"] F_need_floor) {f : Addr} {fd : FuncData} (F : Fun K "need_plan" "need_plan" S_need_plan f fd) :
    FnG P w K mg base 8 f fd ["floor", "plan"] F_need_plan :=
  have sc := sc_need_plan
  fng F sc fun cdv A outer s H E hr =>
    (dss_cons (ds_expr (de_callC h_need_floor hr (by decide) (by rfl) bd_need_floor_1 (takes_of rfl rfl rfl rfl) (db_cons (de_var (pv 0)) db_nil)))
    (dss_one (ds_if (dt_not (dt_val (de_callC h_is_plan_value hr (by decide) (by rfl) bd_is_plan_value_2 (takes_of rfl rfl rfl rfl) (db_cons (de_var (pv 0)) (db_cons (de_var (pv 1)) db_nil))))) (dss_one ds_never) dss_nil)))

/-! ### beats_in -/
abbrev S_beats_in : Stmt := topS 29
abbrev N_beats_in : List Str := ["plan", "step"]
theorem sc_beats_in : FnScope N_beats_in ["plan"] (defScope S_beats_in) := ⟨rfl, rfl, rfl, by decide +kernel, rfl, by decide +kernel, by decide +kernel⟩
def M_beats_in (R_beats_in : List D → Option Dk → RF) : Ev Fl :=
  (retS (bltE sumAW (rCons (lcE [1] (seqM (eVar 0)) (nmG 1) (lcB (okE true) (lcP (ifE (eTst truthB (op2 eqW (op2 getW (eVar 1) (eC (.int 0))) (eC (.str "beat")))) (eC (.int 1)) (op2 mulA (op2 getW (eVar 1) (eC (.int 1))) (callE R_beats_in [0] [] 1 (bCons (op2 getW (eVar 1) (eC (.int 2))) bNil))))))) rNil)))
def F_beats_in : Nat → List D → Option Dk → RF
  | 0 => fun _ _ => .stuck
  | n + 1 => runF 2 (M_beats_in (F_beats_in n))
theorem bd_beats_in_1 {K : PySem.W.Frag} {f : Addr} {fd : FuncData} (F : Fun K "beats_in" "beats_in" S_beats_in f fd) : Bd K fd ["plan"] 1 [] [0] [] [] := by
  obtain ⟨oc, od, kV, doc, pm, an, cdv, ct, osl, rfl, lk, hcd⟩ := F.ex
  exact ⟨⟨[], .nil, fun s us ws hK l1 l2 => match us, ws, l1, l2 with | [u0], [], _, _ => .of_eq rfl⟩, fun _ _ => .nil, rfl, by decide⟩
set_option maxHeartbeats 0 in
theorem ok_beats_in {P : Program} {w : World} {K : PySem.W.Frag} {mg : Str → Option Value} {base : Heap} (z_sum : mg "sum" = none) (c_BEAT : ∃ u, mg "BEAT" = some u ∧ RelV (.str "beat") u) {f0 : Addr} {fd0 : FuncData} (F0 : Fun K "beats_in" "beats_in" S_beats_in f0 fd0) (g0 : mg "beats_in" = some (.ref f0)) : ∀ n : Nat, FnG P w K mg base (0 + n) f0 fd0 ["plan"] (F_beats_in n) := by
  intro n
  induction n with
  | zero => exact fng_stuck
  | succ n ih =>
    have h_beats_in : Cal P w K mg base (0 + n) "beats_in" S_beats_in ["plan"] (F_beats_in n) := ⟨f0, fd0, F0, ih, g0⟩
    exact (by
      have F := F0
      have sc := sc_beats_in
      exact fng (k := 0 + n) F sc fun cdv A outer s H E hr =>
    (dss_one (ds_ret (de_blt (cr_sumA (by rfl)) pb_sumA (by rfl) z_sum boot_sum (dr_cons (de_lc (own := [("step", 1)]) (by rfl) sc.nd (blkOk_by (N := N_beats_in) (sc := defScope S_beats_in) (by decide +kernel)) (di_seq (de_var (pv 0))) gt_name (by decide) (fun _ _ _ _ _ => (dg_name (i := 1) sc.nd rfl (by first | exact .inl rfl | exact .inr rfl))) (fun _ _ _ _ _ => dts_nil) (fun _ _ _ _ _ => (de_if (dt_cmp (op_eqD hr.u64) pu_eq (nomark _) (de_ix hr.u1 (de_var (pv 1)) de_int) (de_c (C8.pe_gc (by rfl) c_BEAT) (fun _ _ => .str _))) de_int (de_mulA (de_ix hr.u1 (de_var (pv 1)) de_int) (de_callC h_beats_in hr (by omega) (by rfl) bd_beats_in_1 takes0 (db_cons (de_ix hr.u1 (de_var (pv 1)) de_int) db_nil)))))) dr_nil)))))

/-! ### beats_of -/
abbrev S_beats_of : Stmt := topS 38
abbrev N_beats_of : List Str := ["floor", "plan"]
theorem sc_beats_of : FnScope N_beats_of ["floor", "plan"] (defScope S_beats_of) := ⟨rfl, rfl, rfl, by decide +kernel, rfl, by decide +kernel, by decide +kernel⟩
noncomputable def M_beats_of : Ev Fl :=
  (seqS (exprS (callE F_need_plan [0, 1] [] 2 (bCons (eVar 0) (bCons (eVar 1) bNil))))
    (retS (callE (F_beats_in 12) [0] [] 1 (bCons (eVar 1) bNil))))
noncomputable def F_beats_of : List D → Option Dk → RF := runF 2 M_beats_of
theorem bd_beats_of_0_plan_floor {K : PySem.W.Frag} {f : Addr} {fd : FuncData} (F : Fun K "beats_of" "beats_of" S_beats_of f fd) : Bd K fd ["floor", "plan"] 0 ["plan", "floor"] [1, 0] [] [] := by
  obtain ⟨oc, od, kV, doc, pm, an, cdv, ct, osl, rfl, lk, hcd⟩ := F.ex
  exact ⟨⟨[], .nil, fun s us ws hK l1 l2 => match us, ws, l1, l2 with | [], [w0, w1], _, _ => .of_eq rfl⟩, fun _ _ => .nil, rfl, by decide⟩
theorem bd_beats_of_2 {K : PySem.W.Frag} {f : Addr} {fd : FuncData} (F : Fun K "beats_of" "beats_of" S_beats_of f fd) : Bd K fd ["floor", "plan"] 2 [] [0, 1] [] [] := by
  obtain ⟨oc, od, kV, doc, pm, an, cdv, ct, osl, rfl, lk, hcd⟩ := F.ex
  exact ⟨⟨[], .nil, fun s us ws hK l1 l2 => match us, ws, l1, l2 with | [u0, u1], [], _, _ => .of_eq rfl⟩, fun _ _ => .nil, rfl, by decide⟩
set_option maxHeartbeats 0 in
theorem ok_beats_of {P : Program} {w : World} {K : PySem.W.Frag} {mg : Str → Option Value} {base : Heap} (h_beats_in : Cal P w K mg base 12 "beats_in" S_beats_in ["plan"] (F_beats_in 12)) (h_need_plan : Cal P w K mg base 8 "need_plan" S_need_plan ["floor", "plan"] F_need_plan) {f : Addr} {fd : FuncData} (F : Fun K "beats_of" "beats_of" S_beats_of f fd) :
    FnG P w K mg base 13 f fd ["floor", "plan"] F_beats_of :=
  have sc := sc_beats_of
  fng F sc fun cdv A outer s H E hr =>
    (dss_cons (ds_expr (de_callC h_need_plan hr (by decide) (by rfl) bd_need_plan_2 (takes_of rfl rfl rfl rfl) (db_cons (de_var (pv 0)) (db_cons (de_var (pv 1)) db_nil))))
    (dss_one (ds_ret (de_callC h_beats_in hr (by decide) (by rfl) bd_beats_in_1 (takes_of rfl rfl rfl rfl) (db_cons (de_var (pv 1)) db_nil)))))

/-! ### calls_in -/
abbrev S_calls_in : Stmt := topS 42
abbrev N_calls_in : List Str := ["plan", "found", "step"]
theorem sc_calls_in : FnScope N_calls_in ["plan"] (defScope S_calls_in) := ⟨rfl, rfl, rfl, by decide +kernel, rfl, by decide +kernel, by decide +kernel⟩
def M_calls_in (R_calls_in : List D → Option Dk → RF) : Ev Fl :=
  (seqS (setS 1 (bindE aNil lstOf))
    (seqS (forS (seqM (eVar 0)) (nmG 2)
    (ifS (eTst truthB (op2 eqW (op2 getW (eVar 2) (eC (.int 0))) (eC (.str "beat"))))
    (exprS (methL appD (eVar 1) (aCons (op2 getW (eVar 2) (eC (.int 1))) aNil)))
    (ifS (eTst truthB (op2 gtW (callE (F_beats_in 12) [0] [] 1 (bCons (bindE (aCons (eVar 2) aNil) tupOf) bNil)) (eC (.int 0))))
    (exprS (methL extD (eVar 1) (aCons (op2 mulA (callE R_calls_in [0] [] 1 (bCons (op2 getW (eVar 2) (eC (.int 2))) bNil)) (op2 getW (eVar 2) (eC (.int 1)))) aNil)))
    (okE .next))))
    (retS (eVar 1))))
def F_calls_in : Nat → List D → Option Dk → RF
  | 0 => fun _ _ => .stuck
  | n + 1 => runF 3 (M_calls_in (F_calls_in n))
theorem bd_calls_in_1 {K : PySem.W.Frag} {f : Addr} {fd : FuncData} (F : Fun K "calls_in" "calls_in" S_calls_in f fd) : Bd K fd ["plan"] 1 [] [0] [] [] := by
  obtain ⟨oc, od, kV, doc, pm, an, cdv, ct, osl, rfl, lk, hcd⟩ := F.ex
  exact ⟨⟨[], .nil, fun s us ws hK l1 l2 => match us, ws, l1, l2 with | [u0], [], _, _ => .of_eq rfl⟩, fun _ _ => .nil, rfl, by decide⟩
set_option maxHeartbeats 0 in
theorem ok_calls_in {P : Program} {w : World} {K : PySem.W.Frag} {mg : Str → Option Value} {base : Heap} (h_beats_in : Cal P w K mg base 12 "beats_in" S_beats_in ["plan"] (F_beats_in 12)) (c_BEAT : ∃ u, mg "BEAT" = some u ∧ RelV (.str "beat") u) {f0 : Addr} {fd0 : FuncData} (F0 : Fun K "calls_in" "calls_in" S_calls_in f0 fd0) (g0 : mg "calls_in" = some (.ref f0)) : ∀ n : Nat, FnG P w K mg base (12 + n) f0 fd0 ["plan"] (F_calls_in n) := by
  intro n
  induction n with
  | zero => exact fng_stuck
  | succ n ih =>
    have h_calls_in : Cal P w K mg base (12 + n) "calls_in" S_calls_in ["plan"] (F_calls_in n) := ⟨f0, fd0, F0, ih, g0⟩
    exact (by
      have F := F0
      have sc := sc_calls_in
      exact fng (k := 12 + n) F sc fun cdv A outer s H E hr =>
    (dss_cons (ds_set (i := 1) sc.nd rfl (by first | exact .inl rfl | exact .inr rfl) (de_lst da_nil))
    (dss_cons (ds_for (passes_of rfl) (by rfl) (di_seq (de_var (pv 0))) (dg_name (i := 2) sc.nd rfl (by first | exact .inl rfl | exact .inr rfl)) (dss_one (ds_if (dt_cmp (op_eqD hr.u64) pu_eq (nomark _) (de_ix hr.u1 (de_var (pv 2)) de_int) (de_c (C8.pe_gc (by rfl) c_BEAT) (fun _ _ => .str _))) (dss_one (ds_expr (de_append (de_var (pv 1)) (da_cons (de_ix hr.u1 (de_var (pv 2)) de_int) da_nil)))) (dss_one (ds_if (dt_cmp op_gt pu_gt (nomark _) (de_callC h_beats_in hr (by omega) (by rfl) bd_beats_in_1 (takes_of rfl rfl rfl rfl) (db_cons (de_tup (da_cons (de_var (pv 2)) da_nil)) db_nil)) de_int) (dss_one (ds_expr (de_extend (de_var (pv 1)) (da_cons (de_mulA (de_callC h_calls_in hr (by omega) (by rfl) bd_calls_in_1 (takes_of rfl rfl rfl rfl) (db_cons (de_ix hr.u1 (de_var (pv 2)) de_int) db_nil)) (de_ix hr.u1 (de_var (pv 2)) de_int)) da_nil)))) dss_nil)))))
    (dss_one (ds_ret (de_var (pv 1)))))))

/-! ### unrolled -/
abbrev S_unrolled : Stmt := topS 41
abbrev N_unrolled : List Str := ["floor", "plan"]
theorem sc_unrolled : FnScope N_unrolled ["floor", "plan"] (defScope S_unrolled) := ⟨rfl, rfl, rfl, by decide +kernel, rfl, by decide +kernel, by decide +kernel⟩
noncomputable def M_unrolled : Ev Fl :=
  (seqS (exprS (callE F_need_plan [0, 1] [] 2 (bCons (eVar 0) (bCons (eVar 1) bNil))))
    (seqS (ifS (eTst truthB (op2 gtW (callE (F_beats_in 12) [0] [] 1 (bCons (eVar 1) bNil)) (eC (.int 2000))))
    (raiseS "TooMany" "most" (eC (.int 2000)))
    (okE .next))
    (retS (bltE tupW (rCons (callE (F_calls_in 12) [0] [] 1 (bCons (eVar 1) bNil)) rNil)))))
noncomputable def F_unrolled : List D → Option Dk → RF := runF 2 M_unrolled
theorem bd_unrolled_0_plan_floor {K : PySem.W.Frag} {f : Addr} {fd : FuncData} (F : Fun K "unrolled" "unrolled" S_unrolled f fd) : Bd K fd ["floor", "plan"] 0 ["plan", "floor"] [1, 0] [] [] := by
  obtain ⟨oc, od, kV, doc, pm, an, cdv, ct, osl, rfl, lk, hcd⟩ := F.ex
  exact ⟨⟨[], .nil, fun s us ws hK l1 l2 => match us, ws, l1, l2 with | [], [w0, w1], _, _ => .of_eq rfl⟩, fun _ _ => .nil, rfl, by decide⟩
theorem bd_unrolled_2 {K : PySem.W.Frag} {f : Addr} {fd : FuncData} (F : Fun K "unrolled" "unrolled" S_unrolled f fd) : Bd K fd ["floor", "plan"] 2 [] [0, 1] [] [] := by
  obtain ⟨oc, od, kV, doc, pm, an, cdv, ct, osl, rfl, lk, hcd⟩ := F.ex
  exact ⟨⟨[], .nil, fun s us ws hK l1 l2 => match us, ws, l1, l2 with | [u0, u1], [], _, _ => .of_eq rfl⟩, fun _ _ => .nil, rfl, by decide⟩
set_option maxHeartbeats 0 in
theorem ok_unrolled {P : Program} {w : World} {K : PySem.W.Frag} {mg : Str → Option Value} {base : Heap} (h_beats_in : Cal P w K mg base 12 "beats_in" S_beats_in ["plan"] (F_beats_in 12)) (h_calls_in : Cal P w K mg base 24 "calls_in" S_calls_in ["plan"] (F_calls_in 12)) (h_need_plan : Cal P w K mg base 8 "need_plan" S_need_plan ["floor", "plan"] F_need_plan) (z_tuple : mg "tuple" = none) (c_MOST_UNROLLED : ∃ u, mg "MOST_UNROLLED" = some u ∧ RelV (.int 2000) u) (T_TooMany : XT K mg "TooMany" "most" "TooMany.__init__" "FloorError") {f : Addr} {fd : FuncData} (F : Fun K "unrolled" "unrolled" S_unrolled f fd) :
    FnG P w K mg base 25 f fd ["floor", "plan"] F_unrolled :=
  have sc := sc_unrolled
  fng F sc fun cdv A outer s H E hr =>
    (dss_cons (ds_expr (de_callC h_need_plan hr (by decide) (by rfl) bd_need_plan_2 (takes_of rfl rfl rfl rfl) (db_cons (de_var (pv 0)) (db_cons (de_var (pv 1)) db_nil))))
    (dss_cons (ds_if (dt_cmp op_gt pu_gt (nomark _) (de_callC h_beats_in hr (by decide) (by rfl) bd_beats_in_1 (takes_of rfl rfl rfl rfl) (db_cons (de_var (pv 1)) db_nil)) (de_c (C8.pe_gc (by rfl) c_MOST_UNROLLED) (fun _ _ => .int _))) (dss_one (ds_raiseT rfl (takes_of rfl rfl rfl rfl) T_TooMany hr.r (de_c (C8.pe_gc (by rfl) c_MOST_UNROLLED) (fun _ _ => .int _)) (by rfl))) dss_nil)
    (dss_one (ds_ret (de_blty call_tuple_of pb_tup (by rfl) z_tuple boot_tuple (dr_cons (de_callC h_calls_in hr (by decide) (by rfl) bd_calls_in_1 (takes_of rfl rfl rfl rfl) (db_cons (de_var (pv 1)) db_nil)) dr_nil))))))

/-! ### _law_rolled -/
abbrev S__law_rolled : Stmt := topS 56
abbrev N__law_rolled : List Str := ["_law_floor_here", "_law_plan_here", "e"]
theorem sc__law_rolled : FnScope N__law_rolled ["_law_floor_here", "_law_plan_here"] (defScope S__law_rolled) := ⟨rfl, rfl, rfl, by decide +kernel, rfl, by decide +kernel, by decide +kernel⟩
noncomputable def M__law_rolled : Ev Fl :=
  (tryF 2 (catOne "TooMany") (hdIf "TooMany" "most" "many")
    (retS (bindE (aCons (eC (.str "told")) (aCons (callE F_unrolled [0, 1] [] 2 (bCons (eVar 0) (bCons (eVar 1) bNil))) aNil)) tupOf)))
noncomputable def F__law_rolled : List D → Option Dk → RF := runF 3 M__law_rolled
theorem bd__law_rolled_2 {K : PySem.W.Frag} {f : Addr} {fd : FuncData} (F : Fun K "_law_rolled" "_law_rolled" S__law_rolled f fd) : Bd K fd ["_law_floor_here", "_law_plan_here"] 2 [] [0, 1] [] [] := by
  obtain ⟨oc, od, kV, doc, pm, an, cdv, ct, osl, rfl, lk, hcd⟩ := F.ex
  exact ⟨⟨[], .nil, fun s us ws hK l1 l2 => match us, ws, l1, l2 with | [u0, u1], [], _, _ => .of_eq rfl⟩, fun _ _ => .nil, rfl, by decide⟩
set_option maxHeartbeats 0 in
theorem ok__law_rolled {P : Program} {w : World} {K : PySem.W.Frag} {mg : Str → Option Value} {base : Heap} (h_unrolled : Cal P w K mg base 25 "unrolled" S_unrolled ["floor", "plan"] F_unrolled) (z_isinstance : mg "isinstance" = none) (T_TooMany : XT K mg "TooMany" "most" "TooMany.__init__" "FloorError") {f : Addr} {fd : FuncData} (F : Fun K "_law_rolled" "_law_rolled" S__law_rolled f fd) :
    FnG P w K mg base 26 f fd ["_law_floor_here", "_law_plan_here"] F__law_rolled :=
  have sc := sc__law_rolled
  fng0 F sc fun cdv A outer s H E hr =>
    (ds0_tryT (i := 2) rfl rfl sc.nd rfl rfl T_TooMany (by rfl) (by decide) (takes_of rfl rfl rfl rfl) (fun W pn xe tk _ => (dss_one (ds_ret (de_tup (da_cons de_str (da_cons (de_callC h_unrolled hr (by decide) (by rfl) bd_unrolled_2 tk (db_cons (de_var (pv 0)) (db_cons (de_var (pv 1)) db_nil))) da_nil)))))) (by rfl) (by decide) (by rfl) z_isinstance (by exact .inl rfl) (by decide) (by decide))

/-! ### _law_length -/
abbrev S__law_length : Stmt := topS 51
abbrev N__law_length : List Str := ["_law_plan_here", "_law_step"]
theorem sc__law_length : FnScope N__law_length ["_law_plan_here"] (defScope S__law_length) := ⟨rfl, rfl, rfl, by decide +kernel, rfl, by decide +kernel, by decide +kernel⟩
def M__law_length (R__law_length : List D → Option Dk → RF) : Ev Fl :=
  (retS (bltE sumAW (rCons (lcE [1] (seqM (eVar 0)) (nmG 1) (lcB (okE true) (lcP (ifE (eTst truthB (op2 eqW (op2 getW (eVar 1) (eC (.int 0))) (eC (.str "beat")))) (eC (.int 1)) (op2 mulA (op2 getW (eVar 1) (eC (.int 1))) (callE R__law_length [0] [] 1 (bCons (op2 getW (eVar 1) (eC (.int 2))) bNil))))))) rNil)))
def F__law_length : Nat → List D → Option Dk → RF
  | 0 => fun _ _ => .stuck
  | n + 1 => runF 2 (M__law_length (F__law_length n))
theorem bd__law_length_1 {K : PySem.W.Frag} {f : Addr} {fd : FuncData} (F : Fun K "_law_length" "_law_length" S__law_length f fd) : Bd K fd ["_law_plan_here"] 1 [] [0] [] [] := by
  obtain ⟨oc, od, kV, doc, pm, an, cdv, ct, osl, rfl, lk, hcd⟩ := F.ex
  exact ⟨⟨[], .nil, fun s us ws hK l1 l2 => match us, ws, l1, l2 with | [u0], [], _, _ => .of_eq rfl⟩, fun _ _ => .nil, rfl, by decide⟩
set_option maxHeartbeats 0 in
theorem ok__law_length {P : Program} {w : World} {K : PySem.W.Frag} {mg : Str → Option Value} {base : Heap} (z_sum : mg "sum" = none) {f0 : Addr} {fd0 : FuncData} (F0 : Fun K "_law_length" "_law_length" S__law_length f0 fd0) (g0 : mg "_law_length" = some (.ref f0)) : ∀ n : Nat, FnG P w K mg base (0 + n) f0 fd0 ["_law_plan_here"] (F__law_length n) := by
  intro n
  induction n with
  | zero => exact fng_stuck
  | succ n ih =>
    have h__law_length : Cal P w K mg base (0 + n) "_law_length" S__law_length ["_law_plan_here"] (F__law_length n) := ⟨f0, fd0, F0, ih, g0⟩
    exact (by
      have F := F0
      have sc := sc__law_length
      exact fng (k := 0 + n) F sc fun cdv A outer s H E hr =>
    (dss_one (ds_ret (de_blt (cr_sumA (by rfl)) pb_sumA (by rfl) z_sum boot_sum (dr_cons (de_lc (own := [("_law_step", 1)]) (by rfl) sc.nd (blkOk_by (N := N__law_length) (sc := defScope S__law_length) (by decide +kernel)) (di_seq (de_var (pv 0))) gt_name (by decide) (fun _ _ _ _ _ => (dg_name (i := 1) sc.nd rfl (by first | exact .inl rfl | exact .inr rfl))) (fun _ _ _ _ _ => dts_nil) (fun _ _ _ _ _ => (de_if (dt_cmp (op_eqD hr.u64) pu_eq (nomark _) (de_ix hr.u1 (de_var (pv 1)) de_int) de_str) de_int (de_mulA (de_ix hr.u1 (de_var (pv 1)) de_int) (de_callC h__law_length hr (by omega) (by rfl) bd__law_length_1 takes0 (db_cons (de_ix hr.u1 (de_var (pv 1)) de_int) db_nil)))))) dr_nil)))))

/-! ### _law_changes -/
abbrev S__law_changes : Stmt := topS 54
abbrev N__law_changes : List Str := ["_law_plan_here", "_law_step"]
theorem sc__law_changes : FnScope N__law_changes ["_law_plan_here"] (defScope S__law_changes) := ⟨rfl, rfl, rfl, by decide +kernel, rfl, by decide +kernel, by decide +kernel⟩
def M__law_changes (R__law_changes : List D → Option Dk → RF) : Ev Fl :=
  (retS (bltE sumAW (rCons (lcE [1] (seqM (eVar 0)) (nmG 1) (lcB (okE true) (lcP (ifE (eTst truthB (op2 eqW (op2 getW (eVar 1) (eC (.int 0))) (eC (.str "beat")))) (bltE lenW (rCons (op2 getW (eVar 1) (eC (.int 1))) rNil)) (op2 mulA (op2 getW (eVar 1) (eC (.int 1))) (callE R__law_changes [0] [] 1 (bCons (op2 getW (eVar 1) (eC (.int 2))) bNil))))))) rNil)))
def F__law_changes : Nat → List D → Option Dk → RF
  | 0 => fun _ _ => .stuck
  | n + 1 => runF 2 (M__law_changes (F__law_changes n))
theorem bd__law_changes_1 {K : PySem.W.Frag} {f : Addr} {fd : FuncData} (F : Fun K "_law_changes" "_law_changes" S__law_changes f fd) : Bd K fd ["_law_plan_here"] 1 [] [0] [] [] := by
  obtain ⟨oc, od, kV, doc, pm, an, cdv, ct, osl, rfl, lk, hcd⟩ := F.ex
  exact ⟨⟨[], .nil, fun s us ws hK l1 l2 => match us, ws, l1, l2 with | [u0], [], _, _ => .of_eq rfl⟩, fun _ _ => .nil, rfl, by decide⟩
set_option maxHeartbeats 0 in
theorem ok__law_changes {P : Program} {w : World} {K : PySem.W.Frag} {mg : Str → Option Value} {base : Heap} (z_len : mg "len" = none) (z_sum : mg "sum" = none) {f0 : Addr} {fd0 : FuncData} (F0 : Fun K "_law_changes" "_law_changes" S__law_changes f0 fd0) (g0 : mg "_law_changes" = some (.ref f0)) : ∀ n : Nat, FnG P w K mg base (0 + n) f0 fd0 ["_law_plan_here"] (F__law_changes n) := by
  intro n
  induction n with
  | zero => exact fng_stuck
  | succ n ih =>
    have h__law_changes : Cal P w K mg base (0 + n) "_law_changes" S__law_changes ["_law_plan_here"] (F__law_changes n) := ⟨f0, fd0, F0, ih, g0⟩
    exact (by
      have F := F0
      have sc := sc__law_changes
      exact fng (k := 0 + n) F sc fun cdv A outer s H E hr =>
    (dss_one (ds_ret (de_blt (cr_sumA (by rfl)) pb_sumA (by rfl) z_sum boot_sum (dr_cons (de_lc (own := [("_law_step", 1)]) (by rfl) sc.nd (blkOk_by (N := N__law_changes) (sc := defScope S__law_changes) (by decide +kernel)) (di_seq (de_var (pv 0))) gt_name (by decide) (fun _ _ _ _ _ => (dg_name (i := 1) sc.nd rfl (by first | exact .inl rfl | exact .inr rfl))) (fun _ _ _ _ _ => dts_nil) (fun _ _ _ _ _ => (de_if (dt_cmp (op_eqD hr.u64) pu_eq (nomark _) (de_ix hr.u1 (de_var (pv 1)) de_int) de_str) (de_blt call_len pb_len (by rfl) z_len boot_len (dr_cons (de_ix hr.u1 (de_var (pv 1)) de_int) dr_nil)) (de_mulA (de_ix hr.u1 (de_var (pv 1)) de_int) (de_callC h__law_changes hr (by omega) (by rfl) bd__law_changes_1 takes0 (db_cons (de_ix hr.u1 (de_var (pv 1)) de_int) db_nil)))))) dr_nil)))))

/-! ### changes_in -/
abbrev S_changes_in : Stmt := topS 30
abbrev N_changes_in : List Str := ["plan", "step"]
theorem sc_changes_in : FnScope N_changes_in ["plan"] (defScope S_changes_in) := ⟨rfl, rfl, rfl, by decide +kernel, rfl, by decide +kernel, by decide +kernel⟩
def M_changes_in (R_changes_in : List D → Option Dk → RF) : Ev Fl :=
  (retS (bltE sumAW (rCons (lcE [1] (seqM (eVar 0)) (nmG 1) (lcB (okE true) (lcP (ifE (eTst truthB (op2 eqW (op2 getW (eVar 1) (eC (.int 0))) (eC (.str "beat")))) (bltE lenW (rCons (op2 getW (eVar 1) (eC (.int 1))) rNil)) (op2 mulA (op2 getW (eVar 1) (eC (.int 1))) (callE R_changes_in [0] [] 1 (bCons (op2 getW (eVar 1) (eC (.int 2))) bNil))))))) rNil)))
def F_changes_in : Nat → List D → Option Dk → RF
  | 0 => fun _ _ => .stuck
  | n + 1 => runF 2 (M_changes_in (F_changes_in n))
theorem bd_changes_in_1 {K : PySem.W.Frag} {f : Addr} {fd : FuncData} (F : Fun K "changes_in" "changes_in" S_changes_in f fd) : Bd K fd ["plan"] 1 [] [0] [] [] := by
  obtain ⟨oc, od, kV, doc, pm, an, cdv, ct, osl, rfl, lk, hcd⟩ := F.ex
  exact ⟨⟨[], .nil, fun s us ws hK l1 l2 => match us, ws, l1, l2 with | [u0], [], _, _ => .of_eq rfl⟩, fun _ _ => .nil, rfl, by decide⟩
set_option maxHeartbeats 0 in
theorem ok_changes_in {P : Program} {w : World} {K : PySem.W.Frag} {mg : Str → Option Value} {base : Heap} (z_len : mg "len" = none) (z_sum : mg "sum" = none) (c_BEAT : ∃ u, mg "BEAT" = some u ∧ RelV (.str "beat") u) {f0 : Addr} {fd0 : FuncData} (F0 : Fun K "changes_in" "changes_in" S_changes_in f0 fd0) (g0 : mg "changes_in" = some (.ref f0)) : ∀ n : Nat, FnG P w K mg base (0 + n) f0 fd0 ["plan"] (F_changes_in n) := by
  intro n
  induction n with
  | zero => exact fng_stuck
  | succ n ih =>
    have h_changes_in : Cal P w K mg base (0 + n) "changes_in" S_changes_in ["plan"] (F_changes_in n) := ⟨f0, fd0, F0, ih, g0⟩
    exact (by
      have F := F0
      have sc := sc_changes_in
      exact fng (k := 0 + n) F sc fun cdv A outer s H E hr =>
    (dss_one (ds_ret (de_blt (cr_sumA (by rfl)) pb_sumA (by rfl) z_sum boot_sum (dr_cons (de_lc (own := [("step", 1)]) (by rfl) sc.nd (blkOk_by (N := N_changes_in) (sc := defScope S_changes_in) (by decide +kernel)) (di_seq (de_var (pv 0))) gt_name (by decide) (fun _ _ _ _ _ => (dg_name (i := 1) sc.nd rfl (by first | exact .inl rfl | exact .inr rfl))) (fun _ _ _ _ _ => dts_nil) (fun _ _ _ _ _ => (de_if (dt_cmp (op_eqD hr.u64) pu_eq (nomark _) (de_ix hr.u1 (de_var (pv 1)) de_int) (de_c (C8.pe_gc (by rfl) c_BEAT) (fun _ _ => .str _))) (de_blt call_len pb_len (by rfl) z_len boot_len (dr_cons (de_ix hr.u1 (de_var (pv 1)) de_int) dr_nil)) (de_mulA (de_ix hr.u1 (de_var (pv 1)) de_int) (de_callC h_changes_in hr (by omega) (by rfl) bd_changes_in_1 takes0 (db_cons (de_ix hr.u1 (de_var (pv 1)) de_int) db_nil)))))) dr_nil)))))

/-! ### changes_of -/
abbrev S_changes_of : Stmt := topS 39
abbrev N_changes_of : List Str := ["floor", "plan"]
theorem sc_changes_of : FnScope N_changes_of ["floor", "plan"] (defScope S_changes_of) := ⟨rfl, rfl, rfl, by decide +kernel, rfl, by decide +kernel, by decide +kernel⟩
noncomputable def M_changes_of : Ev Fl :=
  (seqS (exprS (callE F_need_plan [0, 1] [] 2 (bCons (eVar 0) (bCons (eVar 1) bNil))))
    (retS (callE (F_changes_in 12) [0] [] 1 (bCons (eVar 1) bNil))))
noncomputable def F_changes_of : List D → Option Dk → RF := runF 2 M_changes_of
theorem bd_changes_of_0_plan_floor {K : PySem.W.Frag} {f : Addr} {fd : FuncData} (F : Fun K "changes_of" "changes_of" S_changes_of f fd) : Bd K fd ["floor", "plan"] 0 ["plan", "floor"] [1, 0] [] [] := by
  obtain ⟨oc, od, kV, doc, pm, an, cdv, ct, osl, rfl, lk, hcd⟩ := F.ex
  exact ⟨⟨[], .nil, fun s us ws hK l1 l2 => match us, ws, l1, l2 with | [], [w0, w1], _, _ => .of_eq rfl⟩, fun _ _ => .nil, rfl, by decide⟩
theorem bd_changes_of_2 {K : PySem.W.Frag} {f : Addr} {fd : FuncData} (F : Fun K "changes_of" "changes_of" S_changes_of f fd) : Bd K fd ["floor", "plan"] 2 [] [0, 1] [] [] := by
  obtain ⟨oc, od, kV, doc, pm, an, cdv, ct, osl, rfl, lk, hcd⟩ := F.ex
  exact ⟨⟨[], .nil, fun s us ws hK l1 l2 => match us, ws, l1, l2 with | [u0, u1], [], _, _ => .of_eq rfl⟩, fun _ _ => .nil, rfl, by decide⟩
set_option maxHeartbeats 0 in
theorem ok_changes_of {P : Program} {w : World} {K : PySem.W.Frag} {mg : Str → Option Value} {base : Heap} (h_changes_in : Cal P w K mg base 12 "changes_in" S_changes_in ["plan"] (F_changes_in 12)) (h_need_plan : Cal P w K mg base 8 "need_plan" S_need_plan ["floor", "plan"] F_need_plan) {f : Addr} {fd : FuncData} (F : Fun K "changes_of" "changes_of" S_changes_of f fd) :
    FnG P w K mg base 13 f fd ["floor", "plan"] F_changes_of :=
  have sc := sc_changes_of
  fng F sc fun cdv A outer s H E hr =>
    (dss_cons (ds_expr (de_callC h_need_plan hr (by decide) (by rfl) bd_need_plan_2 (takes_of rfl rfl rfl rfl) (db_cons (de_var (pv 0)) (db_cons (de_var (pv 1)) db_nil))))
    (dss_one (ds_ret (de_callC h_changes_in hr (by decide) (by rfl) bd_changes_in_1 (takes_of rfl rfl rfl rfl) (db_cons (de_var (pv 1)) db_nil)))))

/-! ### followed -/
abbrev S_followed : Stmt := topS 31
abbrev N_followed : List Str := ["first", "second", "seat"]
theorem sc_followed : FnScope N_followed ["first", "second"] (defScope S_followed) := ⟨rfl, rfl, rfl, by decide +kernel, rfl, by decide +kernel, by decide +kernel⟩
def M_followed : Ev Fl :=
  (retS (lcE [2] (seqM (eVar 0)) (nmG 2) (lcB (okE true) (lcP (op2 getW (eVar 1) (eVar 2))))))
def F_followed : List D → Option Dk → RF := runF 3 M_followed
theorem bd_followed_2 {K : PySem.W.Frag} {f : Addr} {fd : FuncData} (F : Fun K "followed" "followed" S_followed f fd) : Bd K fd ["first", "second"] 2 [] [0, 1] [] [] := by
  obtain ⟨oc, od, kV, doc, pm, an, cdv, ct, osl, rfl, lk, hcd⟩ := F.ex
  exact ⟨⟨[], .nil, fun s us ws hK l1 l2 => match us, ws, l1, l2 with | [u0, u1], [], _, _ => .of_eq rfl⟩, fun _ _ => .nil, rfl, by decide⟩
set_option maxHeartbeats 0 in
theorem ok_followed {P : Program} {w : World} {K : PySem.W.Frag} {mg : Str → Option Value} {base : Heap} {f : Addr} {fd : FuncData} (F : Fun K "followed" "followed" S_followed f fd) :
    FnG P w K mg base 1 f fd ["first", "second"] F_followed :=
  have sc := sc_followed
  fng F sc fun cdv A outer s H E hr =>
    (dss_one (ds_ret (de_lc (own := [("seat", 2)]) (by rfl) sc.nd (blkOk_by (N := N_followed) (sc := defScope S_followed) (by decide +kernel)) (di_seq (de_var (pv 0))) gt_name (by decide) (fun _ _ _ _ _ => (dg_name (i := 2) sc.nd rfl (by first | exact .inl rfl | exact .inr rfl))) (fun _ _ _ _ _ => dts_nil) (fun _ _ _ _ _ => (de_ix hr.u1 (de_var (pv 1)) (de_var (pv 2)))))))

/-! ### seat_of -/
abbrev S_seat_of : Stmt := topS 18
abbrev N_seat_of : List Str := ["rings", "place"]
theorem sc_seat_of : FnScope N_seat_of ["rings", "place"] (defScope S_seat_of) := ⟨rfl, rfl, rfl, by decide +kernel, rfl, by decide +kernel, by decide +kernel⟩
def M_seat_of : Ev Fl :=
  (retS (op2 addD (bltE sumAW (rCons (sliceE (eVar 0) oNone (oSome (op2 getW (eVar 1) (eC (.int 0))))) rNil)) (op2 getW (eVar 1) (eC (.int 1)))))
def F_seat_of : List D → Option Dk → RF := runF 2 M_seat_of
theorem bd_seat_of_2 {K : PySem.W.Frag} {f : Addr} {fd : FuncData} (F : Fun K "seat_of" "seat_of" S_seat_of f fd) : Bd K fd ["rings", "place"] 2 [] [0, 1] [] [] := by
  obtain ⟨oc, od, kV, doc, pm, an, cdv, ct, osl, rfl, lk, hcd⟩ := F.ex
  exact ⟨⟨[], .nil, fun s us ws hK l1 l2 => match us, ws, l1, l2 with | [u0, u1], [], _, _ => .of_eq rfl⟩, fun _ _ => .nil, rfl, by decide⟩
set_option maxHeartbeats 0 in
theorem ok_seat_of {P : Program} {w : World} {K : PySem.W.Frag} {mg : Str → Option Value} {base : Heap} (z_sum : mg "sum" = none) {f : Addr} {fd : FuncData} (F : Fun K "seat_of" "seat_of" S_seat_of f fd) :
    FnG P w K mg base 1 f fd ["rings", "place"] F_seat_of :=
  have sc := sc_seat_of
  fng F sc fun cdv A outer s H E hr =>
    (dss_one (ds_ret (de_add (de_blt (cr_sumA (by rfl)) pb_sumA (by rfl) z_sum boot_sum (dr_cons (de_slice (de_var (pv 0)) do_none (do_some (de_ix hr.u1 (de_var (pv 1)) de_int))) dr_nil)) (de_ix hr.u1 (de_var (pv 1)) de_int))))

/-! ### seat_touches -/
abbrev S_seat_touches : Stmt := topS 21
abbrev N_seat_touches : List Str := ["floor", "one", "other"]
theorem sc_seat_touches : FnScope N_seat_touches ["floor"] (defScope S_seat_touches) := ⟨rfl, rfl, rfl, by decide +kernel, rfl, by decide +kernel, by decide +kernel⟩
def M_seat_touches : Ev Fl :=
  (retS (lcE [1, 2] (seqM (op2 getW (eVar 0) (eC (.int 1)))) (seqG 2 (consG (nmG 1) (consG (nmG 2) nilG))) (lcB (okE true) (lcP (bindE (aCons (callE F_seat_of [0, 1] [] 2 (bCons (op2 getW (eVar 0) (eC (.int 0))) (bCons (eVar 1) bNil))) (aCons (callE F_seat_of [0, 1] [] 2 (bCons (op2 getW (eVar 0) (eC (.int 0))) (bCons (eVar 2) bNil))) aNil)) tupOf)))))
def F_seat_touches : List D → Option Dk → RF := runF 3 M_seat_touches
theorem bd_seat_touches_1 {K : PySem.W.Frag} {f : Addr} {fd : FuncData} (F : Fun K "seat_touches" "seat_touches" S_seat_touches f fd) : Bd K fd ["floor"] 1 [] [0] [] [] := by
  obtain ⟨oc, od, kV, doc, pm, an, cdv, ct, osl, rfl, lk, hcd⟩ := F.ex
  exact ⟨⟨[], .nil, fun s us ws hK l1 l2 => match us, ws, l1, l2 with | [u0], [], _, _ => .of_eq rfl⟩, fun _ _ => .nil, rfl, by decide⟩
set_option maxHeartbeats 0 in
theorem ok_seat_touches {P : Program} {w : World} {K : PySem.W.Frag} {mg : Str → Option Value} {base : Heap} (h_seat_of : Cal P w K mg base 1 "seat_of" S_seat_of ["rings", "place"] F_seat_of) {f : Addr} {fd : FuncData} (F : Fun K "seat_touches" "seat_touches" S_seat_touches f fd) :
    FnG P w K mg base 2 f fd ["floor"] F_seat_touches :=
  have sc := sc_seat_touches
  fng F sc fun cdv A outer s H E hr =>
    (dss_one (ds_ret (de_lc (own := [("one", 1), ("other", 2)]) (by rfl) sc.nd (blkOk_by (N := N_seat_touches) (sc := defScope S_seat_touches) (by decide +kernel)) (di_seq (de_ix hr.u1 (de_var (pv 0)) de_int)) (gt_seq (gts_cons gt_name (gts_cons gt_name gts_nil))) (by decide) (fun _ _ _ _ _ => (dg_seq (by rfl) (dgs_cons (dg_name (i := 1) sc.nd rfl (by first | exact .inl rfl | exact .inr rfl)) (dgs_cons (dg_name (i := 2) sc.nd rfl (by first | exact .inl rfl | exact .inr rfl)) dgs_nil)))) (fun _ _ _ _ _ => dts_nil) (fun _ _ _ _ _ => (de_tup (da_cons (de_callC h_seat_of hr (by decide) (by rfl) bd_seat_of_2 takes0 (db_cons (de_ix hr.u1 (de_var (pv 0)) de_int) (db_cons (de_var (pv 1)) db_nil))) (da_cons (de_callC h_seat_of hr (by decide) (by rfl) bd_seat_of_2 takes0 (db_cons (de_ix hr.u1 (de_var (pv 0)) de_int) (db_cons (de_var (pv 2)) db_nil))) da_nil)))))))

/-! ### place_behind -/
abbrev S_place_behind : Stmt := topS 19
abbrev N_place_behind : List Str := ["rings", "place", "k"]
theorem sc_place_behind : FnScope N_place_behind ["rings", "place", "k"] (defScope S_place_behind) := ⟨rfl, rfl, rfl, by decide +kernel, rfl, by decide +kernel, by decide +kernel⟩
def M_place_behind : Ev Fl :=
  (retS (bindE (aCons (op2 getW (eVar 1) (eC (.int 0))) (aCons (op2 modD (op2 addD (op2 getW (eVar 1) (eC (.int 1))) (eVar 2)) (op2 getW (eVar 0) (op2 getW (eVar 1) (eC (.int 0))))) aNil)) tupOf))
def F_place_behind : List D → Option Dk → RF := runF 3 M_place_behind
theorem bd_place_behind_3 {K : PySem.W.Frag} {f : Addr} {fd : FuncData} (F : Fun K "place_behind" "place_behind" S_place_behind f fd) : Bd K fd ["rings", "place", "k"] 3 [] [0, 1, 2] [] [] := by
  obtain ⟨oc, od, kV, doc, pm, an, cdv, ct, osl, rfl, lk, hcd⟩ := F.ex
  exact ⟨⟨[], .nil, fun s us ws hK l1 l2 => match us, ws, l1, l2 with | [u0, u1, u2], [], _, _ => .of_eq rfl⟩, fun _ _ => .nil, rfl, by decide⟩
set_option maxHeartbeats 0 in
theorem ok_place_behind {P : Program} {w : World} {K : PySem.W.Frag} {mg : Str → Option Value} {base : Heap} {f : Addr} {fd : FuncData} (F : Fun K "place_behind" "place_behind" S_place_behind f fd) :
    FnG P w K mg base 1 f fd ["rings", "place", "k"] F_place_behind :=
  have sc := sc_place_behind
  fng F sc fun cdv A outer s H E hr =>
    (dss_one (ds_ret (de_tup (da_cons (de_ix hr.u1 (de_var (pv 1)) de_int) (da_cons (de_mod (de_add (de_ix hr.u1 (de_var (pv 1)) de_int) (de_var (pv 2))) (de_ix hr.u1 (de_var (pv 0)) (de_ix hr.u1 (de_var (pv 1)) de_int))) da_nil)))))

/-! ### places_of -/
abbrev S_places_of : Stmt := topS 17
abbrev N_places_of : List Str := ["rings", "ring", "length", "at"]
theorem sc_places_of : FnScope N_places_of ["rings"] (defScope S_places_of) := ⟨rfl, rfl, rfl, by decide +kernel, rfl, by decide +kernel, by decide +kernel⟩
def M_places_of : Ev Fl :=
  (retS (lcE [1, 2, 3] (ofL enumOf (aCons (eVar 0) aNil)) (seqG 2 (consG (nmG 1) (consG (nmG 2) nilG))) (lcB (okE true) (lcI (ofL rng1 (aCons (eVar 2) aNil)) (lcL [3] (nmG 3) (lcB (okE true) (lcP (bindE (aCons (eVar 1) (aCons (eVar 3) aNil)) tupOf))))))))
def F_places_of : List D → Option Dk → RF := runF 4 M_places_of
theorem bd_places_of_1 {K : PySem.W.Frag} {f : Addr} {fd : FuncData} (F : Fun K "places_of" "places_of" S_places_of f fd) : Bd K fd ["rings"] 1 [] [0] [] [] := by
  obtain ⟨oc, od, kV, doc, pm, an, cdv, ct, osl, rfl, lk, hcd⟩ := F.ex
  exact ⟨⟨[], .nil, fun s us ws hK l1 l2 => match us, ws, l1, l2 with | [u0], [], _, _ => .of_eq rfl⟩, fun _ _ => .nil, rfl, by decide⟩
set_option maxHeartbeats 0 in
theorem ok_places_of {P : Program} {w : World} {K : PySem.W.Frag} {mg : Str → Option Value} {base : Heap} (z_enumerate : mg "enumerate" = none) (z_range : mg "range" = none) {f : Addr} {fd : FuncData} (F : Fun K "places_of" "places_of" S_places_of f fd) :
    FnG P w K mg base 1 f fd ["rings"] F_places_of :=
  have sc := sc_places_of
  fng F sc fun cdv A outer s H E hr =>
    (dss_one (ds_ret (de_lc2 (own := [("ring", 1), ("length", 2), ("at", 3)]) (vs1 := [3]) (by rfl) sc.nd (blkOk_by (N := N_places_of) (sc := defScope S_places_of) (by decide +kernel)) (by decide) (di_enum (by rfl) z_enumerate (da_cons (de_var (pv 0)) da_nil)) (gt_seq (gts_cons gt_name (gts_cons gt_name gts_nil))) (by decide) (fun _ _ _ _ _ => (dg_seq (by rfl) (dgs_cons (dg_name (i := 1) sc.nd rfl (by first | exact .inl rfl | exact .inr rfl)) (dgs_cons (dg_name (i := 2) sc.nd rfl (by first | exact .inl rfl | exact .inr rfl)) dgs_nil)))) (fun _ _ _ _ _ => dts_nil) (fun _ _ _ _ _ => (di_range1 (by rfl) z_range (da_cons (de_var (pv 2)) da_nil))) gt_name (by decide) (fun _ _ _ _ _ => (dg_name (i := 3) sc.nd rfl (by first | exact .inl rfl | exact .inr rfl))) (fun _ _ _ _ _ => dts_nil) (fun _ _ _ _ _ => (de_tup (da_cons (de_var (pv 1)) (da_cons (de_var (pv 3)) da_nil)))))))

/-! ### step_seats -/
abbrev S_step_seats : Stmt := topS 20
abbrev N_step_seats : List Str := ["rings", "k", "place"]
theorem sc_step_seats : FnScope N_step_seats ["rings", "k"] (defScope S_step_seats) := ⟨rfl, rfl, rfl, by decide +kernel, rfl, by decide +kernel, by decide +kernel⟩
def M_step_seats : Ev Fl :=
  (retS (lcE [2] (seqM (callE F_places_of [0] [] 1 (bCons (eVar 0) bNil))) (nmG 2) (lcB (okE true) (lcP (callE F_seat_of [0, 1] [] 2 (bCons (eVar 0) (bCons (callE F_place_behind [0, 1, 2] [] 3 (bCons (eVar 0) (bCons (eVar 2) (bCons (eVar 1) bNil)))) bNil)))))))
def F_step_seats : List D → Option Dk → RF := runF 3 M_step_seats
theorem bd_step_seats_1 {K : PySem.W.Frag} {f : Addr} {fd : FuncData} (F : FunD K "step_seats" "step_seats" (defArgs S_step_seats) (defBody S_step_seats) (defScope S_step_seats) [V.int 1] [] f fd) : ∃ dvs, Bd K fd ["rings", "k"] 1 [] [0, 1] [.int 1] dvs := by
  obtain ⟨ds, r, b⟩ := FunD.binds1 (ps := ["rings", "k"]) F 1 0 (by decide) (by decide) (fun T kV doc pm an cdv ct us its h1 h2 => match us, its, h1, h2 with | [u0], [d0], _, _ => ⟨_, rfl, rfl⟩)
  obtain ⟨u, rfl, ru⟩ := vals1 (show Vals [V.int 1] ds from r)
  exact ⟨[V.int 1], ⟨[u], .cons ru .nil, fun s us ws hK l1 l2 => match us, ws, l1, l2 with | [u0], [], _, _ => b s [u0] hK rfl⟩, fun _ _ => .cons (.int _) .nil, rfl, by decide⟩
set_option maxHeartbeats 0 in
theorem ok_step_seats {P : Program} {w : World} {K : PySem.W.Frag} {mg : Str → Option Value} {base : Heap} (h_place_behind : Cal P w K mg base 1 "place_behind" S_place_behind ["rings", "place", "k"] F_place_behind) (h_places_of : Cal P w K mg base 1 "places_of" S_places_of ["rings"] F_places_of) (h_seat_of : Cal P w K mg base 1 "seat_of" S_seat_of ["rings", "place"] F_seat_of) {f : Addr} {fd : FuncData} (F : FunD K "step_seats" "step_seats" (defArgs S_step_seats) (defBody S_step_seats) (defScope S_step_seats) [V.int 1] [] f fd) :
    FnG P w K mg base 2 f fd ["rings", "k"] F_step_seats :=
  have sc := sc_step_seats
  fngD F sc fun cdv A outer s H E hr =>
    (dss_one (ds_ret (de_lc (own := [("place", 2)]) (by rfl) sc.nd (blkOk_by (N := N_step_seats) (sc := defScope S_step_seats) (by decide +kernel)) (di_seq (de_callC h_places_of hr (by decide) (by rfl) bd_places_of_1 (takes_of rfl rfl rfl rfl) (db_cons (de_var (pv 0)) db_nil))) gt_name (by decide) (fun _ _ _ _ _ => (dg_name (i := 2) sc.nd rfl (by first | exact .inl rfl | exact .inr rfl))) (fun _ _ _ _ _ => dts_nil) (fun _ _ _ _ _ => (de_callC h_seat_of hr (by decide) (by rfl) bd_seat_of_2 takes0 (db_cons (de_var (pv 0)) (db_cons (de_callC h_place_behind hr (by decide) (by rfl) bd_place_behind_3 takes0 (db_cons (de_var (pv 0)) (db_cons (de_var (pv 2)) (db_cons (de_var (pv 1)) db_nil)))) db_nil)))))))

/-! ### call_map -/
abbrev S_call_map : Stmt := topS 33
abbrev N_call_map : List Str := ["floor", "call", "swaps", "touches", "number", "near", "far", "seat"]
theorem sc_call_map : FnScope N_call_map ["floor", "call"] (defScope S_call_map) := ⟨rfl, rfl, rfl, by decide +kernel, rfl, by decide +kernel, by decide +kernel⟩
def M_call_map : Ev Fl :=
  (seqS (parS [2, 3] (rCons newK (rCons (callE F_seat_touches [0] [] 1 (bCons (eVar 0) bNil)) rNil)))
    (seqS (forS (seqM (eVar 1)) (nmG 4)
    (seqS (asgS (op2 getW (eVar 3) (eVar 4)) (seqG 2 (consG (nmG 5) (consG (nmG 6) nilG))))
    (seqS (storeS (eVar 6) (eVar 2) (eVar 5))
    (storeS (eVar 5) (eVar 2) (eVar 6)))))
    (retS (lcE [7] (seqM (callE F_step_seats [0, 1] [.int 1] 1 (bCons (op2 getW (eVar 0) (eC (.int 0))) bNil))) (nmG 7) (lcB (okE true) (lcP (getD2 (eVar 2) (eVar 7) (eVar 7))))))))
def F_call_map : List D → Option Dk → RF := runF 8 M_call_map
theorem bd_call_map_2 {K : PySem.W.Frag} {f : Addr} {fd : FuncData} (F : Fun K "call_map" "call_map" S_call_map f fd) : Bd K fd ["floor", "call"] 2 [] [0, 1] [] [] := by
  obtain ⟨oc, od, kV, doc, pm, an, cdv, ct, osl, rfl, lk, hcd⟩ := F.ex
  exact ⟨⟨[], .nil, fun s us ws hK l1 l2 => match us, ws, l1, l2 with | [u0, u1], [], _, _ => .of_eq rfl⟩, fun _ _ => .nil, rfl, by decide⟩
set_option maxHeartbeats 0 in
theorem ok_call_map {P : Program} {w : World} {K : PySem.W.Frag} {mg : Str → Option Value} {base : Heap} (h_seat_touches : Cal P w K mg base 2 "seat_touches" S_seat_touches ["floor"] F_seat_touches) (h_step_seats : CalD P w K mg base 2 "step_seats" S_step_seats [V.int 1] ["rings", "k"] F_step_seats) {f : Addr} {fd : FuncData} (F : Fun K "call_map" "call_map" S_call_map f fd) :
    FnG P w K mg base 3 f fd ["floor", "call"] F_call_map :=
  have sc := sc_call_map
  fng F sc fun cdv A outer s H E hr =>
    (dss_cons (ds_parT (by rfl) (dn_cons (i := 2) sc.nd rfl (by first | exact .inl rfl | exact .inr rfl) (dn_cons (i := 3) sc.nd rfl (by first | exact .inl rfl | exact .inr rfl) dn_nil)) (dr_cons de_newK (dr_cons (de_callC h_seat_touches hr (by decide) (by rfl) bd_seat_touches_1 (takes_of rfl rfl rfl rfl) (db_cons (de_var (pv 0)) db_nil)) dr_nil)) (by decide))
    (dss_cons (ds_for (passes_of rfl) (by rfl) (di_seq (de_var (pv 1))) (dg_name (i := 4) sc.nd rfl (by first | exact .inl rfl | exact .inr rfl)) (dss_cons (ds_asg (de_ix hr.u1 (de_var (pv 3)) (de_var (pv 4))) (dg_seq (by rfl) (dgs_cons (dg_name (i := 5) sc.nd rfl (by first | exact .inl rfl | exact .inr rfl)) (dgs_cons (dg_name (i := 6) sc.nd rfl (by first | exact .inl rfl | exact .inr rfl)) dgs_nil))))
    (dss_cons (ds_store hr.u1 (de_var (pv 6)) (de_var (pv 2)) (de_var (pv 5)))
    (dss_one (ds_store hr.u1 (de_var (pv 5)) (de_var (pv 2)) (de_var (pv 6)))))))
    (dss_one (ds_ret (de_lc (own := [("seat", 7)]) (by rfl) sc.nd (blkOk_by (N := N_call_map) (sc := defScope S_call_map) (by decide +kernel)) (di_seq (de_callCD h_step_seats hr (by decide) (by rfl) bd_step_seats_1 (takes_of rfl rfl rfl rfl) (db_cons (de_ix hr.u1 (de_var (pv 0)) de_int) db_nil))) gt_name (by decide) (fun _ _ _ _ _ => (dg_name (i := 7) sc.nd rfl (by first | exact .inl rfl | exact .inr rfl))) (fun _ _ _ _ _ => dts_nil) (fun _ _ _ _ _ => (de_get2 hr.u1 (de_var (pv 2)) (de_var (pv 7)) (de_var (pv 7)) ⟨by rfl, by rfl, by rfl, by rfl⟩)))))))

/-! ### map_power -/
abbrev S_map_power : Stmt := topS 32
abbrev N_map_power : List Str := ["lead", "k", "found", "square"]
theorem sc_map_power : FnScope N_map_power ["lead", "k"] (defScope S_map_power) := ⟨rfl, rfl, rfl, by decide +kernel, rfl, by decide +kernel, by decide +kernel⟩
noncomputable def M_map_power : Ev Fl :=
  (seqS (parS [2, 3] (rCons (rgE false (bltE lenW (rCons (eVar 0) rNil))) (rCons (eVar 0) rNil)))
    (seqS (whileS (eTst truthB (op2 gtW (eVar 1) (eC (.int 0))))
    (seqS (ifS (eTst truthB (op2 eqW (op2 modD (eVar 1) (eC (.int 2))) (eC (.int 1))))
    (setS 2 (callE F_followed [0, 1] [] 2 (bCons (eVar 2) (bCons (eVar 3) bNil))))
    (okE .next))
    (seqS (setS 3 (callE F_followed [0, 1] [] 2 (bCons (eVar 3) (bCons (eVar 3) bNil))))
    (setS 1 (op2 fdivD (eVar 1) (eC (.int 2)))))))
    (retS (eVar 2))))
noncomputable def F_map_power : List D → Option Dk → RF := runF 4 M_map_power
theorem bd_map_power_2 {K : PySem.W.Frag} {f : Addr} {fd : FuncData} (F : Fun K "map_power" "map_power" S_map_power f fd) : Bd K fd ["lead", "k"] 2 [] [0, 1] [] [] := by
  obtain ⟨oc, od, kV, doc, pm, an, cdv, ct, osl, rfl, lk, hcd⟩ := F.ex
  exact ⟨⟨[], .nil, fun s us ws hK l1 l2 => match us, ws, l1, l2 with | [u0, u1], [], _, _ => .of_eq rfl⟩, fun _ _ => .nil, rfl, by decide⟩
set_option maxHeartbeats 0 in
theorem ok_map_power {P : Program} {w : World} {K : PySem.W.Frag} {mg : Str → Option Value} {base : Heap} (h_followed : Cal P w K mg base 1 "followed" S_followed ["first", "second"] F_followed) (z_len : mg "len" = none) (z_list : mg "list" = none) (z_range : mg "range" = none) {f : Addr} {fd : FuncData} (F : Fun K "map_power" "map_power" S_map_power f fd) :
    FnG P w K mg base 2 f fd ["lead", "k"] F_map_power :=
  have sc := sc_map_power
  fng F sc fun cdv A outer s H E hr =>
    (dss_cons (ds_par (i := 2) (j := 3) (by rfl) sc.nd rfl rfl (by decide) rfl rfl (dr_cons (de_listRg (by rfl) (by rfl) z_list (by rfl) z_range (de_blt call_len pb_len (by rfl) z_len boot_len (dr_cons (de_var (pv 0)) dr_nil))) (dr_cons (de_var (pv 0)) dr_nil)) (by rfl))
    (dss_cons (ds_while (passes_of rfl) (dt_cmp op_gt pu_gt (nomark _) (de_var (pv 1)) de_int) (dss_cons (ds_if (dt_cmp (op_eqD hr.u64) pu_eq (nomark _) (de_mod (de_var (pv 1)) de_int) de_int) (dss_one (ds_set (i := 2) sc.nd rfl (by first | exact .inl rfl | exact .inr rfl) (de_callC h_followed hr (by decide) (by rfl) bd_followed_2 (takes_of rfl rfl rfl rfl) (db_cons (de_var (pv 2)) (db_cons (de_var (pv 3)) db_nil))))) dss_nil)
    (dss_cons (ds_set (i := 3) sc.nd rfl (by first | exact .inl rfl | exact .inr rfl) (de_callC h_followed hr (by decide) (by rfl) bd_followed_2 (takes_of rfl rfl rfl rfl) (db_cons (de_var (pv 3)) (db_cons (de_var (pv 3)) db_nil))))
    (dss_one (ds_set (i := 1) sc.nd rfl (by first | exact .inl rfl | exact .inr rfl) (de_fdiv (de_var (pv 1)) de_int))))))
    (dss_one (ds_ret (de_var (pv 2))))))

/-! ### map_of -/
abbrev S_map_of : Stmt := topS 35
abbrev N_map_of : List Str := ["floor", "plan", "found", "step"]
theorem sc_map_of : FnScope N_map_of ["floor", "plan"] (defScope S_map_of) := ⟨rfl, rfl, rfl, by decide +kernel, rfl, by decide +kernel, by decide +kernel⟩
noncomputable def M_map_of (R_step_map : List D → Option Dk → RF) : Ev Fl :=
  (seqS (setS 2 (rgE false (bltE sumAW (rCons (op2 getW (eVar 0) (eC (.int 0))) rNil))))
    (seqS (forS (seqM (eVar 1)) (nmG 3)
    (setS 2 (callE F_followed [0, 1] [] 2 (bCons (eVar 2) (bCons (callE R_step_map [0, 1] [] 2 (bCons (eVar 0) (bCons (eVar 3) bNil))) bNil)))))
    (retS (eVar 2))))

/-! ### step_map -/
abbrev S_step_map : Stmt := topS 34
abbrev N_step_map : List Str := ["floor", "step"]
theorem sc_step_map : FnScope N_step_map ["floor", "step"] (defScope S_step_map) := ⟨rfl, rfl, rfl, by decide +kernel, rfl, by decide +kernel, by decide +kernel⟩
noncomputable def M_step_map (R_map_of : List D → Option Dk → RF) : Ev Fl :=
  (retS (ifE (eTst truthB (op2 eqW (op2 getW (eVar 1) (eC (.int 0))) (eC (.str "beat")))) (callE F_call_map [0, 1] [] 2 (bCons (eVar 0) (bCons (op2 getW (eVar 1) (eC (.int 1))) bNil))) (callE F_map_power [0, 1] [] 2 (bCons (callE R_map_of [0, 1] [] 2 (bCons (eVar 0) (bCons (op2 getW (eVar 1) (eC (.int 2))) bNil))) (bCons (op2 getW (eVar 1) (eC (.int 1))) bNil)))))
noncomputable def FP_map_of_step_map : Nat → (List D → Option Dk → RF) × (List D → Option Dk → RF)
  | 0 => (fun _ _ => .stuck, fun _ _ => .stuck)
  | n + 1 => (runF 4 (M_map_of (FP_map_of_step_map n).2), runF 2 (M_step_map (FP_map_of_step_map n).1))
noncomputable def F_map_of (n : Nat) : List D → Option Dk → RF := (FP_map_of_step_map n).1
noncomputable def F_step_map (n : Nat) : List D → Option Dk → RF := (FP_map_of_step_map n).2
theorem bd_map_of_2 {K : PySem.W.Frag} {f : Addr} {fd : FuncData} (F : Fun K "map_of" "map_of" S_map_of f fd) : Bd K fd ["floor", "plan"] 2 [] [0, 1] [] [] := by
  obtain ⟨oc, od, kV, doc, pm, an, cdv, ct, osl, rfl, lk, hcd⟩ := F.ex
  exact ⟨⟨[], .nil, fun s us ws hK l1 l2 => match us, ws, l1, l2 with | [u0, u1], [], _, _ => .of_eq rfl⟩, fun _ _ => .nil, rfl, by decide⟩
theorem bd_step_map_2 {K : PySem.W.Frag} {f : Addr} {fd : FuncData} (F : Fun K "step_map" "step_map" S_step_map f fd) : Bd K fd ["floor", "step"] 2 [] [0, 1] [] [] := by
  obtain ⟨oc, od, kV, doc, pm, an, cdv, ct, osl, rfl, lk, hcd⟩ := F.ex
  exact ⟨⟨[], .nil, fun s us ws hK l1 l2 => match us, ws, l1, l2 with | [u0, u1], [], _, _ => .of_eq rfl⟩, fun _ _ => .nil, rfl, by decide⟩
set_option maxHeartbeats 0 in
theorem ok_map_of_step_map {P : Program} {w : World} {K : PySem.W.Frag} {mg : Str → Option Value} {base : Heap} (h_call_map : Cal P w K mg base 3 "call_map" S_call_map ["floor", "call"] F_call_map) (h_followed : Cal P w K mg base 1 "followed" S_followed ["first", "second"] F_followed) (h_map_power : Cal P w K mg base 2 "map_power" S_map_power ["lead", "k"] F_map_power) (z_list : mg "list" = none) (z_range : mg "range" = none) (z_sum : mg "sum" = none) (c_BEAT : ∃ u, mg "BEAT" = some u ∧ RelV (.str "beat") u) {f0 : Addr} {fd0 : FuncData} (F0 : Fun K "map_of" "map_of" S_map_of f0 fd0) (g0 : mg "map_of" = some (.ref f0)) {f1 : Addr} {fd1 : FuncData} (F1 : Fun K "step_map" "step_map" S_step_map f1 fd1) (g1 : mg "step_map" = some (.ref f1)) : ∀ n : Nat, FnG P w K mg base (3 + n) f0 fd0 ["floor", "plan"] (F_map_of n) ∧ FnG P w K mg base (3 + n) f1 fd1 ["floor", "step"] (F_step_map n) := by
  intro n
  induction n with
  | zero => exact ⟨fng_stuck, fng_stuck⟩
  | succ n ih =>
    have h_map_of : Cal P w K mg base (3 + n) "map_of" S_map_of ["floor", "plan"] (F_map_of n) := ⟨f0, fd0, F0, ih.1, g0⟩
    have h_step_map : Cal P w K mg base (3 + n) "step_map" S_step_map ["floor", "step"] (F_step_map n) := ⟨f1, fd1, F1, ih.2, g1⟩
    exact ⟨(by
      have F := F0
      have sc := sc_map_of
      exact fng (k := 3 + n) F sc fun cdv A outer s H E hr =>
    (dss_cons (ds_set (i := 2) sc.nd rfl (by first | exact .inl rfl | exact .inr rfl) (de_listRg (by rfl) (by rfl) z_list (by rfl) z_range (de_blt (cr_sumA (by rfl)) pb_sumA (by rfl) z_sum boot_sum (dr_cons (de_ix hr.u1 (de_var (pv 0)) de_int) dr_nil))))
    (dss_cons (ds_for (passes_of rfl) (by rfl) (di_seq (de_var (pv 1))) (dg_name (i := 3) sc.nd rfl (by first | exact .inl rfl | exact .inr rfl)) (dss_one (ds_set (i := 2) sc.nd rfl (by first | exact .inl rfl | exact .inr rfl) (de_callC h_followed hr (by omega) (by rfl) bd_followed_2 (takes_of rfl rfl rfl rfl) (db_cons (de_var (pv 2)) (db_cons (de_callC h_step_map hr (by omega) (by rfl) bd_step_map_2 (takes_of rfl rfl rfl rfl) (db_cons (de_var (pv 0)) (db_cons (de_var (pv 3)) db_nil))) db_nil))))))
    (dss_one (ds_ret (de_var (pv 2))))))),
    (by
      have F := F1
      have sc := sc_step_map
      exact fng (k := 3 + n) F sc fun cdv A outer s H E hr =>
    (dss_one (ds_ret (de_if (dt_cmp (op_eqD hr.u64) pu_eq (nomark _) (de_ix hr.u1 (de_var (pv 1)) de_int) (de_c (C8.pe_gc (by rfl) c_BEAT) (fun _ _ => .str _))) (de_callC h_call_map hr (by omega) (by rfl) bd_call_map_2 (takes_of rfl rfl rfl rfl) (db_cons (de_var (pv 0)) (db_cons (de_ix hr.u1 (de_var (pv 1)) de_int) db_nil))) (de_callC h_map_power hr (by omega) (by rfl) bd_map_power_2 (takes_of rfl rfl rfl rfl) (db_cons (de_callC h_map_of hr (by omega) (by rfl) bd_map_of_2 (takes_of rfl rfl rfl rfl) (db_cons (de_var (pv 0)) (db_cons (de_ix hr.u1 (de_var (pv 1)) de_int) db_nil))) (db_cons (de_ix hr.u1 (de_var (pv 1)) de_int) db_nil)))))))⟩

/-! ### plan_map -/
abbrev S_plan_map : Stmt := topS 40
abbrev N_plan_map : List Str := ["floor", "plan"]
theorem sc_plan_map : FnScope N_plan_map ["floor", "plan"] (defScope S_plan_map) := ⟨rfl, rfl, rfl, by decide +kernel, rfl, by decide +kernel, by decide +kernel⟩
noncomputable def M_plan_map : Ev Fl :=
  (seqS (exprS (callE F_need_plan [0, 1] [] 2 (bCons (eVar 0) (bCons (eVar 1) bNil))))
    (retS (bltE tupW (rCons (callE (F_map_of 12) [0, 1] [] 2 (bCons (eVar 0) (bCons (eVar 1) bNil))) rNil))))
noncomputable def F_plan_map : List D → Option Dk → RF := runF 2 M_plan_map
theorem bd_plan_map_2 {K : PySem.W.Frag} {f : Addr} {fd : FuncData} (F : Fun K "plan_map" "plan_map" S_plan_map f fd) : Bd K fd ["floor", "plan"] 2 [] [0, 1] [] [] := by
  obtain ⟨oc, od, kV, doc, pm, an, cdv, ct, osl, rfl, lk, hcd⟩ := F.ex
  exact ⟨⟨[], .nil, fun s us ws hK l1 l2 => match us, ws, l1, l2 with | [u0, u1], [], _, _ => .of_eq rfl⟩, fun _ _ => .nil, rfl, by decide⟩
set_option maxHeartbeats 0 in
theorem ok_plan_map {P : Program} {w : World} {K : PySem.W.Frag} {mg : Str → Option Value} {base : Heap} (h_map_of : Cal P w K mg base 15 "map_of" S_map_of ["floor", "plan"] (F_map_of 12)) (h_need_plan : Cal P w K mg base 8 "need_plan" S_need_plan ["floor", "plan"] F_need_plan) (z_tuple : mg "tuple" = none) {f : Addr} {fd : FuncData} (F : Fun K "plan_map" "plan_map" S_plan_map f fd) :
    FnG P w K mg base 16 f fd ["floor", "plan"] F_plan_map :=
  have sc := sc_plan_map
  fng F sc fun cdv A outer s H E hr =>
    (dss_cons (ds_expr (de_callC h_need_plan hr (by decide) (by rfl) bd_need_plan_2 (takes_of rfl rfl rfl rfl) (db_cons (de_var (pv 0)) (db_cons (de_var (pv 1)) db_nil))))
    (dss_one (ds_ret (de_blty call_tuple_of pb_tup (by rfl) z_tuple boot_tuple (dr_cons (de_callC h_map_of hr (by decide) (by rfl) bd_map_of_2 (takes_of rfl rfl rfl rfl) (db_cons (de_var (pv 0)) (db_cons (de_var (pv 1)) db_nil))) dr_nil)))))

/-! ### _law_calls -/
abbrev S__law_calls : Stmt := topS 55
abbrev N__law_calls : List Str := ["_law_plan_here", "_law_found", "_law_step"]
theorem sc__law_calls : FnScope N__law_calls ["_law_plan_here"] (defScope S__law_calls) := ⟨rfl, rfl, rfl, by decide +kernel, rfl, by decide +kernel, by decide +kernel⟩
def M__law_calls (R__law_calls : List D → Option Dk → RF) : Ev Fl :=
  (seqS (setS 1 (bindE aNil lstOf))
    (seqS (forS (seqM (eVar 0)) (nmG 2)
    (ifS (eTst truthB (op2 eqW (op2 getW (eVar 2) (eC (.int 0))) (eC (.str "beat"))))
    (exprS (methL appD (eVar 1) (aCons (op2 getW (eVar 2) (eC (.int 1))) aNil)))
    (ifS (eTst truthB (op2 gtW (op2 mulA (op2 getW (eVar 2) (eC (.int 1))) (callE (F__law_length 12) [0] [] 1 (bCons (op2 getW (eVar 2) (eC (.int 2))) bNil))) (eC (.int 0))))
    (exprS (methL extD (eVar 1) (aCons (op2 mulA (callE R__law_calls [0] [] 1 (bCons (op2 getW (eVar 2) (eC (.int 2))) bNil)) (op2 getW (eVar 2) (eC (.int 1)))) aNil)))
    (okE .next))))
    (retS (eVar 1))))
def F__law_calls : Nat → List D → Option Dk → RF
  | 0 => fun _ _ => .stuck
  | n + 1 => runF 3 (M__law_calls (F__law_calls n))
theorem bd__law_calls_1 {K : PySem.W.Frag} {f : Addr} {fd : FuncData} (F : Fun K "_law_calls" "_law_calls" S__law_calls f fd) : Bd K fd ["_law_plan_here"] 1 [] [0] [] [] := by
  obtain ⟨oc, od, kV, doc, pm, an, cdv, ct, osl, rfl, lk, hcd⟩ := F.ex
  exact ⟨⟨[], .nil, fun s us ws hK l1 l2 => match us, ws, l1, l2 with | [u0], [], _, _ => .of_eq rfl⟩, fun _ _ => .nil, rfl, by decide⟩
set_option maxHeartbeats 0 in
theorem ok__law_calls {P : Program} {w : World} {K : PySem.W.Frag} {mg : Str → Option Value} {base : Heap} (h__law_length : Cal P w K mg base 12 "_law_length" S__law_length ["_law_plan_here"] (F__law_length 12)) {f0 : Addr} {fd0 : FuncData} (F0 : Fun K "_law_calls" "_law_calls" S__law_calls f0 fd0) (g0 : mg "_law_calls" = some (.ref f0)) : ∀ n : Nat, FnG P w K mg base (12 + n) f0 fd0 ["_law_plan_here"] (F__law_calls n) := by
  intro n
  induction n with
  | zero => exact fng_stuck
  | succ n ih =>
    have h__law_calls : Cal P w K mg base (12 + n) "_law_calls" S__law_calls ["_law_plan_here"] (F__law_calls n) := ⟨f0, fd0, F0, ih, g0⟩
    exact (by
      have F := F0
      have sc := sc__law_calls
      exact fng (k := 12 + n) F sc fun cdv A outer s H E hr =>
    (dss_cons (ds_set (i := 1) sc.nd rfl (by first | exact .inl rfl | exact .inr rfl) (de_lst da_nil))
    (dss_cons (ds_for (passes_of rfl) (by rfl) (di_seq (de_var (pv 0))) (dg_name (i := 2) sc.nd rfl (by first | exact .inl rfl | exact .inr rfl)) (dss_one (ds_if (dt_cmp (op_eqD hr.u64) pu_eq (nomark _) (de_ix hr.u1 (de_var (pv 2)) de_int) de_str) (dss_one (ds_expr (de_append (de_var (pv 1)) (da_cons (de_ix hr.u1 (de_var (pv 2)) de_int) da_nil)))) (dss_one (ds_if (dt_cmp op_gt pu_gt (nomark _) (de_mulA (de_ix hr.u1 (de_var (pv 2)) de_int) (de_callC h__law_length hr (by omega) (by rfl) bd__law_length_1 (takes_of rfl rfl rfl rfl) (db_cons (de_ix hr.u1 (de_var (pv 2)) de_int) db_nil))) de_int) (dss_one (ds_expr (de_extend (de_var (pv 1)) (da_cons (de_mulA (de_callC h__law_calls hr (by omega) (by rfl) bd__law_calls_1 (takes_of rfl rfl rfl rfl) (db_cons (de_ix hr.u1 (de_var (pv 2)) de_int) db_nil)) (de_ix hr.u1 (de_var (pv 2)) de_int)) da_nil)))) dss_nil)))))
    (dss_one (ds_ret (de_var (pv 1)))))))

/-! ### _law_is_counted_right -/
abbrev S__law_is_counted_right : Stmt := topS 57
abbrev N__law_is_counted_right : List Str := ["_law_floor_here", "_law_plan_here", "_law_beats", "_law_changes_here", "_law_told", "_law_call_here"]
theorem sc__law_is_counted_right : FnScope N__law_is_counted_right ["_law_floor_here", "_law_plan_here"] (defScope S__law_is_counted_right) := ⟨rfl, rfl, rfl, by decide +kernel, rfl, by decide +kernel, by decide +kernel⟩
noncomputable def M__law_is_counted_right : Ev Fl :=
  (seqS (parS [2, 3] (rCons (callE (F__law_length 12) [0] [] 1 (bCons (eVar 1) bNil)) (rCons (callE (F__law_changes 12) [0] [] 1 (bCons (eVar 1) bNil)) rNil)))
    (seqS (ifS (eTst truthB (op2 neW (bltE reprX (rCons (bindE (aCons (callE F_beats_of [0, 1] [] 2 (bCons (eVar 0) (bCons (eVar 1) bNil))) (aCons (callK F_beats_of [1, 0] [] 0 2 bNil (bCons (eVar 1) (bCons (eVar 0) bNil))) aNil)) tupOf) rNil)) (bltE reprX (rCons (bindE (aCons (eVar 2) (aCons (eVar 2) aNil)) tupOf) rNil))))
    (retS (eC (.bl false)))
    (okE .next))
    (seqS (ifS (eTst truthB (op2 neW (bltE reprX (rCons (bindE (aCons (callE F_changes_of [0, 1] [] 2 (bCons (eVar 0) (bCons (eVar 1) bNil))) (aCons (callK F_changes_of [1, 0] [] 0 2 bNil (bCons (eVar 1) (bCons (eVar 0) bNil))) aNil)) tupOf) rNil)) (bltE reprX (rCons (bindE (aCons (eVar 3) (aCons (eVar 3) aNil)) tupOf) rNil))))
    (retS (eC (.bl false)))
    (okE .next))
    (seqS (setS 4 (callE F__law_rolled [0, 1] [] 2 (bCons (eVar 0) (bCons (eVar 1) bNil))))
    (seqS (ifS (eTst truthB (op2 gtW (eVar 2) (eC (.int 2000))))
    (retS (op2 eqW (bltE reprX (rCons (eVar 4) rNil)) (bltE reprX (rCons (bindE (aCons (eC (.str "many")) (aCons (eC (.int 2000)) aNil)) tupOf) rNil))))
    (okE .next))
    (seqS (ifS (orT (eTst truthB (op2 neW (bltE reprX (rCons (eVar 4) rNil)) (bltE reprX (rCons (bindE (aCons (eC (.str "told")) (aCons (bltE tupW (rCons (callE (F__law_calls 12) [0] [] 1 (bCons (eVar 1) bNil)) rNil)) aNil)) tupOf) rNil)))) (eTst truthB (op2 neW (bltE reprX (rCons (callK F_unrolled [1, 0] [] 0 2 bNil (bCons (eVar 1) (bCons (eVar 0) bNil))) rNil)) (bltE reprX (rCons (op2 getW (eVar 4) (eC (.int 1))) rNil)))))
    (retS (eC (.bl false)))
    (okE .next))
    (retS (orV (op2 gtW (eVar 2) (eC (.int 60))) (op2 eqW (bltE reprX (rCons (callE F_plan_map [0, 1] [] 2 (bCons (eVar 0) (bCons (bltE tupW (rCons (lcE [5] (seqM (op2 getW (eVar 4) (eC (.int 1)))) (nmG 5) (lcB (okE true) (lcP (bindE (aCons (eC (.str "beat")) (aCons (eVar 5) aNil)) tupOf)))) rNil)) bNil))) rNil)) (bltE reprX (rCons (callE F_plan_map [0, 1] [] 2 (bCons (eVar 0) (bCons (eVar 1) bNil))) rNil)))))))))))
noncomputable def F__law_is_counted_right : List D → Option Dk → RF := runF 6 M__law_is_counted_right
theorem bd__law_is_counted_right_2 {K : PySem.W.Frag} {f : Addr} {fd : FuncData} (F : Fun K "_law_is_counted_right" "_law_is_counted_right" S__law_is_counted_right f fd) : Bd K fd ["_law_floor_here", "_law_plan_here"] 2 [] [0, 1] [] [] := by
  obtain ⟨oc, od, kV, doc, pm, an, cdv, ct, osl, rfl, lk, hcd⟩ := F.ex
  exact ⟨⟨[], .nil, fun s us ws hK l1 l2 => match us, ws, l1, l2 with | [u0, u1], [], _, _ => .of_eq rfl⟩, fun _ _ => .nil, rfl, by decide⟩
set_option maxHeartbeats 0 in
theorem ok__law_is_counted_right {P : Program} {w : World} {K : PySem.W.Frag} {mg : Str → Option Value} {base : Heap} (h__law_calls : Cal P w K mg base 24 "_law_calls" S__law_calls ["_law_plan_here"] (F__law_calls 12)) (h__law_changes : Cal P w K mg base 12 "_law_changes" S__law_changes ["_law_plan_here"] (F__law_changes 12)) (h__law_length : Cal P w K mg base 12 "_law_length" S__law_length ["_law_plan_here"] (F__law_length 12)) (h__law_rolled : Cal P w K mg base 26 "_law_rolled" S__law_rolled ["_law_floor_here", "_law_plan_here"] F__law_rolled) (h_beats_of : Cal P w K mg base 13 "beats_of" S_beats_of ["floor", "plan"] F_beats_of) (h_changes_of : Cal P w K mg base 13 "changes_of" S_changes_of ["floor", "plan"] F_changes_of) (h_plan_map : Cal P w K mg base 16 "plan_map" S_plan_map ["floor", "plan"] F_plan_map) (h_unrolled : Cal P w K mg base 25 "unrolled" S_unrolled ["floor", "plan"] F_unrolled) (z_repr : mg "repr" = none) (z_tuple : mg "tuple" = none) {f : Addr} {fd : FuncData} (F : Fun K "_law_is_counted_right" "_law_is_counted_right" S__law_is_counted_right f fd) :
    FnG P w K mg base 27 f fd ["_law_floor_here", "_law_plan_here"] F__law_is_counted_right :=
  have sc := sc__law_is_counted_right
  fng F sc fun cdv A outer s H E hr =>
    (dss_cons (ds_par (i := 2) (j := 3) (by rfl) sc.nd rfl rfl (by decide) rfl rfl (dr_cons (de_callC h__law_length hr (by decide) (by rfl) bd__law_length_1 (takes_of rfl rfl rfl rfl) (db_cons (de_var (pv 1)) db_nil)) (dr_cons (de_callC h__law_changes hr (by decide) (by rfl) bd__law_changes_1 (takes_of rfl rfl rfl rfl) (db_cons (de_var (pv 1)) db_nil)) dr_nil)) (by rfl))
    (dss_cons (ds_if (dt_cmp (op_neD hr.u64) pu_ne (nomark _) (de_blt (call_repr hr.g hr.u65) pb_reprX (by rfl) z_repr boot_repr (dr_cons (de_tup (da_cons (de_callC h_beats_of hr (by decide) (by rfl) bd_beats_of_2 (takes_of rfl rfl rfl rfl) (db_cons (de_var (pv 0)) (db_cons (de_var (pv 1)) db_nil))) (da_cons (de_callKC0 h_beats_of hr (by decide) (by rfl) bd_beats_of_0_plan_floor (takes_of rfl rfl rfl rfl) (dk_cons (de_var (pv 1)) (dk_cons (de_var (pv 0)) dk_nil))) da_nil))) dr_nil)) (de_blt (call_repr hr.g hr.u65) pb_reprX (by rfl) z_repr boot_repr (dr_cons (de_tup (da_cons (de_var (pv 2)) (da_cons (de_var (pv 2)) da_nil))) dr_nil))) (dss_one (ds_ret de_bl)) dss_nil)
    (dss_cons (ds_if (dt_cmp (op_neD hr.u64) pu_ne (nomark _) (de_blt (call_repr hr.g hr.u65) pb_reprX (by rfl) z_repr boot_repr (dr_cons (de_tup (da_cons (de_callC h_changes_of hr (by decide) (by rfl) bd_changes_of_2 (takes_of rfl rfl rfl rfl) (db_cons (de_var (pv 0)) (db_cons (de_var (pv 1)) db_nil))) (da_cons (de_callKC0 h_changes_of hr (by decide) (by rfl) bd_changes_of_0_plan_floor (takes_of rfl rfl rfl rfl) (dk_cons (de_var (pv 1)) (dk_cons (de_var (pv 0)) dk_nil))) da_nil))) dr_nil)) (de_blt (call_repr hr.g hr.u65) pb_reprX (by rfl) z_repr boot_repr (dr_cons (de_tup (da_cons (de_var (pv 3)) (da_cons (de_var (pv 3)) da_nil))) dr_nil))) (dss_one (ds_ret de_bl)) dss_nil)
    (dss_cons (ds_set (i := 4) sc.nd rfl (by first | exact .inl rfl | exact .inr rfl) (de_callC h__law_rolled hr (by decide) (by rfl) bd__law_rolled_2 (takes_of rfl rfl rfl rfl) (db_cons (de_var (pv 0)) (db_cons (de_var (pv 1)) db_nil))))
    (dss_cons (ds_if (dt_cmp op_gt pu_gt (nomark _) (de_var (pv 2)) de_int) (dss_one (ds_ret (de_cmp (op_eqD hr.u64) pu_eq (nomark _) (de_blt (call_repr hr.g hr.u65) pb_reprX (by rfl) z_repr boot_repr (dr_cons (de_var (pv 4)) dr_nil)) (de_blt (call_repr hr.g hr.u65) pb_reprX (by rfl) z_repr boot_repr (dr_cons (de_tup (da_cons de_str (da_cons de_int da_nil))) dr_nil))))) dss_nil)
    (dss_cons (ds_if (dt_w (dw_or (dt_cmp (op_neD hr.u64) pu_ne (nomark _) (de_blt (call_repr hr.g hr.u65) pb_reprX (by rfl) z_repr boot_repr (dr_cons (de_var (pv 4)) dr_nil)) (de_blt (call_repr hr.g hr.u65) pb_reprX (by rfl) z_repr boot_repr (dr_cons (de_tup (da_cons de_str (da_cons (de_blty call_tuple_of pb_tup (by rfl) z_tuple boot_tuple (dr_cons (de_callC h__law_calls hr (by decide) (by rfl) bd__law_calls_1 (takes_of rfl rfl rfl rfl) (db_cons (de_var (pv 1)) db_nil)) dr_nil)) da_nil))) dr_nil))) (dw_or1 (dt_cmp (op_neD hr.u64) pu_ne (nomark _) (de_blt (call_repr hr.g hr.u65) pb_reprX (by rfl) z_repr boot_repr (dr_cons (de_callKC0 h_unrolled hr (by decide) (by rfl) bd_unrolled_0_plan_floor (takes_of rfl rfl rfl rfl) (dk_cons (de_var (pv 1)) (dk_cons (de_var (pv 0)) dk_nil))) dr_nil)) (de_blt (call_repr hr.g hr.u65) pb_reprX (by rfl) z_repr boot_repr (dr_cons (de_ix hr.u1 (de_var (pv 4)) de_int) dr_nil)))))) (dss_one (ds_ret de_bl)) dss_nil)
    (dss_one (ds_ret (de_or (de_cmp op_gt pu_gt (nomark _) (de_var (pv 2)) de_int) (de_one (de_cmp (op_eqD hr.u64) pu_eq (nomark _) (de_blt (call_repr hr.g hr.u65) pb_reprX (by rfl) z_repr boot_repr (dr_cons (de_callC h_plan_map hr (by decide) (by rfl) bd_plan_map_2 (takes_of rfl rfl rfl rfl) (db_cons (de_var (pv 0)) (db_cons (de_blty call_tuple_of pb_tup (by rfl) z_tuple boot_tuple (dr_cons (de_lc (own := [("_law_call_here", 5)]) (by rfl) sc.nd (blkOk_by (N := N__law_is_counted_right) (sc := defScope S__law_is_counted_right) (by decide +kernel)) (di_seq (de_ix hr.u1 (de_var (pv 4)) de_int)) gt_name (by decide) (fun _ _ _ _ _ => (dg_name (i := 5) sc.nd rfl (by first | exact .inl rfl | exact .inr rfl))) (fun _ _ _ _ _ => dts_nil) (fun _ _ _ _ _ => (de_tup (da_cons de_str (da_cons (de_var (pv 5)) da_nil))))) dr_nil)) db_nil))) dr_nil)) (de_blt (call_repr hr.g hr.u65) pb_reprX (by rfl) z_repr boot_repr (dr_cons (de_callC h_plan_map hr (by decide) (by rfl) bd_plan_map_2 (takes_of rfl rfl rfl rfl) (db_cons (de_var (pv 0)) (db_cons (de_var (pv 1)) db_nil))) dr_nil)))))))))))))

/-! ### _law_near -/
abbrev S__law_near : Stmt := topS 58
abbrev N__law_near : List Str := ["_law_deck_here", "_law_floor_here", "_law_k", "_law_call_here", "_law_inner", "_law_plan_here"]
theorem sc__law_near : FnScope N__law_near ["_law_deck_here", "_law_floor_here"] (defScope S__law_near) := ⟨rfl, rfl, rfl, by decide +kernel, rfl, by decide +kernel, by decide +kernel⟩
def M__law_near : Ev Fl :=
  (seqS (parS [2, 3] (rCons (callE F__law_pick [0, 1] [] 2 (bCons (eVar 0) (bCons (bindE (aCons (eC (.int 1)) (aCons (eC (.int 2)) (aCons (eC (.int 4)) (aCons (eC (.int 5)) (aCons (eC (.int 8)) (aCons (eC (.int 10)) (aCons (eC (.int 20)) (aCons (eC (.int 40)) aNil)))))))) tupOf) bNil))) (rCons (callE F__law_call [0, 1] [] 2 (bCons (eVar 0) (bCons (eVar 1) bNil))) rNil)))
    (seqS (setS 4 (bindE (aCons (bindE (aCons (eC (.str "times")) (aCons (op2 subD (op2 fdivD (eC (.int 2000)) (eVar 2)) (eC (.int 1))) (aCons (bindE (aCons (bindE (aCons (eC (.str "beat")) (aCons (eVar 3) aNil)) tupOf) aNil) tupOf) aNil))) tupOf) (aCons (bindE (aCons (eC (.str "beat")) (aCons (bindE aNil tupOf) aNil)) tupOf) aNil)) tupOf))
    (seqS (setS 5 (bindE (aCons (bindE (aCons (eC (.str "times")) (aCons (eVar 2) (aCons (eVar 4) aNil))) tupOf) aNil) tupOf))
    (seqS (ifS (eTst truthB (op2 eqW (callE F__law_draw [0, 1] [] 2 (bCons (eVar 0) (bCons (eC (.int 3)) bNil))) (eC (.int 0))))
    (retS (op2 addD (eVar 5) (bindE (aCons (bindE (aCons (eC (.str "beat")) (aCons (eVar 3) aNil)) tupOf) aNil) tupOf)))
    (okE .next))
    (retS (ifE (eTst truthB (op2 eqW (callE F__law_draw [0, 1] [] 2 (bCons (eVar 0) (bCons (eC (.int 2)) bNil))) (eC (.int 0)))) (eVar 5) (op2 addD (eVar 5) (bindE (aCons (bindE (aCons (eC (.str "times")) (aCons (eC (.int 0)) (aCons (eVar 4) aNil))) tupOf) (aCons (bindE (aCons (eC (.str "times")) (aCons (eC (.int 1000)) (aCons (bindE aNil tupOf) aNil))) tupOf) aNil)) tupOf))))))))
def F__law_near : List D → Option Dk → RF := runF 6 M__law_near
theorem bd__law_near_2 {K : PySem.W.Frag} {f : Addr} {fd : FuncData} (F : Fun K "_law_near" "_law_near" S__law_near f fd) : Bd K fd ["_law_deck_here", "_law_floor_here"] 2 [] [0, 1] [] [] := by
  obtain ⟨oc, od, kV, doc, pm, an, cdv, ct, osl, rfl, lk, hcd⟩ := F.ex
  exact ⟨⟨[], .nil, fun s us ws hK l1 l2 => match us, ws, l1, l2 with | [u0, u1], [], _, _ => .of_eq rfl⟩, fun _ _ => .nil, rfl, by decide⟩
set_option maxHeartbeats 0 in
theorem ok__law_near {P : Program} {w : World} {K : PySem.W.Frag} {mg : Str → Option Value} {base : Heap} (h__law_call : Cal P w K mg base 2 "_law_call" S__law_call ["_law_deck_here", "_law_floor_here"] F__law_call) (h__law_draw : Cal P w K mg base 1 "_law_draw" S__law_draw ["_law_deck_here", "_law_many"] F__law_draw) (h__law_pick : Cal P w K mg base 2 "_law_pick" S__law_pick ["_law_deck_here", "_law_some"] F__law_pick) {f : Addr} {fd : FuncData} (F : Fun K "_law_near" "_law_near" S__law_near f fd) :
    FnG P w K mg base 3 f fd ["_law_deck_here", "_law_floor_here"] F__law_near :=
  have sc := sc__law_near
  fng F sc fun cdv A outer s H E hr =>
    (dss_cons (ds_par (i := 2) (j := 3) (by rfl) sc.nd rfl rfl (by decide) rfl rfl (dr_cons (de_callC h__law_pick hr (by decide) (by rfl) bd__law_pick_2 (takes_of rfl rfl rfl rfl) (db_cons (de_var (pv 0)) (db_cons (de_tup (da_cons de_int (da_cons de_int (da_cons de_int (da_cons de_int (da_cons de_int (da_cons de_int (da_cons de_int (da_cons de_int da_nil))))))))) db_nil))) (dr_cons (de_callC h__law_call hr (by decide) (by rfl) bd__law_call_2 (takes_of rfl rfl rfl rfl) (db_cons (de_var (pv 0)) (db_cons (de_var (pv 1)) db_nil))) dr_nil)) (by rfl))
    (dss_cons (ds_set (i := 4) sc.nd rfl (by first | exact .inl rfl | exact .inr rfl) (de_tup (da_cons (de_tup (da_cons de_str (da_cons (de_minus (de_fdiv de_int (de_var (pv 2))) de_int) (da_cons (de_tup (da_cons (de_tup (da_cons de_str (da_cons (de_var (pv 3)) da_nil))) da_nil)) da_nil)))) (da_cons (de_tup (da_cons de_str (da_cons (de_tup da_nil) da_nil))) da_nil))))
    (dss_cons (ds_set (i := 5) sc.nd rfl (by first | exact .inl rfl | exact .inr rfl) (de_tup (da_cons (de_tup (da_cons de_str (da_cons (de_var (pv 2)) (da_cons (de_var (pv 4)) da_nil)))) da_nil)))
    (dss_cons (ds_if (dt_cmp (op_eqD hr.u64) pu_eq (nomark _) (de_callC h__law_draw hr (by decide) (by rfl) bd__law_draw_2 (takes_of rfl rfl rfl rfl) (db_cons (de_var (pv 0)) (db_cons de_int db_nil))) de_int) (dss_one (ds_ret (de_add (de_var (pv 5)) (de_tup (da_cons (de_tup (da_cons de_str (da_cons (de_var (pv 3)) da_nil))) da_nil))))) dss_nil)
    (dss_one (ds_ret (de_if (dt_cmp (op_eqD hr.u64) pu_eq (nomark _) (de_callC h__law_draw hr (by decide) (by rfl) bd__law_draw_2 (takes_of rfl rfl rfl rfl) (db_cons (de_var (pv 0)) (db_cons de_int db_nil))) de_int) (de_var (pv 5)) (de_add (de_var (pv 5)) (de_tup (da_cons (de_tup (da_cons de_str (da_cons de_int (da_cons (de_var (pv 4)) da_nil)))) (da_cons (de_tup (da_cons de_str (da_cons de_int (da_cons (de_tup da_nil) da_nil)))) da_nil)))))))))))

/-! ### law -/
abbrev S_law : Stmt := topS 59
abbrev N_law : List Str := ["_law_script", "_law_deck_here", "_law_turn", "_law_floor_here", "_law_one", "_law_other", "_law_k", "_law_deep", "_law_plan_here", "_law_none"]
theorem sc_law : FnScope N_law ["_law_script"] (defScope S_law) := ⟨rfl, rfl, rfl, by decide +kernel, rfl, by decide +kernel, by decide +kernel⟩
noncomputable def M_law : Ev Fl :=
  (seqS (setS 1 (callE F__law_deck [0] [] 1 (bCons (eVar 0) bNil)))
    (seqS (forS (ofL rng1 (aCons (eC (.int 4)) aNil)) (nmG 2)
    (seqS (setS 3 (callE F__law_floor [0, 1] [] 2 (bCons (eVar 1) (bCons (ifE (eTst truthB (op2 eqW (callE F__law_draw [0, 1] [] 2 (bCons (eVar 1) (bCons (eC (.int 4)) bNil))) (eC (.int 0)))) (eC (.int 24)) (eC (.int 9))) bNil))))
    (seqS (parS [4, 5] (rCons (callE (F__law_plan 12) [0, 1, 2, 3] [] 4 (bCons (eVar 1) (bCons (eVar 3) (bCons (eC (.int 2)) (bCons (eC (.bl true)) bNil))))) (rCons (callE (F__law_plan 12) [0, 1, 2, 3] [] 4 (bCons (eVar 1) (bCons (eVar 3) (bCons (eC (.int 2)) (bCons (eC (.bl false)) bNil))))) rNil)))
    (seqS (setS 6 (callE F__law_pick [0, 1] [] 2 (bCons (eVar 1) (bCons (bindE (aCons (eC (.int 0)) (aCons (eC (.int 1)) (aCons (eC (.int 2)) (aCons (eC (.int 7)) (aCons (op2 powD (eC (.int 10)) (eC (.int 6))) (aCons (op2 powD (eC (.int 10)) (eC (.int 20))) aNil)))))) tupOf) bNil))))
    (seqS (setS 7 (bindE (aCons (bindE (aCons (eC (.str "times")) (aCons (eVar 6) (aCons (bindE (aCons (bindE (aCons (eC (.str "times")) (aCons (callE F__law_draw [0, 1] [] 2 (bCons (eVar 1) (bCons (eC (.int 10)) bNil))) (aCons (sliceE (eVar 5) oNone (oSome (eC (.int 2)))) aNil))) tupOf) aNil) tupOf) aNil))) tupOf) aNil) tupOf))
    (seqS (forS (seqM (bindE (aCons (eVar 4) (aCons (eVar 5) (aCons (op2 addD (sliceE (eVar 4) oNone (oSome (eC (.int 2)))) (sliceE (eVar 5) oNone (oSome (eC (.int 2))))) (aCons (eVar 7) (aCons (bindE aNil tupOf) aNil))))) tupOf)) (nmG 8)
    (ifS (bindE (eTst truthD (callE F__law_is_counted_right [0, 1] [] 2 (bCons (eVar 3) (bCons (eVar 8) bNil)))) fun b => okE (!b))
    (retS (eC (.bl false)))
    (okE .next)))
    (seqS (setS 9 (bindE (aCons (bindE (aCons (eC (.str "times")) (aCons (eC (.int 0)) (aCons (op2 addD (sliceE (eVar 5) oNone (oSome (eC (.int 1)))) (sliceE (eVar 4) oNone (oSome (eC (.int 1))))) aNil))) tupOf) (aCons (bindE (aCons (eC (.str "times")) (aCons (op2 powD (eC (.int 10)) (eC (.int 30))) (aCons (bindE aNil tupOf) aNil))) tupOf) aNil)) tupOf))
    (seqS (ifS (eTst truthB (op2 neW (bltE reprX (rCons (bindE (aCons (callE F_unrolled [0, 1] [] 2 (bCons (eVar 3) (bCons (eVar 9) bNil))) (aCons (callE F_beats_of [0, 1] [] 2 (bCons (eVar 3) (bCons (eVar 9) bNil))) (aCons (callE F_changes_of [0, 1] [] 2 (bCons (eVar 3) (bCons (eVar 9) bNil))) aNil))) tupOf) rNil)) (bltE reprX (rCons (bindE (aCons (bindE aNil tupOf) (aCons (eC (.int 0)) (aCons (eC (.int 0)) aNil))) tupOf) rNil))))
    (retS (eC (.bl false)))
    (okE .next))
    (seqS (ifS (eTst truthB (op2 neW (callE F_beats_of [0, 1] [] 2 (bCons (eVar 3) (bCons (op2 addD (sliceE (eVar 4) oNone (oSome (eC (.int 2)))) (sliceE (eVar 5) oNone (oSome (eC (.int 2))))) bNil))) (op2 addD (callE F_beats_of [0, 1] [] 2 (bCons (eVar 3) (bCons (sliceE (eVar 4) oNone (oSome (eC (.int 2)))) bNil))) (callE F_beats_of [0, 1] [] 2 (bCons (eVar 3) (bCons (sliceE (eVar 5) oNone (oSome (eC (.int 2)))) bNil))))))
    (retS (eC (.bl false)))
    (okE .next))
    (seqS (ifS (eTst truthB (op2 neW (bltE reprX (rCons (bindE (aCons (callE F_beats_of [0, 1] [] 2 (bCons (eVar 3) (bCons (bindE (aCons (bindE (aCons (eC (.str "times")) (aCons (eVar 6) (aCons (eVar 5) aNil))) tupOf) aNil) tupOf) bNil))) (aCons (callE F_changes_of [0, 1] [] 2 (bCons (eVar 3) (bCons (bindE (aCons (bindE (aCons (eC (.str "times")) (aCons (eVar 6) (aCons (eVar 5) aNil))) tupOf) aNil) tupOf) bNil))) aNil)) tupOf) rNil)) (bltE reprX (rCons (bindE (aCons (op2 mulA (eVar 6) (callE F_beats_of [0, 1] [] 2 (bCons (eVar 3) (bCons (eVar 5) bNil)))) (aCons (op2 mulA (eVar 6) (callE F_changes_of [0, 1] [] 2 (bCons (eVar 3) (bCons (eVar 5) bNil)))) aNil)) tupOf) rNil))))
    (retS (eC (.bl false)))
    (okE .next))
    (ifS (andT (eTst truthB (op2 eqW (eVar 2) (eC (.int 0)))) (andT (eTst truthB (op2 eqW (callE F__law_draw [0, 1] [] 2 (bCons (eVar 1) (bCons (eC (.int 3)) bNil))) (eC (.int 0)))) (bindE (eTst truthD (callE F__law_is_counted_right [0, 1] [] 2 (bCons (eVar 3) (bCons (callE F__law_near [0, 1] [] 2 (bCons (eVar 1) (bCons (eVar 3) bNil))) bNil)))) fun b => okE (!b))))
    (retS (eC (.bl false)))
    (okE .next))))))))))))
    (retS (eC (.bl true)))))
noncomputable def F_law : List D → Option Dk → RF := runF 10 M_law
set_option maxHeartbeats 0 in
theorem ok_law {P : Program} {w : World} {K : PySem.W.Frag} {mg : Str → Option Value} {base : Heap} (h__law_deck : Cal P w K mg base 1 "_law_deck" S__law_deck ["_law_script"] F__law_deck) (h__law_draw : Cal P w K mg base 1 "_law_draw" S__law_draw ["_law_deck_here", "_law_many"] F__law_draw) (h__law_floor : Cal P w K mg base 4 "_law_floor" S__law_floor ["_law_deck_here", "_law_most"] F__law_floor) (h__law_is_counted_right : Cal P w K mg base 27 "_law_is_counted_right" S__law_is_counted_right ["_law_floor_here", "_law_plan_here"] F__law_is_counted_right) (h__law_near : Cal P w K mg base 3 "_law_near" S__law_near ["_law_deck_here", "_law_floor_here"] F__law_near) (h__law_pick : Cal P w K mg base 2 "_law_pick" S__law_pick ["_law_deck_here", "_law_some"] F__law_pick) (h__law_plan : Cal P w K mg base 14 "_law_plan" S__law_plan ["_law_deck_here", "_law_floor_here", "_law_deep", "_law_great"] (F__law_plan 12)) (h_beats_of : Cal P w K mg base 13 "beats_of" S_beats_of ["floor", "plan"] F_beats_of) (h_changes_of : Cal P w K mg base 13 "changes_of" S_changes_of ["floor", "plan"] F_changes_of) (h_unrolled : Cal P w K mg base 25 "unrolled" S_unrolled ["floor", "plan"] F_unrolled) (z_range : mg "range" = none) (z_repr : mg "repr" = none) {f : Addr} {fd : FuncData} (F : Fun K "law" "law" S_law f fd) :
    FnG P w K mg base 28 f fd ["_law_script"] F_law :=
  have sc := sc_law
  fng F sc fun cdv A outer s H E hr =>
    (dss_cons (ds_set (i := 1) sc.nd rfl (by first | exact .inl rfl | exact .inr rfl) (de_callC h__law_deck hr (by decide) (by rfl) bd__law_deck_1 (takes_of rfl rfl rfl rfl) (db_cons (de_var (pv 0)) db_nil)))
    (dss_cons (ds_for (passes_of rfl) (by rfl) (di_range1 (by rfl) z_range (da_cons de_int da_nil)) (dg_name (i := 2) sc.nd rfl (by first | exact .inl rfl | exact .inr rfl)) (dss_cons (ds_set (i := 3) sc.nd rfl (by first | exact .inl rfl | exact .inr rfl) (de_callC h__law_floor hr (by decide) (by rfl) bd__law_floor_2 (takes_of rfl rfl rfl rfl) (db_cons (de_var (pv 1)) (db_cons (de_if (dt_cmp (op_eqD hr.u64) pu_eq (nomark _) (de_callC h__law_draw hr (by decide) (by rfl) bd__law_draw_2 (takes_of rfl rfl rfl rfl) (db_cons (de_var (pv 1)) (db_cons de_int db_nil))) de_int) de_int de_int) db_nil))))
    (dss_cons (ds_par (i := 4) (j := 5) (by rfl) sc.nd rfl rfl (by decide) rfl rfl (dr_cons (de_callC h__law_plan hr (by decide) (by rfl) bd__law_plan_4 (takes_of rfl rfl rfl rfl) (db_cons (de_var (pv 1)) (db_cons (de_var (pv 3)) (db_cons de_int (db_cons de_bl db_nil))))) (dr_cons (de_callC h__law_plan hr (by decide) (by rfl) bd__law_plan_4 (takes_of rfl rfl rfl rfl) (db_cons (de_var (pv 1)) (db_cons (de_var (pv 3)) (db_cons de_int (db_cons de_bl db_nil))))) dr_nil)) (by rfl))
    (dss_cons (ds_set (i := 6) sc.nd rfl (by first | exact .inl rfl | exact .inr rfl) (de_callC h__law_pick hr (by decide) (by rfl) bd__law_pick_2 (takes_of rfl rfl rfl rfl) (db_cons (de_var (pv 1)) (db_cons (de_tup (da_cons de_int (da_cons de_int (da_cons de_int (da_cons de_int (da_cons (de_pow de_int de_int) (da_cons (de_pow de_int de_int) da_nil))))))) db_nil))))
    (dss_cons (ds_set (i := 7) sc.nd rfl (by first | exact .inl rfl | exact .inr rfl) (de_tup (da_cons (de_tup (da_cons de_str (da_cons (de_var (pv 6)) (da_cons (de_tup (da_cons (de_tup (da_cons de_str (da_cons (de_callC h__law_draw hr (by decide) (by rfl) bd__law_draw_2 (takes_of rfl rfl rfl rfl) (db_cons (de_var (pv 1)) (db_cons de_int db_nil))) (da_cons (de_slice (de_var (pv 5)) do_none (do_some de_int)) da_nil)))) da_nil)) da_nil)))) da_nil)))
    (dss_cons (ds_for (passes_of rfl) (by rfl) (di_seq (de_tup (da_cons (de_var (pv 4)) (da_cons (de_var (pv 5)) (da_cons (de_add (de_slice (de_var (pv 4)) do_none (do_some de_int)) (de_slice (de_var (pv 5)) do_none (do_some de_int))) (da_cons (de_var (pv 7)) (da_cons (de_tup da_nil) da_nil))))))) (dg_name (i := 8) sc.nd rfl (by first | exact .inl rfl | exact .inr rfl)) (dss_one (ds_if (dt_not (dt_val (de_callC h__law_is_counted_right hr (by decide) (by rfl) bd__law_is_counted_right_2 (takes_of rfl rfl rfl rfl) (db_cons (de_var (pv 3)) (db_cons (de_var (pv 8)) db_nil))))) (dss_one (ds_ret de_bl)) dss_nil)))
    (dss_cons (ds_set (i := 9) sc.nd rfl (by first | exact .inl rfl | exact .inr rfl) (de_tup (da_cons (de_tup (da_cons de_str (da_cons de_int (da_cons (de_add (de_slice (de_var (pv 5)) do_none (do_some de_int)) (de_slice (de_var (pv 4)) do_none (do_some de_int))) da_nil)))) (da_cons (de_tup (da_cons de_str (da_cons (de_pow de_int de_int) (da_cons (de_tup da_nil) da_nil)))) da_nil))))
    (dss_cons (ds_if (dt_cmp (op_neD hr.u64) pu_ne (nomark _) (de_blt (call_repr hr.g hr.u65) pb_reprX (by rfl) z_repr boot_repr (dr_cons (de_tup (da_cons (de_callC h_unrolled hr (by decide) (by rfl) bd_unrolled_2 (takes_of rfl rfl rfl rfl) (db_cons (de_var (pv 3)) (db_cons (de_var (pv 9)) db_nil))) (da_cons (de_callC h_beats_of hr (by decide) (by rfl) bd_beats_of_2 (takes_of rfl rfl rfl rfl) (db_cons (de_var (pv 3)) (db_cons (de_var (pv 9)) db_nil))) (da_cons (de_callC h_changes_of hr (by decide) (by rfl) bd_changes_of_2 (takes_of rfl rfl rfl rfl) (db_cons (de_var (pv 3)) (db_cons (de_var (pv 9)) db_nil))) da_nil)))) dr_nil)) (de_blt (call_repr hr.g hr.u65) pb_reprX (by rfl) z_repr boot_repr (dr_cons (de_tup (da_cons (de_tup da_nil) (da_cons de_int (da_cons de_int da_nil)))) dr_nil))) (dss_one (ds_ret de_bl)) dss_nil)
    (dss_cons (ds_if (dt_cmp (op_neD hr.u64) pu_ne (nomark _) (de_callC h_beats_of hr (by decide) (by rfl) bd_beats_of_2 (takes_of rfl rfl rfl rfl) (db_cons (de_var (pv 3)) (db_cons (de_add (de_slice (de_var (pv 4)) do_none (do_some de_int)) (de_slice (de_var (pv 5)) do_none (do_some de_int))) db_nil))) (de_add (de_callC h_beats_of hr (by decide) (by rfl) bd_beats_of_2 (takes_of rfl rfl rfl rfl) (db_cons (de_var (pv 3)) (db_cons (de_slice (de_var (pv 4)) do_none (do_some de_int)) db_nil))) (de_callC h_beats_of hr (by decide) (by rfl) bd_beats_of_2 (takes_of rfl rfl rfl rfl) (db_cons (de_var (pv 3)) (db_cons (de_slice (de_var (pv 5)) do_none (do_some de_int)) db_nil))))) (dss_one (ds_ret de_bl)) dss_nil)
    (dss_cons (ds_if (dt_cmp (op_neD hr.u64) pu_ne (nomark _) (de_blt (call_repr hr.g hr.u65) pb_reprX (by rfl) z_repr boot_repr (dr_cons (de_tup (da_cons (de_callC h_beats_of hr (by decide) (by rfl) bd_beats_of_2 (takes_of rfl rfl rfl rfl) (db_cons (de_var (pv 3)) (db_cons (de_tup (da_cons (de_tup (da_cons de_str (da_cons (de_var (pv 6)) (da_cons (de_var (pv 5)) da_nil)))) da_nil)) db_nil))) (da_cons (de_callC h_changes_of hr (by decide) (by rfl) bd_changes_of_2 (takes_of rfl rfl rfl rfl) (db_cons (de_var (pv 3)) (db_cons (de_tup (da_cons (de_tup (da_cons de_str (da_cons (de_var (pv 6)) (da_cons (de_var (pv 5)) da_nil)))) da_nil)) db_nil))) da_nil))) dr_nil)) (de_blt (call_repr hr.g hr.u65) pb_reprX (by rfl) z_repr boot_repr (dr_cons (de_tup (da_cons (de_mulA (de_var (pv 6)) (de_callC h_beats_of hr (by decide) (by rfl) bd_beats_of_2 (takes_of rfl rfl rfl rfl) (db_cons (de_var (pv 3)) (db_cons (de_var (pv 5)) db_nil)))) (da_cons (de_mulA (de_var (pv 6)) (de_callC h_changes_of hr (by decide) (by rfl) bd_changes_of_2 (takes_of rfl rfl rfl rfl) (db_cons (de_var (pv 3)) (db_cons (de_var (pv 5)) db_nil)))) da_nil))) dr_nil))) (dss_one (ds_ret de_bl)) dss_nil)
    (dss_one (ds_if (dt_w (dw_and (dt_cmp (op_eqD hr.u64) pu_eq (nomark _) (de_var (pv 2)) de_int) (dw_and (dt_cmp (op_eqD hr.u64) pu_eq (nomark _) (de_callC h__law_draw hr (by decide) (by rfl) bd__law_draw_2 (takes_of rfl rfl rfl rfl) (db_cons (de_var (pv 1)) (db_cons de_int db_nil))) de_int) (dw_and1 (dt_not (dt_val (de_callC h__law_is_counted_right hr (by decide) (by rfl) bd__law_is_counted_right_2 (takes_of rfl rfl rfl rfl) (db_cons (de_var (pv 3)) (db_cons (de_callC h__law_near hr (by decide) (by rfl) bd__law_near_2 (takes_of rfl rfl rfl rfl) (db_cons (de_var (pv 1)) (db_cons (de_var (pv 3)) db_nil))) db_nil))))))))) (dss_one (ds_ret de_bl)) dss_nil))))))))))))
    (dss_one (ds_ret de_bl))))
end Lk12

/-! ### P1 -/
namespace Lk12
open L2 Dl PySem PySem.Spec PyProof.Rows
theorem f_int (i : Int) (dk : Option Dk) : F_is_integer [.int i] dk = .ok (.bl true) dk := rfl
theorem f_pair (a b : D) (dk : Option Dk) : F_is_pair [.tup [a, b]] dk = .ok (.bl true) dk := rfl
theorem f_from (i j : Int) (dk : Option Dk) : F_is_from [.int i, .int j] dk = .ok (.bl (decide (j ≤ i))) dk := rfl
theorem f_between (i j k : Int) (dk : Option Dk) (h : j ≤ i) : F_is_between [.int i, .int j, .int k] dk = .ok (.bl (decide (i ≤ k))) dk := by
  simp [F_is_between, M_is_between, runF, f_int, h]
theorem f_behind (p : D) (u i k len : Int) (rs : List D) (dk : Option Dk) (h : atI rs u = some (.int len)) (hl : 0 < len) : F_place_behind [.tup rs, .tup [.int u, .int i], .int k] dk = .ok (.tup [.int u, .int ((i + k) % len)]) dk := by
  have e0 : atI [D.int u, .int i] 0 = some (.int u) := rfl
  have e1 : atI [D.int u, .int i] 1 = some (.int i) := rfl
  simp [F_place_behind, M_place_behind, runF, h, e0, e1, hl]
theorem f_place_of (rs : List D) (u i len : Int) (dk : Option Dk) (h : atI rs u = some (.int len)) (h0 : 0 ≤ u) (h1 : u ≤ rs.length - 1) (h2 : 0 ≤ i) (h3 : i ≤ len - 1) : F_is_place_of [.tup rs, .tup [.int u, .int i]] dk = .ok (.bl true) dk := by
  have e0 : atI [D.int u, .int i] 0 = some (.int u) := rfl
  have e1 : atI [D.int u, .int i] 1 = some (.int i) := rfl
  simp [F_is_place_of, M_is_place_of, runF, h, e0, e1, f_pair, f_between, h0, h1, h2, h3]
end Lk12

/-! ### P2 -/
namespace Lk12
open L2 Dl PySem PySem.Spec PyProof.Rows
/-- this law's deck -/
def dk0 (c : List Int) (m d : Int) : Dk := ⟨"cells", "draws", c, m, d⟩
section
variable {c : List Int} {m d i : Int} {ρ : List Slot}
theorem g1 : dkGet "draws" (eVar 0) ⟨.fz .deck :: ρ, some (dk0 c m d)⟩ = .ok (.val (.int d)) ⟨.fz .deck :: ρ, some (dk0 c m d)⟩ := rfl
theorem g2 : dkGet "mixed" (eVar 0) ⟨.fz .deck :: ρ, some (dk0 c m d)⟩ = .ok (.val (.int m)) ⟨.fz .deck :: ρ, some (dk0 c m d)⟩ := rfl
theorem g3 {mv : Ev W} (h : mv ⟨.fz .deck :: ρ, some (dk0 c m d)⟩ = .ok (.val (.int i)) ⟨.fz .deck :: ρ, some (dk0 c m d)⟩) : dkPut "draws" mv (eVar 0) ⟨.fz .deck :: ρ, some (dk0 c m d)⟩ = .ok .next ⟨.fz .deck :: ρ, some (dk0 c m i)⟩ := by
  unfold dkPut
  simp only [s_bind, h]
  rfl
theorem g4 : dkNe "cells" (eVar 0) ⟨.fz .deck :: ρ, some (dk0 c m d)⟩ = .ok (!c.isEmpty) ⟨.fz .deck :: ρ, some (dk0 c m d)⟩ := rfl
theorem g5 : dkPop "cells" (eVar 0) ⟨.fz .deck :: ρ, some (dk0 (c ++ [i]) m d)⟩ = .ok (.val (.int i)) ⟨.fz .deck :: ρ, some (dk0 c m d)⟩ := by
  have e : (c ++ [i])[(c ++ [i]).length - 1]? = some i := by simp
  have e2 : (c ++ [i]).dropLast = c := by simp
  simp only [dkPop, s_bind, s_var, List.getElem?_cons_zero, s_cv]
  rw [if_pos ⟨rfl, rfl⟩]
  simp only [dk0, e, e2]
theorem g6 {me : Ev W} (hl : c.length < 63) (h : me ⟨.fz .deck :: ρ, some (dk0 c m d)⟩ = .ok (.val (.int i)) ⟨.fz .deck :: ρ, some (dk0 c m d)⟩) : dkApp "cells" (eVar 0) me ⟨.fz .deck :: ρ, some (dk0 c m d)⟩ = .ok (.val .non) ⟨.fz .deck :: ρ, some (dk0 (c ++ [i]) m d)⟩ := by
  show bindE me _ _ = _
  simp only [s_bind, h]
  show (if _ ∧ _ ∧ _ then _ else _) = _
  rw [if_pos ⟨rfl, rfl, hl⟩]
  rfl
end
theorem draw_ok {B m : Int} {k : Dk} (hk : DkS B k) (hn : k.n1 = "cells" ∧ k.n3 = "draws") (hB : B < 1000000000) (h1 : 0 < m) (h2 : m < 18446744073709551616) :
    ∃ r k', F__law_draw [.deck, .int m] (some k) = .ok (.int r) (some k') ∧ DkS (B + 1) k' ∧ (k'.n1 = "cells" ∧ k'.n3 = "draws") ∧ 0 ≤ r ∧ r < m := by
  obtain ⟨n1, n3, c, mx, dr⟩ := k
  obtain ⟨rfl, rfl⟩ := hn
  obtain ⟨m0, m1, d0, d1, hc⟩ := hk
  simp only at m0 m1 d0 d1 hc
  have e9 : mulA (.int 60373) (.int (dr + 1)) = some (.val (.int (60373 * (dr + 1)))) := by
    rw [Dl.v_mul, if_pos (mulOk_small (by omega) (by omega))]
  have pw : powD (.int 10) (.int 18) = some (.val (.int 1000000000000000000)) := rfl
  have fin : ∀ (c' : List Int) (x : Int) (s : Slot), 0 ≤ x → x < 2 ^ 100 → c'.length ≤ 63 → ∃ r st k', (seqS (setS 2 (op2 modD (bltE intW (rCons (op2 addD (op2 mulA (eVar 2) (eC (.int 69621))) (eC (.int 77))) rNil)) (eC (.int 2147483579))))
    (seqS (setS 2 (op2 modD (bltE intW (rCons (op2 addD (op2 addD (op2 mulA (eVar 2) (eVar 2)) (op2 mulA (eC (.int 50021)) (dkGet "draws" (eVar 0)))) (eC (.int 113))) rNil)) (eC (.int 2147483629))))
    (seqS (setS 2 (op2 modD (bltE intW (rCons (op2 mulA (eVar 2) (eC (.int 40014))) rNil)) (eC (.int 2147483399))))
    (retS (op2 modD (bltE intW (rCons (op2 fdivD (eVar 2) (eC (.int 64))) rNil)) (eVar 1)))))) ⟨[.fz .deck, .fz (.int m), .fz (.int x), s], some (dk0 c' mx (dr + 1))⟩ = .ok (.ret (.int r)) ⟨st, some k'⟩ ∧ DkS (B + 1) k' ∧ (k'.n1 = "cells" ∧ k'.n3 = "draws") ∧ 0 ≤ r ∧ r < m := by
    intro c' x s hx hx2 hc'
    have q1 : mulOk x 69621 = true := mulOk_small (by omega) (by omega)
    have q2 : mulOk ((x * 69621 + 77) % 2147483579) ((x * 69621 + 77) % 2147483579) = true := mulOk_small (by omega) (by omega)
    have q3 : mulOk 50021 (dr + 1) = true := mulOk_small (by omega) (by omega)
    have q4 : ∀ y : Int, mulOk (y % 2147483629) 40014 = true := fun y => mulOk_small (by omega) (by omega)
    have q5 : divOk 64 = true := rfl
    simp [g1, q1, q2, q3, q4, q5, h1]
    exact ⟨_, _, _, ⟨rfl, rfl, rfl⟩, ⟨m0, m1, by show 0 ≤ dr + 1; omega, by show dr + 1 ≤ B + 1; omega, hc'⟩, ⟨rfl, rfl⟩, Int.emod_nonneg _ (by omega), Int.emod_lt_of_pos _ h1⟩
  have run : ∀ {st : Stt}, (∃ r st' k', M__law_draw st = .ok (.ret (.int r)) ⟨st', some k'⟩ ∧ DkS (B + 1) k' ∧ (k'.n1 = "cells" ∧ k'.n3 = "draws") ∧ 0 ≤ r ∧ r < m) → st = ⟨[.fz .deck, .fz (.int m), .un, .un], some (dk0 c mx dr)⟩ → ∃ r k', F__law_draw [.deck, .int m] (some ⟨"cells", "draws", c, mx, dr⟩) = .ok (.int r) (some k') ∧ DkS (B + 1) k' ∧ (k'.n1 = "cells" ∧ k'.n3 = "draws") ∧ 0 ≤ r ∧ r < m := by
    rintro st ⟨r, st', k', h, q⟩ rfl
    refine ⟨r, k', ?_, q⟩
    show (match M__law_draw ⟨[.fz .deck, .fz (.int m), .un, .un], some (dk0 c mx dr)⟩ with
      | .ok (.ret d) st => RF.ok d st.dk
      | .ok .next st => RF.ok .non st.dk
      | .exc x st => .exc x st.dk
      | _ => .stuck) = _
    rw [h]
  refine run ?_ rfl
  have p0 : dkPut "draws" (op2 addD (dkGet "draws" (eVar 0)) (eC (.int 1))) (eVar 0) ⟨[.fz .deck, .fz (.int m), .un, .un], some (dk0 c mx dr)⟩ = .ok .next ⟨[.fz .deck, .fz (.int m), .un, .un], some (dk0 c mx (dr + 1))⟩ := g3 (by simp [g1])
  have p1 : setS 2 (op2 addD (dkGet "mixed" (eVar 0)) (op2 mulA (eC (.int 60373)) (dkGet "draws" (eVar 0)))) ⟨[.fz .deck, .fz (.int m), .un, .un], some (dk0 c mx (dr + 1))⟩ = .ok .next ⟨[.fz .deck, .fz (.int m), .fz (.int (mx + 60373 * (dr + 1))), .un], some (dk0 c mx (dr + 1))⟩ := by
    have q : mulOk 60373 (dr + 1) = true := mulOk_small (by omega) (by omega)
    simp [g1, g2, q]
  unfold M__law_draw
  rw [s_seq, p0]
  simp only
  rw [s_seq, p1]
  simp only
  rcases List.eq_nil_or_concat c with rfl | ⟨c0, i, rfl⟩
  · have p2 : ∀ (s1 : Ev Fl), ifS (dkNe "cells" (eVar 0)) s1 (okE .next) ⟨[.fz .deck, .fz (.int m), .fz (.int (mx + 60373 * (dr + 1))), .un], some (dk0 [] mx (dr + 1))⟩ = .ok .next ⟨[.fz .deck, .fz (.int m), .fz (.int (mx + 60373 * (dr + 1))), .un], some (dk0 [] mx (dr + 1))⟩ := fun s1 => by
      simp [g4]
    rw [s_seq, p2]
    obtain ⟨r, st', k', h, q⟩ := fin [] (mx + 60373 * (dr + 1)) .un (by omega) (by omega) (by simp)
    exact ⟨r, st', k', h, q⟩
  · rw [List.concat_eq_append] at *
    simp only [List.length_append, List.length_cons, List.length_nil] at hc
    by_cases hi : 1000000000000000000 ≤ i
    · have q1 : divOk (if m > 2 then m else 2) = true := divOk_small (by split <;> omega) (by split <;> omega)
      have a1 : dkApp "cells" (eVar 0) (op2 fdivD (eVar 3) (bltE max2W (rCons (eC (.int 2)) (rCons (eVar 1) rNil)))) ⟨[.fz .deck, .fz (.int m), .fz (.int (mx + 60373 * (dr + 1))), .fz (.int i)], some (dk0 c0 mx (dr + 1))⟩ = .ok (.val .non) ⟨[.fz .deck, .fz (.int m), .fz (.int (mx + 60373 * (dr + 1))), .fz (.int i)], some (dk0 (c0 ++ [i / (if m > 2 then m else 2)]) mx (dr + 1))⟩ :=
        g6 (by omega) (by simp [q1])
      rw [s_seq, s_if]
      simp [g4, g5, pw, hi, a1, h1]
      exact ⟨_, _, _, ⟨rfl, rfl, rfl⟩, ⟨m0, m1, by show 0 ≤ dr + 1; omega, by show dr + 1 ≤ B + 1; omega, by show (c0 ++ _).length ≤ 63; simp; omega⟩, ⟨rfl, rfl⟩, Int.emod_nonneg _ (by omega), Int.emod_lt_of_pos _ h1⟩
    · obtain ⟨r, st', k', h, q⟩ := fin c0 (mx + 60373 * (dr + 1) + i % 2147483549) (.fz (.int i)) (by omega) (by omega) (by omega)
      have p3 : ifS (dkNe "cells" (eVar 0)) (seqS (setS 3 (dkPop "cells" (eVar 0))) (seqS (ifS (eTst truthB (op2 geW (eVar 3) (op2 powD (eC (.int 10)) (eC (.int 18))))) (seqS (exprS (dkApp "cells" (eVar 0) (op2 fdivD (eVar 3) (bltE max2W (rCons (eC (.int 2)) (rCons (eVar 1) rNil)))))) (retS (op2 modD (bltE intW (rCons (eVar 3) rNil)) (eVar 1)))) (okE .next)) (setS 2 (op2 addD (eVar 2) (op2 modD (bltE intW (rCons (eVar 3) rNil)) (eC (.int 2147483549))))))) (okE .next)
          ⟨[.fz .deck, .fz (.int m), .fz (.int (mx + 60373 * (dr + 1))), .un], some (dk0 (c0 ++ [i]) mx (dr + 1))⟩ = .ok .next ⟨[.fz .deck, .fz (.int m), .fz (.int (mx + 60373 * (dr + 1) + i % 2147483549)), .fz (.int i)], some (dk0 c0 mx (dr + 1))⟩ := by
        simp [g4, g5, pw, hi]
      rw [s_seq, p3]
      exact ⟨r, st', k', h, q⟩
end Lk12

/-! ### P3 -/
namespace Lk12
open L2 Dl PySem PySem.Spec PyProof.Rows
def Dks (B : Int) (dk : Option Dk) : Prop := ∃ k, dk = some k ∧ DkS B k ∧ (k.n1 = "cells" ∧ k.n3 = "draws")
theorem Dks.mono {B C : Int} {dk : Option Dk} (h : Dks B dk) (l : B ≤ C) : Dks C dk := by
  obtain ⟨k, e, h, n⟩ := h
  exact ⟨k, e, h.mono l, n⟩
theorem draw {B m : Int} {dk : Option Dk} (h : Dks B dk) (hB : B < 1000000000) (h1 : 0 < m) (h2 : m < 18446744073709551616) : ∃ r dk', F__law_draw [.deck, .int m] dk = .ok (.int r) dk' ∧ Dks (B + 1) dk' ∧ 0 ≤ r ∧ r < m := by
  obtain ⟨k, rfl, h, n⟩ := h
  obtain ⟨r, k', h3, h4, h5, h6⟩ := draw_ok h n hB h1 h2
  exact ⟨r, some k', h3, ⟨k', rfl, h4, h5⟩, h6⟩
/-! ### the deck -/
theorem cut_ints (ns : List Int) : ∃ ms : List Int, Dl.cutD (ns.map .int) none (some 63) = ms.map .int ∧ ms.length ≤ 63 := by
  refine ⟨(ns.drop (HT.sIx (ns.map D.int).length 0 none)).take (HT.sIx (ns.map D.int).length (ns.map D.int).length (some 63) - HT.sIx (ns.map D.int).length 0 none), ?_, ?_⟩
  · unfold Dl.cutD
    rw [List.map_take, List.map_drop]
  · rw [List.length_take]
    have e : HT.sIx (ns.map D.int).length (ns.map D.int).length (some 63) = min 63 (ns.map D.int).length := HT.sIx_nat _ _ 63
    rw [e]
    omega
theorem intsOf_map : ∀ ns : List Int, intsOf (ns.map .int) = some ns
  | [] => rfl
  | n :: r => by
    show (intsOf (r.map .int)).map (n :: ·) = _
    rw [intsOf_map r] <;> rfl
theorem deck_ok (ns : List Int) : ∃ dk, F__law_deck [.scr ns] none = .ok .deck dk ∧ Dks 0 dk := by
  obtain ⟨ms, hm, hl⟩ := cut_ints ns
  have cut : ∀ (s1 s2 : Slot), scrCut (eVar 0) (oSome (eC (.int 63))) ⟨[.fz (.scr ns), s1, s2], none⟩ = .ok (.fresh (.lst (ms.map .int))) ⟨[.fz (.scr ns), s1, s2], none⟩ := fun s1 s2 => by
    rw [← hm]
    rfl
  obtain ⟨st', h1, m', s', rfl, h2, h3⟩ := forL_all (g := nmG 2) (b := setS 1 (op2 modD (bltE intW (rCons (op2 addD (op2 addD (op2 mulA (eVar 1) (eC (.int 39373))) (op2 modD (bltE intW (rCons (eVar 2) rNil)) (eC (.int 2147483549)))) (eC (.int 77))) rNil)) (eC (.int 2147483563))))
    (ds := ms.map .int) (fun _ st => ∃ m s, st = ⟨[.fz (.scr ns), .fz (.int m), s], none⟩ ∧ 0 ≤ m ∧ m < 4294967296) (by
      rintro i d st hd ⟨m, s, rfl, h1, h2⟩
      rw [List.getElem?_map] at hd
      obtain ⟨x, _, rfl⟩ := Option.map_eq_some_iff.mp hd
      have q : mulOk m 39373 = true := mulOk_small (by omega) (by omega)
      refine ⟨_, ⟨[.fz (.scr ns), .fz (.int ((m * 39373 + x % 2147483549 + 77) % 2147483563)), .fz (.int x)], none⟩, rfl, ?_, _, _, rfl, by omega, by omega⟩
      simp [q]) (st := ⟨[.fz (.scr ns), .fz (.int 10897219), .un], none⟩) ⟨_, _, rfl, by omega, by omega⟩
  refine ⟨some ⟨"cells", "draws", ms.reverse, m', 0⟩, ?_, ⟨_, rfl, ⟨h2, h3, by show (0 : Int) ≤ 0; omega, by show (0 : Int) ≤ 0; omega, by simpa using hl⟩, rfl, rfl⟩⟩
  have e1 : M__law_deck ⟨[.fz (.scr ns), .un, .un], none⟩ = .ok (.ret .deck) ⟨[.fz (.scr ns), .fz (.int m'), s'], some ⟨"cells", "draws", ms.reverse, m', 0⟩⟩ := by
    unfold M__law_deck
    simp only [s_seq, s_set, s_bind, s_c, s_setv, s_put, List.set_cons_succ, List.set_cons_zero, s_for, s_seqM, cut, s_keepf, s_it2, h1]
    simp only [s_ret, s_bind, deckE, revE, s_blt, s_rCons, cut, s_rNil, s_ok, s_ctC, s_ctN, s_cf, v_list2, s_var, s_c, List.getElem?_cons_succ, List.getElem?_cons_zero, s_cv, ← List.map_reverse, intsOf_map]
    rw [if_pos ⟨by simpa using hl, by decide, by decide, by decide⟩]
    rfl
  show (match M__law_deck ⟨[.fz (.scr ns), .un, .un], none⟩ with
    | .ok (.ret d) st => RF.ok d st.dk
    | .ok .next st => RF.ok .non st.dk
    | .exc x st => .exc x st.dk
    | _ => .stuck) = _
  rw [e1]
/-! ### pick -/
theorem pick_ok {B : Int} {dk : Option Dk} {s : D} {ds : List D} (hs : s = .tup ds ∨ s = .lst ds) (h : Dks B dk) (hB : B < 1000000000) (h0 : ds ≠ []) (h1 : ds.length < 1000000) :
    ∃ x dk', F__law_pick [.deck, s] dk = .ok x dk' ∧ Dks (B + 1) dk' ∧ x ∈ ds := by
  have hl : 0 < ds.length := List.length_pos_iff.mpr h0
  obtain ⟨r, dk', e, h2, h3, h4⟩ := draw (m := (ds.length : Int)) h hB (by omega) (by omega)
  obtain ⟨n, rfl⟩ := Int.eq_ofNat_of_zero_le h3
  have hn : n < ds.length := by omega
  refine ⟨ds[n], dk', ?_, h2, List.getElem_mem hn⟩
  have ea : atI ds (n : Int) = some ds[n] := atI_nat (List.getElem?_eq_getElem hn)
  rcases hs with rfl | rfl
  · simp [F__law_pick, M__law_pick, runF, e, ea]
  · simp [F__law_pick, M__law_pick, runF, e, ea]
end Lk12

/-! ### P4 -/
namespace Lk12
open L2 Dl PySem.Spec
open PySem hiding upTo
open PyProof.Rows hiding inR cutD
abbrev Pl := Nat × Nat
abbrev Tc := Pl × Pl
def nD (n : Nat) : D := .int (n : Int)
def plD (p : Pl) : D := .tup [nD p.1, nD p.2]
def tcD (t : Tc) : D := .tup [plD t.1, plD t.2]
def plt (p q : Pl) : Prop := p.1 < q.1 ∨ p.1 = q.1 ∧ p.2 < q.2
instance (p q : Pl) : Decidable (plt p q) := by unfold plt; infer_instance
def spotsF : Nat → List Nat → List Pl
  | _, [] => []
  | k, n :: r => (List.range n).map (fun i => (k, i)) ++ spotsF (k + 1) r
theorem spotsF_cons (k n : Nat) (r : List Nat) : spotsF k (n :: r) = (List.range n).map (fun i => (k, i)) ++ spotsF (k + 1) r := rfl
def spots (rs : List Nat) : List Pl := spotsF 0 rs
theorem spotsF_len : ∀ (k : Nat) (rs : List Nat), (spotsF k rs).length = rs.sum
  | _, [] => rfl
  | k, n :: r => by simp [spotsF, spotsF_len (k + 1) r]
theorem spots_len (rs : List Nat) : (spots rs).length = rs.sum := spotsF_len 0 rs
theorem spotsF_get : ∀ {k : Nat} {rs : List Nat} {j u i : Nat}, (spotsF k rs)[j]? = some (u, i) → k ≤ u ∧ ∃ n, rs[u - k]? = some n ∧ i < n ∧ (rs.take (u - k)).sum + i = j
  | _, [], _, _, _, h => by simp [spotsF] at h
  | k, n :: r, j, u, i, h => by
    unfold spotsF at h
    by_cases hj : j < n
    · rw [List.getElem?_append_left (by simpa using hj)] at h
      simp only [List.getElem?_map] at h
      obtain ⟨x, hx, e⟩ := Option.map_eq_some_iff.mp h
      rw [List.getElem?_eq_getElem (by simpa using hj), List.getElem_range] at hx
      cases hx
      cases e
      exact ⟨Nat.le_refl _, n, by simp, hj, by simp⟩
    · rw [List.getElem?_append_right (by simpa using hj)] at h
      simp only [List.length_map, List.length_range] at h
      obtain ⟨h1, m, h2, h3, h4⟩ := spotsF_get h
      refine ⟨by omega, m, ?_, h3, ?_⟩
      · have e : u - k = (u - (k + 1)) + 1 := by omega
        rw [e, List.getElem?_cons_succ]
        exact h2
      · have e : u - k = (u - (k + 1)) + 1 := by omega
        rw [e, List.take_succ_cons, List.sum_cons]
        omega
theorem spots_get {rs : List Nat} {j u i : Nat} (h : (spots rs)[j]? = some (u, i)) : ∃ n, rs[u]? = some n ∧ i < n ∧ (rs.take u).sum + i = j := (spotsF_get h).2
theorem spotsF_ge : ∀ {k : Nat} {rs : List Nat} {p : Pl}, p ∈ spotsF k rs → k ≤ p.1
  | k, rs, p, h => by
    obtain ⟨j, hj⟩ := List.getElem?_of_mem h
    exact (spotsF_get (u := p.1) (i := p.2) hj).1
theorem spotsF_sorted : ∀ (k : Nat) (rs : List Nat), (spotsF k rs).Pairwise plt
  | _, [] => .nil
  | k, n :: r => by
    unfold spotsF
    rw [List.pairwise_append]
    refine ⟨?_, spotsF_sorted _ r, ?_⟩
    · rw [List.pairwise_map]
      exact List.pairwise_lt_range.imp fun h => .inr ⟨rfl, h⟩
    · intro p hp q hq
      obtain ⟨x, _, rfl⟩ := List.mem_map.mp hp
      have := spotsF_ge hq
      exact .inl (by show k < q.1; omega)
theorem plt_irrefl (p : Pl) : ¬ plt p p := by unfold plt; omega
theorem plt_trans {p q r : Pl} (h1 : plt p q) (h2 : plt q r) : plt p r := by unfold plt at *; omega
theorem plt_total {p q : Pl} (h : p ≠ q) : plt p q ∨ plt q p := by
  unfold plt
  by_cases e : p.1 = q.1
  · have : p.2 ≠ q.2 := fun z => h (Prod.ext e z)
    omega
  · omega
theorem spots_sorted (rs : List Nat) : (spots rs).Pairwise plt := spotsF_sorted 0 rs
theorem spots_nodup (rs : List Nat) : (spots rs).Nodup := by
  refine List.Pairwise.imp ?_ (spots_sorted rs)
  intro a b h e
  subst e
  exact plt_irrefl _ h
/-! ### the list of spots -/
def toP (k : Nat) : D → Option D
  | .int j => some (.tup [nD k, .int j])
  | _ => none
theorem toP_up (k n : Nat) : (upTo 0 n).filterMap (toP k) = ((List.range n).map fun i => (k, i)).map plD := by
  unfold upTo
  rw [List.filterMap_map, List.map_map, ← List.filterMap_eq_map]
  congr 1
  funext x
  show some (D.tup [nD k, .int (0 + (x : Int))]) = some (.tup [nD k, .int (x : Int)])
  rw [Int.zero_add]
theorem inner (k n : Nat) (a0 a1 s : Slot) (dk : Option Dk) (hn : n ≤ 10000) (hs : notLv (some s) = true) :
    lcE [4] (ofL rng1 (aCons (eVar 3) aNil)) (nmG 4) (lcB (okE true) (lcP (bindE (aCons (eVar 2) (aCons (eVar 4) aNil)) tupOf))) ⟨[a0, a1, .fz (nD k), .fz (nD n), s], dk⟩
      = .ok (.fresh (.lst (((List.range n).map fun i => (k, i)).map plD))) ⟨[a0, a1, .fz (nD k), .fz (nD n), s], dk⟩ := by
  obtain ⟨st2, h1, s', rfl⟩ := lcL_all (vs := [4]) (g := nmG 4) (b := lcB (okE true) (lcP (bindE (aCons (eVar 2) (aCons (eVar 4) aNil)) tupOf)))
    (fun st => ∃ s, st = ⟨[a0, a1, .fz (nD k), .fz (nD n), s], dk⟩) (toP k) (ds := upTo 0 n) (by
      rintro d hd acc st ⟨s, rfl⟩ hl
      obtain ⟨i, hi, rfl⟩ := upTo_mem hd
      refine ⟨⟨[a0, a1, .fz (nD k), .fz (nD n), .fz (.int (0 + (i : Int)))], dk⟩, ⟨[a0, a1, .fz (nD k), .fz (nD n), .fz (.int (0 + (i : Int)))], dk⟩, rfl, ?_, _, rfl⟩
      exact lcP_ok (st1 := ⟨[a0, a1, .fz (nD k), .fz (nD n), .fz (.int (0 + (i : Int)))], dk⟩) (w := .val (.tup [nD k, .int (0 + (i : Int))])) tup_ok2 rfl hl) (acc := []) (st := ⟨[a0, a1, .fz (nD k), .fz (nD n), s], dk⟩) ⟨s, rfl⟩ (by rw [upTo_len]; have eb : big = 16777216 := rfl; rw [List.length_nil]; omega)
  have e : rng1 [nD n] = some (upTo 0 n) := rng_nat (by omega)
  rw [toP_up, List.nil_append] at h1
  exact lcE_ok (st1 := ⟨[a0, a1, .fz (nD k), .fz (nD n), s], dk⟩) (st2 := ⟨[a0, a1, .fz (nD k), .fz (nD n), s'], dk⟩) (ofL_ok rfl e) (noLv1 rfl hs) h1
theorem enumD_cons (k : Nat) (d : D) (r : List D) : enumD k (d :: r) = .tup [.int (k : Nat), d] :: enumD (k + 1) r := rfl
theorem spots_loop (rs : List Nat) : ∀ (k : Nat) (acc : List Pl) (a0 s2 s3 s4 : Slot) (dk : Option Dk), notLv (some s4) = true → acc.length + rs.sum ≤ 10000 →
    ∃ ρ', forL (seqG 2 (consG (nmG 2) (consG (nmG 3) nilG))) (exprS (methL extD (eVar 1) (aCons (lcE [4] (ofL rng1 (aCons (eVar 3) aNil)) (nmG 4) (lcB (okE true) (lcP (bindE (aCons (eVar 2) (aCons (eVar 4) aNil)) tupOf)))) aNil)))
      (enumD k (rs.map nD)) ⟨[a0, .lv (.lst (acc.map plD)), s2, s3, s4], dk⟩ = .ok .next ⟨[a0, .lv (.lst ((acc ++ spotsF k rs).map plD))] ++ ρ', dk⟩ := by
  induction rs with
  | nil => exact fun k acc a0 s2 s3 s4 dk h hl => ⟨[s2, s3, s4], by simp [enumD, spotsF]⟩
  | cons n r ih =>
    intro k acc a0 s2 s3 s4 dk h hl
    rw [List.sum_cons] at hl
    obtain ⟨ρ', h1⟩ := ih (k + 1) (acc ++ (List.range n).map fun i => (k, i)) a0 (.fz (nD k)) (.fz (nD n)) s4 dk h (by simp; omega)
    refine ⟨ρ', ?_⟩
    rw [List.map_cons, enumD_cons]
    have hz : (acc.map plD).length + (((List.range n).map fun i => (k, i)).map plD).length ≤ big := by
      rw [List.length_map, List.length_map, List.length_map, List.length_range]
      have eb : big = 16777216 := rfl
      omega
    have q := inner k n a0 (.lv (.lst (acc.map plD))) s4 dk (by omega) h
    rw [List.append_assoc] at h1
    have e1 : seqG 2 (consG (nmG 2) (consG (nmG 3) nilG)) (.tup [.int (k : Nat), nD n]) ⟨[a0, .lv (.lst (acc.map plD)), s2, s3, s4], dk⟩ = some ⟨[a0, .lv (.lst (acc.map plD)), .fz (nD k), .fz (nD n), s4], dk⟩ := rfl
    have e2 : exprS (methL extD (eVar 1) (aCons (lcE [4] (ofL rng1 (aCons (eVar 3) aNil)) (nmG 4) (lcB (okE true) (lcP (bindE (aCons (eVar 2) (aCons (eVar 4) aNil)) tupOf)))) aNil)) ⟨[a0, .lv (.lst (acc.map plD)), .fz (nD k), .fz (nD n), s4], dk⟩
        = .ok .next ⟨[a0, .lv (.lst ((acc ++ (List.range n).map fun i => (k, i)).map plD)), .fz (nD k), .fz (nD n), s4], dk⟩ := by
      rw [List.map_append]
      exact extend_ok (i := 1) rfl q rfl hz
    rw [for_step e1 e2, spotsF_cons]
    exact h1
theorem spots_ok {rs : List Nat} {s : D} (hs : s = .tup (rs.map nD) ∨ s = .lst (rs.map nD)) (hl : rs.sum ≤ 10000) (dk : Option Dk) : F__law_spots [s] dk = .ok (.lst ((spots rs).map plD)) dk := by
  obtain ⟨ρ', h⟩ := spots_loop rs 0 [] (.fz s) .un .un .un dk rfl (by simpa using hl)
  simp only [List.map_nil, List.nil_append] at h
  have e : enumOf [s] = some (enumD 0 (rs.map nD)) := by
    rcases hs with rfl | rfl <;> rfl
  have e1 : M__law_spots ⟨[.fz s, .un, .un, .un, .un], dk⟩ = .ok (.ret (.lst ((spots rs).map plD))) ⟨.fz s :: .fz (.lst ((spots rs).map plD)) :: ρ', dk⟩ :=
    seq_ok (set_f (lstM ac_nil (by decide))) (seq_ok (for_ok (ofL_ok (ds := [s]) rfl e) h) (ret_ok rfl rfl))
  exact run_ret (n := 5) (as := [s]) e1 rfl
end Lk12

/-! ### P5 -/
namespace Lk12
open L2 Dl PySem.Spec
open PySem hiding upTo
open PyProof.Rows hiding inR cutD
theorem upTo_nD (n : Nat) : upTo 0 n = (List.range n).map nD := by
  unfold upTo
  congr 1
  funext x
  show D.int (0 + (x : Int)) = .int (x : Int)
  rw [Int.zero_add]
theorem upTo_nGet {n i : Nat} {d : D} (h : (upTo 0 n)[i]? = some d) : i < n ∧ d = nD i := by
  obtain ⟨h1, rfl⟩ := upTo_get h
  exact ⟨h1, by show D.int (0 + (i : Int)) = .int (i : Int); rw [Int.zero_add]⟩
theorem drawN {B : Int} {m : Nat} {dk : Option Dk} (h : Dks B dk) (hB : B < 1000000000) (h1 : 0 < m) (h2 : m < 1000000000) : ∃ (r : Nat) (dk' : Option Dk), F__law_draw [.deck, .int (m : Int)] dk = .ok (nD r) dk' ∧ Dks (B + 1) dk' ∧ r < m := by
  obtain ⟨r, dk', e, h3, h4, h5⟩ := draw (m := (m : Int)) h hB (by omega) (by omega)
  obtain ⟨n, rfl⟩ := Int.eq_ofNat_of_zero_le h4
  exact ⟨n, dk', e, h3, by omega⟩
/-! ### an order -/
theorem order_ok {B : Int} {n : Nat} {dk : Option Dk} (h : Dks B dk) (hn : n ≤ 1000) (hB : B < 100000000) :
    ∃ (l : List Nat) (dk' : Option Dk), F__law_order [.deck, nD n] dk = .ok (.tup (l.map nD)) dk' ∧ Dks (B + n) dk' ∧ l.Perm (List.range n) := by
  obtain ⟨st', h1, left, found, dk', s', rfl, h2, h3, h4⟩ := forL_all (g := nmG 4) (b := exprS (methL appD (eVar 3) (aCons (methL popAtD (eVar 2) (aCons (callE F__law_draw [0, 1] [] 2 (bCons (eVar 0) (bCons (bltE lenW (rCons (eVar 2) rNil)) bNil))) aNil)) aNil)))
    (ds := upTo 0 n) (fun i st => ∃ (left found : List Nat) (dk : Option Dk) (s : Slot), st = ⟨[.fz .deck, .fz (nD n), .lv (.lst (left.map nD)), .lv (.lst (found.map nD)), s], dk⟩ ∧ Dks (B + i) dk ∧ (left ++ found).Perm (List.range n) ∧ found.length = i) (by
      rintro i d st hd ⟨left, found, dk, s, rfl, q1, q2, q3⟩
      obtain ⟨hi, rfl⟩ := upTo_nGet hd
      have hl := q2.length_eq
      rw [List.length_append, List.length_range] at hl
      obtain ⟨r, dk', e, q4, q5⟩ := drawN (m := left.length) q1 (by omega) (by omega) (by omega)
      have p1 : popAtD (left.map nD) [nD r] = some ((left.eraseIdx r).map nD, nD left[r]) := by
        rw [show nD r = .int (r : Int) from rfl, popAt_ok (by rw [List.length_map]; exact q5) (by omega), erase_map, List.getElem_map]
      refine ⟨⟨[.fz .deck, .fz (nD n), .lv (.lst (left.map nD)), .lv (.lst (found.map nD)), .fz (nD i)], dk⟩, ⟨[.fz .deck, .fz (nD n), .lv (.lst ((left.eraseIdx r).map nD)), .lv (.lst ((found ++ [left[r]]).map nD)), .fz (nD i)], dk'⟩, rfl, ?_, left.eraseIdx r, found ++ [left[r]], dk', .fz (nD i), rfl, ?_, ?_, ?_⟩
      · have c1 : callE F__law_draw [0, 1] [] 2 (bCons (eVar 0) (bCons (bltE lenW (rCons (eVar 2) rNil)) bNil)) ⟨[.fz .deck, .fz (nD n), .lv (.lst (left.map nD)), .lv (.lst (found.map nD)), .fz (nD i)], dk⟩ = .ok (.val (nD r)) ⟨[.fz .deck, .fz (nD n), .lv (.lst (left.map nD)), .lv (.lst (found.map nD)), .fz (nD i)], dk'⟩ :=
by
          refine call_ok (st1 := ⟨[.fz .deck, .fz (nD n), .lv (.lst (left.map nD)), .lv (.lst (found.map nD)), .fz (nD i)], dk⟩) (ws := [.val .deck, .val (.int ((left.map nD).length : Nat))]) (as := [.deck, .int (left.length : Int)]) (bc_v rfl (bc_v (len_ok rfl rfl) bc_nil)) rfl rfl ?_ e rfl
          rw [List.length_map]
          rfl
        rw [List.map_append]
        exact append_ok (i := 3) rfl (meth_ok (i := 2) rfl (args1 c1 rfl) rfl p1) rfl rfl (by rw [List.length_map]; exact lt_big (m := 1000) (by omega) (by decide))
      · have : B + ((i + 1 : Nat) : Int) = B + i + 1 := by omega
        rw [this]
        exact q4
      · refine List.Perm.trans ?_ q2
        rw [← List.append_assoc]
        refine List.Perm.trans (List.perm_append_comm) ?_
        rw [← List.append_assoc]
        refine List.Perm.append ?_ (List.Perm.refl _)
        exact erase_perm q5
      · rw [List.length_append, q3]; rfl) (st := ⟨[.fz .deck, .fz (nD n), .lv (.lst ((List.range n).map nD)), .lv (.lst (([] : List Nat).map nD)), .un], dk⟩) ⟨_, _, dk, _, rfl, by simpa using h, by rw [List.append_nil], rfl⟩
  rw [upTo_len] at h2 h4
  have hl := h3.length_eq
  rw [List.length_append, List.length_range, h4] at hl
  have e0 : left = [] := List.length_eq_zero_iff.mp (by omega)
  subst e0
  refine ⟨found, dk', ?_, h2, h3⟩
  have r1 : rgE false (eVar 1) ⟨[.fz .deck, .fz (nD n), .un, .un, .un], dk⟩ = .ok (.fresh (.lst (upTo 0 n))) ⟨[.fz .deck, .fz (nD n), .un, .un, .un], dk⟩ := rg_ok rfl rfl (by omega)
  have e1 : M__law_order ⟨[.fz .deck, .fz (nD n), .un, .un, .un], dk⟩ = .ok (.ret (.tup (found.map nD))) ⟨[.fz .deck, .fz (nD n), .lv (.lst (([] : List Nat).map nD)), .lv (.lst (found.map nD)), s'], dk'⟩ := by
    refine seq_ok (st1 := ⟨[.fz .deck, .fz (nD n), .lv (.lst ((List.range n).map nD)), .lv (.lst (([] : List Nat).map nD)), .un], dk⟩) (pars_ok (rc_cons r1 (rc_cons (lstM ac_nil (by decide)) rc_nil)) rfl ?_) ?_
    · rw [← upTo_nD]
      rfl
    · exact seq_ok (for_ok (ofL_ok (ds := [nD n]) rfl (rng_nat (by omega))) h1) (ret_ok (blt_ok (rc_cons rfl rc_nil) rfl rfl) rfl)
  exact run_ret (n := 5) (as := [.deck, nD n]) e1 rfl
end Lk12

/-! ### P6 -/
namespace Lk12
open L2 Dl PySem.Spec
open PySem hiding upTo
open PyProof.Rows hiding inR cutD
/-! ### places and touches as data -/
theorem cod_n : Cod nD 0 := cod_nat
theorem cod_p : Cod plD 1 := cod_n.pair cod_n
theorem cod_t : Cod tcD 2 := cod_p.pair cod_p
def tlt (t s : Tc) : Prop := plt t.1 s.1 ∨ t.1 = s.1 ∧ plt t.2 s.2
instance (p q : Tc) : Decidable (tlt p q) := by unfold tlt; infer_instance
theorem py_pl (p : Pl) : py (plD p) = .tuple [.int (p.1 : Int), .int (p.2 : Int)] := by
  unfold plD nD
  simp only [py, pyL]
theorem py_tc (t : Tc) : py (tcD t) = .tuple [py (plD t.1), py (plD t.2)] := by
  unfold tcD
  simp only [py, pyL]
theorem alike_pl (p q : Pl) : PySem.W.alike (py (plD p)) (py (plD q)) = true := by
  rw [py_pl, py_pl]
  simp [PySem.W.alike, PySem.W.alikeAll]
theorem alike_tc (p q : Tc) : PySem.W.alike (py (tcD p)) (py (tcD q)) = true := by
  rw [py_tc, py_tc]
  simp [PySem.W.alike, PySem.W.alikeAll, alike_pl]
theorem lt_pl (p q : Pl) : PySem.W.dataLt (py (plD p)) (py (plD q)) = decide (plt p q) := by
  rw [py_pl, py_pl, PySem.W.dataLt_ii]
  unfold plt
  by_cases h : p.1 < q.1 ∨ p.1 = q.1 ∧ p.2 < q.2
  · rw [decide_eq_true h, decide_eq_true (by omega)]
  · rw [decide_eq_false h, decide_eq_false (by omega)]
theorem lt_tc (t s : Tc) : PySem.W.dataLt (py (tcD t)) (py (tcD s)) = decide (tlt t s) := by
  have e : ∀ p q : Pl, PyData.eqv (py (plD p)) (py (plD q)) = decide (p = q) := fun p q => by
    rw [eqv_py 64 64 _ _ (cod_p.ok 64 p (by decide)) (cod_p.ok 64 q (by decide)), cod_p.eq]
  rw [py_tc, py_tc, ltn_pair (alike_pl _ _) (alike_pl _ _), e, e, lt_pl, lt_pl]
  unfold tlt
  by_cases h1 : t.1 = s.1
  · by_cases h2 : t.2 = s.2
    · simp [h1, h2, plt_irrefl]
    · simp [h1, h2, plt_irrefl]
  · simp [h1]
theorem le_pl (p q : Pl) : leD (plD p) (plD q) = !decide (plt q p) := by rw [leD_eq, lt_pl]
theorem le_tc (p q : Tc) : leD (tcD p) (tcD q) = !decide (tlt q p) := by rw [leD_eq, lt_tc]
theorem tlt_irrefl (t : Tc) : ¬ tlt t t := fun h => h.elim (plt_irrefl _) fun h => plt_irrefl _ h.2
theorem tlt_trans {p q r : Tc} (h1 : tlt p q) (h2 : tlt q r) : tlt p r := by
  rcases h1 with h1 | ⟨h1, h1'⟩
  · rcases h2 with h2 | ⟨h2, h2'⟩
    · exact .inl (plt_trans h1 h2)
    · exact .inl (h2 ▸ h1)
  · rcases h2 with h2 | ⟨h2, h2'⟩
    · exact .inl (h1 ▸ h2)
    · exact .inr ⟨h1.trans h2, plt_trans h1' h2'⟩
theorem tlt_total {p q : Tc} (h : p ≠ q) : tlt p q ∨ tlt q p := by
  by_cases e : p.1 = q.1
  · have : p.2 ≠ q.2 := fun z => h (Prod.ext e z)
    rcases plt_total this with h | h
    · exact .inl (.inr ⟨e, h⟩)
    · exact .inr (.inr ⟨e.symm, h⟩)
  · rcases plt_total e with h | h
    · exact .inl (.inl h)
    · exact .inr (.inl h)
def ple (p q : Pl) : Bool := !decide (plt q p)
def tle (p q : Tc) : Bool := !decide (tlt q p)
theorem ple_trans (a b c : Pl) (h1 : ple a b = true) (h2 : ple b c = true) : ple a c = true := by
  simp only [ple, Bool.not_eq_true', decide_eq_false_iff_not] at *
  unfold plt at *
  omega
theorem ple_total (a b : Pl) : (ple a b || ple b a) = true := by
  simp only [ple, Bool.or_eq_true, Bool.not_eq_true', decide_eq_false_iff_not]
  by_cases h : plt b a
  · exact .inr fun z => plt_irrefl _ (plt_trans h z)
  · exact .inl h
theorem tle_total (a b : Tc) : (tle a b || tle b a) = true := by
  simp only [tle, Bool.or_eq_true, Bool.not_eq_true', decide_eq_false_iff_not]
  by_cases h : tlt b a
  · exact .inr fun z => tlt_irrefl _ (tlt_trans h z)
  · exact .inl h
theorem tle_iff (a b : Tc) : tle a b = true ↔ a = b ∨ tlt a b := by
  simp only [tle, Bool.not_eq_true', decide_eq_false_iff_not]
  refine ⟨fun h => ?_, ?_⟩
  · by_cases e : a = b
    · exact .inl e
    · exact .inr ((tlt_total e).resolve_right h)
  · rintro (rfl | h) z
    · exact tlt_irrefl _ z
    · exact tlt_irrefl _ (tlt_trans h z)
theorem tle_trans (a b c : Tc) (h1 : tle a b = true) (h2 : tle b c = true) : tle a c = true := by
  rw [tle_iff] at *
  rcases h1 with rfl | h1
  · exact h2
  · rcases h2 with rfl | h2
    · exact .inr h1
    · exact .inr (tlt_trans h1 h2)
theorem sort_pl (l : List Pl) : sortD (l.map plD) = (l.mergeSort ple).map plD := sort_map le_pl l
theorem sort_tc (l : List Tc) : sortD (l.map tcD) = (l.mergeSort tle).map tcD := sort_map le_tc l
theorem sortOk_pl (l : List Pl) : sortOk (l.map plD) = true := by
  unfold sortOk
  rw [cod_p.allOk (by decide)]
  have h1 : alikeD (l.map plD) = true := by
    simp only [alikeD, List.all_eq_true]
    intro a ha b hb
    obtain ⟨p, _, rfl⟩ := List.mem_map.mp ha
    obtain ⟨q, _, rfl⟩ := List.mem_map.mp hb
    exact alike_pl p q
  have h2 : (l.map plD).all isTup1 = true := by
    rw [List.all_eq_true]
    intro a ha
    obtain ⟨p, _, rfl⟩ := List.mem_map.mp ha
    rfl
  rw [h1, h2]
  rfl
theorem sortOk_tc (l : List Tc) : sortOk (l.map tcD) = true := by
  unfold sortOk
  rw [cod_t.allOk (by decide)]
  have h1 : alikeD (l.map tcD) = true := by
    simp only [alikeD, List.all_eq_true]
    intro a ha b hb
    obtain ⟨p, _, rfl⟩ := List.mem_map.mp ha
    obtain ⟨q, _, rfl⟩ := List.mem_map.mp hb
    exact alike_tc p q
  have h2 : (l.map tcD).all isTup1 = true := by
    rw [List.all_eq_true]
    intro a ha
    obtain ⟨p, _, rfl⟩ := List.mem_map.mp ha
    rfl
  rw [h1, h2]
  rfl
theorem sortW_pl {s : D} {l : List Pl} (hs : itemsS s = some (l.map plD)) : sortW [s] = some (.fresh (.lst ((l.mergeSort ple).map plD))) := by
  unfold sortW
  simp only [hs, if_pos (sortOk_pl l), sort_pl]
theorem sortW_tc {s : D} {l : List Tc} (hs : itemsS s = some (l.map tcD)) : sortW [s] = some (.fresh (.lst ((l.mergeSort tle).map tcD))) := by
  unfold sortW
  simp only [hs, if_pos (sortOk_tc l), sort_tc]
/-- two distinct places, sorted -/
theorem sort2 {p q : Pl} (h : p ≠ q) : ∃ a b, [p, q].mergeSort ple = [a, b] ∧ plt a b ∧ [a, b].Perm [p, q] := by
  have hp := List.mergeSort_perm [p, q] ple
  have hs := List.pairwise_mergeSort (le := ple) ple_trans ple_total [p, q]
  have hl := hp.length_eq
  generalize [p, q].mergeSort ple = l at hp hs hl
  match l, hl with
  | [a, b], _ =>
    refine ⟨a, b, rfl, ?_, hp⟩
    have h1 : ple a b = true := by simpa using hs
    have h2 : a ≠ b := by
      have hn : [p, q].Nodup := by simpa using h
      have := hp.nodup_iff.mpr hn
      simpa using this
    have h3 : ¬ plt b a := by simpa [ple] using h1
    exact (plt_total h2).resolve_right h3
/-- sorting what is sorted -/
theorem sort_same {l : List Tc} (h : l.Pairwise tlt) : l.mergeSort tle = l :=
  List.mergeSort_of_pairwise (h.imp fun {a b} z => (tle_iff a b).mpr (.inr z))
theorem sort_strict {l : List Tc} (h : l.Nodup) : (l.mergeSort tle).Pairwise tlt := by
  have hp := List.mergeSort_perm l tle
  have hs := List.pairwise_mergeSort (le := tle) tle_trans tle_total l
  have hn := hp.nodup_iff.mpr h
  exact (hs.and hn).imp fun {a b} z => ((tle_iff a b).mp z.1).resolve_left z.2
end Lk12

/-! ### P7 -/
namespace Lk12
open L2 Dl PySem.Spec
open PySem hiding upTo
open PyProof.Rows hiding inR cutD
/-! ### rings, floors -/
theorem noMut_ns (l : List Nat) : noMutL (l.map nD) = true := by
  induction l with
  | nil => rfl
  | cons n r ih =>
    rw [List.map_cons]
    show (noMut (nD n) && noMutL (r.map nD)) = true
    rw [ih]
    rfl
theorem noMut_ps (l : List Pl) : noMutL (l.map plD) = true := by
  induction l with
  | nil => rfl
  | cons n r ih =>
    rw [List.map_cons]
    show (noMut (plD n) && noMutL (r.map plD)) = true
    rw [ih]
    rfl
theorem noMut_ts (l : List Tc) : noMutL (l.map tcD) = true := by
  induction l with
  | nil => rfl
  | cons n r ih =>
    rw [List.map_cons]
    show (noMut (tcD n) && noMutL (r.map tcD)) = true
    rw [ih]
    rfl
def endsT (ts : List Tc) : List Pl := ts.flatMap fun t => [t.1, t.2]
structure FlOk (rs : List Nat) (ts : List Tc) : Prop where
  ne : rs ≠ []
  pos : ∀ n ∈ rs, 1 ≤ n
  sum : rs.sum ≤ 40
  tin : ∀ p ∈ endsT ts, p ∈ spots rs
  lt : ∀ t ∈ ts, plt t.1 t.2
  nd : (endsT ts).Nodup
  srt : ts.Pairwise tlt
  len : ts.length ≤ 20
def ringsD (rs : List Nat) : D := .tup (rs.map nD)
def touchD (ts : List Tc) : D := .tup (ts.map tcD)
def floorD (rs : List Nat) (ts : List Tc) : D := .tup [ringsD rs, touchD ts]
theorem noMut_floor (rs : List Nat) (ts : List Tc) : noMut (floorD rs ts) = true := by
  show (noMutL (rs.map nD) && (noMutL (ts.map tcD) && true)) = true
  rw [noMut_ns, noMut_ts]
  rfl
theorem len_le_sum : ∀ {rs : List Nat}, (∀ n ∈ rs, 1 ≤ n) → rs.length ≤ rs.sum
  | [], _ => Nat.le_refl _
  | n :: r, h => by
    have h1 := h n List.mem_cons_self
    have h2 := len_le_sum (rs := r) fun m hm => h m (List.mem_cons_of_mem _ hm)
    rw [List.length_cons, List.sum_cons]
    omega
/-! ### pairs of an order -/
def ordP (sp : List Pl) (l : List Nat) : List Pl := l.map fun i => sp.getD i (0, 0)
theorem ordP_perm {sp : List Pl} {l : List Nat} (h : l.Perm (List.range sp.length)) : (ordP sp l).Perm sp := by
  have h1 := h.map fun i => sp.getD i (0, 0)
  have e : (List.range sp.length).map (fun i => sp.getD i (0, 0)) = sp := by
    apply List.ext_getElem
    · simp
    · intro i h1 h2
      simp [h2]
  rw [e] at h1
  exact h1
theorem ordP_get {sp : List Pl} {l : List Nat} (h : l.Perm (List.range sp.length)) {j : Nat} {p : Pl} (hj : (ordP sp l)[j]? = some p) : ∃ i : Nat, l[j]? = some i ∧ sp[i]? = some p := by
  unfold ordP at hj
  rw [List.getElem?_map] at hj
  obtain ⟨i, hi, rfl⟩ := Option.map_eq_some_iff.mp hj
  refine ⟨i, hi, ?_⟩
  have : i ∈ List.range sp.length := h.mem_iff.mp (List.mem_of_getElem? hi)
  have hl := List.mem_range.mp this
  rw [List.getD_eq_getElem?_getD, List.getElem?_eq_getElem hl]
  rfl
theorem pair_ok {st : Stt} {a b c : Nat} {sp : List Pl} {l : List Nat} {k : Nat} {p q : Pl} (h : l.Perm (List.range sp.length)) (hs : st.ρ[a]? = some (.fz (.lst (sp.map plD)))) (hl : st.ρ[b]? = some (.fz (.tup (l.map nD)))) (hk : st.ρ[c]? = some (.fz (nD k))) (hk1 : k ≤ 1000)
    (hp : (ordP sp l)[2 * k]? = some p) (hq : (ordP sp l)[2 * k + 1]? = some q) (hne : p ≠ q) :
    ∃ x y : Pl, bltE sortW (rCons (bindE (aCons (op2 getW (eVar a) (op2 getW (eVar b) (op2 mulA (eC (.int 2)) (eVar c)))) (aCons (op2 getW (eVar a) (op2 getW (eVar b) (op2 addD (op2 mulA (eC (.int 2)) (eVar c)) (eC (.int 1))))) aNil)) lstOf) rNil) st = .ok (.fresh (.lst [plD x, plD y])) st ∧ plt x y ∧ [x, y].Perm [p, q] := by
  obtain ⟨x, y, e, h1, h2⟩ := sort2 hne
  refine ⟨x, y, ?_, h1, h2⟩
  obtain ⟨i, hi, hi'⟩ := ordP_get h hp
  obtain ⟨j, hj, hj'⟩ := ordP_get h hq
  have m1 : mulA (.int 2) (nD k) = some (.val (.int ((2 * k : Nat) : Int))) := by
    show mulA (.int 2) (.int (k : Int)) = _
    rw [Dl.v_mul, if_pos (mulOk_small (by decide) (by omega))]
    rfl
  have m2 : op2 mulA (eC (.int 2)) (eVar c) st = .ok (.val (.int ((2 * k : Nat) : Int))) st := op2_ok rfl (var_fz hk) rfl rfl m1
  have m3 : op2 addD (op2 mulA (eC (.int 2)) (eVar c)) (eC (.int 1)) st = .ok (.val (.int ((2 * k + 1 : Nat) : Int))) st := op2_ok m2 rfl rfl rfl rfl
  have g : ∀ {m : Ev W} {j i : Nat} {p : Pl}, m st = .ok (.val (.int (j : Int))) st → l[j]? = some i → sp[i]? = some p → op2 getW (eVar a) (op2 getW (eVar b) m) st = .ok (.val (plD p)) st := fun {m j i p} hm hj hi => by
    refine op2_ok (var_fz hs) (op2_ok (var_fz hl) hm rfl rfl (get_tup (x := nD i) ?_)) rfl rfl (get_lst ?_)
    · rw [List.getElem?_map, hj]
      rfl
    · rw [List.getElem?_map, hi]
      rfl
  have s1 : sortW [.lst [plD p, plD q]] = some (.fresh (.lst [plD x, plD y])) := by
    rw [sortW_pl (l := [p, q]) rfl, e]
    rfl
  exact blt_ok (ds := [.lst [plD p, plD q]]) (rc_cons (lstM (ac_cons (g m2 hi hi') rfl (ac_cons (g m3 hj hj') rfl ac_nil)) (by show 2 ≤ big; decide)) rc_nil) rfl s1
/-- the pairs so far -/
structure Prs (L : List Pl) (k : Nat) (acc : List Tc) : Prop where
  p : (endsT acc).Perm (L.take (2 * k))
  lt : ∀ t ∈ acc, plt t.1 t.2
  len : acc.length = k
theorem Prs.zero (L : List Pl) : Prs L 0 [] := ⟨.refl _, fun _ h => (by cases h), rfl⟩
theorem Prs.next {L : List Pl} {k : Nat} {acc : List Tc} {p q x y : Pl} (h : Prs L k acc) (hp : L[2 * k]? = some p) (hq : L[2 * k + 1]? = some q) (hxy : plt x y) (hp2 : [x, y].Perm [p, q]) : Prs L (k + 1) (acc ++ [(x, y)]) where
  p := by
    have e : L.take (2 * (k + 1)) = L.take (2 * k) ++ [p, q] := by
      rw [show 2 * (k + 1) = 2 * k + 1 + 1 from by omega, List.take_succ, List.take_succ, hp, hq, List.append_assoc]
      rfl
    have e2 : endsT (acc ++ [(x, y)]) = endsT acc ++ [x, y] := by simp [endsT]
    rw [e, e2]
    exact h.p.append hp2
  lt t ht := by
    rcases List.mem_append.mp ht with ht | ht
    · exact h.lt t ht
    · rw [List.mem_singleton.mp ht]
      exact hxy
  len := by rw [List.length_append, h.len]; rfl
theorem ends_cons (t : Tc) (ts : List Tc) : endsT (t :: ts) = t.1 :: t.2 :: endsT ts := rfl
theorem ends_nodup : ∀ {ts : List Tc}, (endsT ts).Nodup → ts.Nodup
  | [], _ => .nil
  | t :: ts, h => by
    rw [ends_cons, List.nodup_cons, List.nodup_cons] at h
    obtain ⟨h1, h2, h3⟩ := h
    rw [List.nodup_cons]
    refine ⟨fun z => h1 (List.mem_cons_of_mem _ ?_), ends_nodup h3⟩
    exact List.mem_flatMap.mpr ⟨t, z, List.mem_cons_self⟩
theorem FlOk.of {rs : List Nat} {l : List Nat} {k : Nat} {acc : List Tc} (ne : rs ≠ []) (pos : ∀ n ∈ rs, 1 ≤ n) (sum : rs.sum ≤ 40) (hl : l.Perm (List.range (spots rs).length)) (h : Prs (ordP (spots rs) l) k acc) (hk : k ≤ 20) : FlOk rs (acc.mergeSort tle) := by
  have hp := List.mergeSort_perm acc tle
  have he : (endsT (acc.mergeSort tle)).Perm ((ordP (spots rs) l).take (2 * k)) := (hp.flatMap_right _).trans h.p
  have hn : (endsT (acc.mergeSort tle)).Nodup := he.nodup_iff.mpr (((ordP_perm hl).nodup_iff.mpr (spots_nodup rs)).sublist (List.take_sublist _ _))
  have hn2 : acc.Nodup := hp.nodup_iff.mp (ends_nodup hn)
  refine ⟨ne, pos, sum, fun p hp' => ?_, fun t ht => h.lt t (hp.mem_iff.mp ht), hn, sort_strict hn2, ?_⟩
  · exact (ordP_perm hl).mem_iff.mp (List.mem_of_mem_take (he.mem_iff.mp hp'))
  · rw [hp.length_eq, h.len]
    exact hk
end Lk12

/-! ### P8 -/
namespace Lk12
open L2 Dl PySem.Spec
open PySem hiding upTo
open PyProof.Rows hiding inR cutD
theorem pickN {B : Int} {dk : Option Dk} (ns : List Nat) (h : Dks B dk) (hB : B < 1000000000) (h0 : ns ≠ []) (h1 : ns.length < 1000000) :
    ∃ n dk', F__law_pick [.deck, .tup (ns.map nD)] dk = .ok (nD n) dk' ∧ Dks (B + 1) dk' ∧ n ∈ ns := by
  obtain ⟨x, dk', e, h2, h3⟩ := pick_ok (s := .tup (ns.map nD)) (.inl rfl) h hB (by simpa using h0) (by simpa using h1)
  obtain ⟨n, hn, rfl⟩ := List.mem_map.mp h3
  exact ⟨n, dk', e, h2, hn⟩
theorem le_nat (a b : Nat) : leW (nD a) (nD b) = some (.val (.bl (decide (a ≤ b)))) := by
  show some (W.val (.bl (decide ((a : Int) ≤ (b : Int))))) = _
  by_cases h : a ≤ b
  · rw [decide_eq_true h, decide_eq_true (by omega)]
  · rw [decide_eq_false h, decide_eq_false (by omega)]
theorem sub_nat {a b : Nat} (h : b ≤ a) : subD (nD a) (nD b) = some (.val (nD (a - b))) := by
  show some (W.val (.int ((a : Int) - (b : Int)))) = some (.val (.int ((a - b : Nat) : Int)))
  rw [Int.natCast_sub h]
/-! the end of a turn: one more ring, if there is room -/
theorem ring_in {i li ri : Nat} {st : Stt} {len left : Nat} {rs : List Nat} (h1 : st.ρ[i]? = some (.fz (nD len))) (h2 : st.ρ[li]? = some (.fz (nD left))) (h3 : st.ρ[ri]? = some (.lv (.lst (rs.map nD)))) (hne : li ≠ ri ∧ i ≠ ri) (hlen : rs.length ≤ 1000) :
    ifS (eTst truthB (op2 leW (eVar i) (eVar li))) (seqS (exprS (methL appD (eVar ri) (aCons (eVar i) aNil))) (setS li (op2 subD (eVar li) (eVar i)))) (okE .next) st
      = .ok .next (if len ≤ left then (st.put ri (.lv (.lst ((rs ++ [len]).map nD)))).put li (.fz (nD (left - len))) else st) := by
  have c1 : eTst truthB (op2 leW (eVar i) (eVar li)) st = .ok (decide (len ≤ left)) st :=
    tst_ok (op2_ok (var_fz h1) (var_fz h2) rfl rfl (le_nat len left)) rfl rfl
  by_cases h : len ≤ left
  · rw [decide_eq_true h] at c1
    rw [if_pos h]
    have a1 := append_ok (st := st) (i := ri) (e := eVar i) h3 (var_fz h1) rfl h3 (by rw [List.length_map]; exact lt_big (m := 1000) (by omega) (by decide))
    have e1 : (st.put ri (.lv (.lst (rs.map nD ++ [nD len])))).ρ[li]? = some (.fz (nD left)) := by
      show (st.ρ.set ri _)[li]? = _
      rw [List.getElem?_set_ne (fun z => hne.1 z.symm)]
      exact h2
    have e2 : (st.put ri (.lv (.lst (rs.map nD ++ [nD len])))).ρ[i]? = some (.fz (nD len)) := by
      show (st.ρ.set ri _)[i]? = _
      rw [List.getElem?_set_ne (fun z => hne.2 z.symm)]
      exact h1
    refine if_t c1 (seq_ok a1 ?_)
    rw [List.map_append]
    exact set_v (op2_ok (var_fz e1) (var_fz e2) rfl rfl (sub_nat h))
  · rw [decide_eq_false h] at c1
    rw [if_neg h]
    exact ifN_f c1
theorem sum_snoc (rs : List Nat) (n : Nat) : (rs ++ [n]).sum = rs.sum + n := by simp
structure Rgs (m left : Nat) (rs : List Nat) : Prop where
  pos : ∀ n ∈ rs, 1 ≤ n
  sum : rs.sum + left = m
theorem Rgs.snoc {m left : Nat} {rs : List Nat} (h : Rgs m left rs) {n : Nat} (h1 : 1 ≤ n) (h2 : n ≤ left) : Rgs m (left - n) (rs ++ [n]) where
  pos k hk := by
    rcases List.mem_append.mp hk with hk | hk
    · exact h.pos k hk
    · rw [List.mem_singleton.mp hk]
      exact h1
  sum := by
    have := h.sum
    rw [sum_snoc]
    omega
theorem Rgs.len {m left : Nat} {rs : List Nat} (h : Rgs m left rs) : rs.length ≤ m := Nat.le_trans (len_le_sum h.pos) (by have := h.sum; omega)
theorem ne_nil (rs : List Nat) : neW (.lst (rs.map nD)) (.lst []) = some (.val (.bl (!decide (rs = [])))) := cod_n.lst.neW (by decide) rs []
theorem eq_nil (rs : List Nat) : eqW (.lst (rs.map nD)) (.lst []) = some (.val (.bl (decide (rs = [])))) := cod_n.lst.eqW (by decide) rs []
theorem rings_ok {M : Nat} {B : Int} {dk : Option Dk} (hM : 1 ≤ M ∧ M ≤ 40) (h : Dks B dk) (hB : B < 1000000) :
    ∃ (rs : List Nat) (dk' : Option Dk), F__law_rings [.deck, nD M] dk = .ok (ringsD rs) dk' ∧ Dks (B + 10) dk' ∧ rs ≠ [] ∧ (∀ n ∈ rs, 1 ≤ n) ∧ rs.sum ≤ M := by
  obtain ⟨n, dk1, e1, q1, hn⟩ := pickN [2, 3, 2, 1, 3, 4, 2, 5] h (by omega) (by simp) (by decide)
  have hn5 : n ≤ 5 := by
    simp only [List.mem_cons, List.not_mem_nil, or_false] at hn
    omega
  obtain ⟨st', h1, rs, left, dk2, s4, s5, rfl, h2, h3⟩ := forL_all (g := nmG 4) (b := (seqS (setS 5 (callE F__law_pick [0, 1] [] 2 (bCons (eVar 0) (bCons (bindE (aCons (eC (.int 2)) (aCons (eC (.int 3)) (aCons (eC (.int 4)) (aCons (eC (.int 1)) (aCons (eC (.int 3)) (aCons (eC (.int 5)) (aCons (eC (.int 2)) (aCons (eC (.int 6)) aNil)))))))) tupOf) bNil))))
    (ifS (eTst truthB (op2 leW (eVar 5) (eVar 3)))
    (seqS (exprS (methL appD (eVar 2) (aCons (eVar 5) aNil)))
    (setS 3 (op2 subD (eVar 3) (eVar 5))))
    (okE .next))))
    (ds := upTo 0 n) (fun i st => ∃ (rs : List Nat) (left : Nat) (dk : Option Dk) (s4 s5 : Slot), st = ⟨[.fz .deck, .fz (nD M), .lv (.lst (rs.map nD)), .fz (nD left), s4, s5], dk⟩ ∧ Dks (B + 1 + i) dk ∧ Rgs M left rs) (by
      rintro i d st hd ⟨rs, left, dk, s4, s5, rfl, q2, q3⟩
      obtain ⟨hi, rfl⟩ := upTo_nGet hd
      obtain ⟨len, dk', e2, q4, hlen⟩ := pickN [2, 3, 4, 1, 3, 5, 2, 6] q2 (by omega) (by simp) (by decide)
      have hl1 : 1 ≤ len := by
        simp only [List.mem_cons, List.not_mem_nil, or_false] at hlen
        omega
      have c1 : callE F__law_pick [0, 1] [] 2 (bCons (eVar 0) (bCons (bindE (aCons (eC (.int 2)) (aCons (eC (.int 3)) (aCons (eC (.int 4)) (aCons (eC (.int 1)) (aCons (eC (.int 3)) (aCons (eC (.int 5)) (aCons (eC (.int 2)) (aCons (eC (.int 6)) aNil)))))))) tupOf) bNil)) ⟨[.fz .deck, .fz (nD M), .lv (.lst (rs.map nD)), .fz (nD left), .fz (nD i), s5], dk⟩
          = .ok (.val (nD len)) ⟨[.fz .deck, .fz (nD M), .lv (.lst (rs.map nD)), .fz (nD left), .fz (nD i), s5], dk'⟩ :=
        call_ok (st1 := ⟨[.fz .deck, .fz (nD M), .lv (.lst (rs.map nD)), .fz (nD left), .fz (nD i), s5], dk⟩) (bc_v rfl (bc_v (tupM rfl (by show 8 ≤ big; decide)) bc_nil)) rfl rfl rfl e2 rfl
      have r1 := ring_in (i := 5) (li := 3) (ri := 2) (st := ⟨[.fz .deck, .fz (nD M), .lv (.lst (rs.map nD)), .fz (nD left), .fz (nD i), .fz (nD len)], dk'⟩) (len := len) (left := left) (rs := rs) rfl rfl rfl (by decide) (Nat.le_trans q3.len (by omega))
      have q5 : Dks (B + 1 + ((i + 1 : Nat) : Int)) dk' := by
        have : B + 1 + ((i + 1 : Nat) : Int) = B + 1 + i + 1 := by omega
        rw [this]
        exact q4
      refine ⟨⟨[.fz .deck, .fz (nD M), .lv (.lst (rs.map nD)), .fz (nD left), .fz (nD i), s5], dk⟩, _, rfl, seq_ok (set_v c1) r1, ?_⟩
      by_cases hle : len ≤ left
      · rw [if_pos hle]
        exact ⟨rs ++ [len], left - len, dk', .fz (nD i), .fz (nD len), rfl, q5, q3.snoc hl1 hle⟩
      · rw [if_neg hle]
        exact ⟨rs, left, dk', .fz (nD i), .fz (nD len), rfl, q5, q3⟩)
    (st := ⟨[.fz .deck, .fz (nD M), .lv (.lst (([] : List Nat).map nD)), .fz (nD M), .un, .un], dk1⟩) ⟨[], M, dk1, .un, .un, rfl, by simpa using q1, ⟨fun _ h => (by cases h), by simp⟩⟩
  rw [upTo_len] at h2
  have c0 : callE F__law_pick [0, 1] [] 2 (bCons (eVar 0) (bCons (bindE (aCons (eC (.int 2)) (aCons (eC (.int 3)) (aCons (eC (.int 2)) (aCons (eC (.int 1)) (aCons (eC (.int 3)) (aCons (eC (.int 4)) (aCons (eC (.int 2)) (aCons (eC (.int 5)) aNil)))))))) tupOf) bNil)) ⟨[.fz .deck, .fz (nD M), .lv (.lst (([] : List Nat).map nD)), .fz (nD M), .un, .un], dk⟩
      = .ok (.val (nD n)) ⟨[.fz .deck, .fz (nD M), .lv (.lst (([] : List Nat).map nD)), .fz (nD M), .un, .un], dk1⟩ :=
    call_ok (st1 := ⟨[.fz .deck, .fz (nD M), .lv (.lst (([] : List Nat).map nD)), .fz (nD M), .un, .un], dk⟩) (bc_v rfl (bc_v (tupM rfl (by show 8 ≤ big; decide)) bc_nil)) rfl rfl rfl e1 rfl
  have t1 : eTst truthB (op2 neW (eVar 2) (bindE aNil lstOf)) ⟨[.fz .deck, .fz (nD M), .lv (.lst (rs.map nD)), .fz (nD left), s4, s5], dk2⟩ = .ok (!decide (rs = [])) ⟨[.fz .deck, .fz (nD M), .lv (.lst (rs.map nD)), .fz (nD left), s4, s5], dk2⟩ :=
    tst_ok (op2_ok rfl (lstM ac_nil (by decide)) rfl rfl (ne_nil rs)) rfl rfl
  have start : parS [2, 3] (rCons (bindE aNil lstOf) (rCons (eVar 1) rNil)) ⟨[.fz .deck, .fz (nD M), .un, .un, .un, .un], dk⟩ = .ok .next ⟨[.fz .deck, .fz (nD M), .lv (.lst (([] : List Nat).map nD)), .fz (nD M), .un, .un], dk⟩ :=
    pars_ok (rc_cons (lstM ac_nil (by decide)) (rc_cons rfl rc_nil)) rfl rfl
  have run : ∀ {d : D}, retS (ifE (eTst truthB (op2 neW (eVar 2) (bindE aNil lstOf))) (bltE tupW (rCons (eVar 2) rNil)) (bindE (aCons (eC (.int 1)) aNil) tupOf)) ⟨[.fz .deck, .fz (nD M), .lv (.lst (rs.map nD)), .fz (nD left), s4, s5], dk2⟩ = .ok (.ret d) ⟨[.fz .deck, .fz (nD M), .lv (.lst (rs.map nD)), .fz (nD left), s4, s5], dk2⟩ →
      F__law_rings [.deck, nD M] dk = .ok d dk2 := fun {d} hr =>
    run_ret (n := 6) (as := [.deck, nD M]) (b := M__law_rings) (seq_ok start (seq_ok (for_ok (ofL_ok (ac_cons c0 rfl ac_nil) (rng_nat (by omega))) h1) hr)) rfl
  by_cases hr : rs = []
  · subst hr
    rw [decide_eq_true rfl] at t1
    refine ⟨[1], dk2, run (ret_ok (w := .val (.tup [.int 1])) ?_ rfl), h2.mono (by omega), by simp, by simp, by simpa using hM.1⟩
    rw [s_ifE, s_bind, t1]
    exact tupM rfl (by show 1 ≤ big; decide)
  · rw [decide_eq_false hr] at t1
    refine ⟨rs, dk2, run (ret_ok (w := .val (.tup (rs.map nD))) ?_ rfl), h2.mono (by omega), hr, h3.pos, by have := h3.sum; omega⟩
    rw [s_ifE, s_bind, t1]
    exact blt_ok (rc_cons rfl rc_nil) rfl rfl
end Lk12

/-! ### P9 -/
namespace Lk12
open L2 Dl PySem.Spec
open PySem hiding upTo
open PyProof.Rows hiding inR cutD
theorem ord_two {L : List Pl} (hn : L.Nodup) {k : Nat} (hk : 2 * k + 1 < L.length) : ∃ p q, L[2 * k]? = some p ∧ L[2 * k + 1]? = some q ∧ p ≠ q :=
  ⟨_, _, List.getElem?_eq_getElem (by omega), List.getElem?_eq_getElem hk, (List.pairwise_iff_getElem.mp hn) (2 * k) (2 * k + 1) (by omega) hk (by omega)⟩
def half (n : Nat) : Nat := min 20 (n / 2)
theorem min_nat (n : Nat) : min2W [.int 20, .int ((n : Int) / 2)] = some (.val (nD (half n))) := by
  show some (W.val (.int (if (n : Int) / 2 < 20 then (n : Int) / 2 else 20))) = some (.val (.int ((half n : Nat) : Int)))
  have e : (if (n : Int) / 2 < 20 then (n : Int) / 2 else 20) = ((half n : Nat) : Int) := by
    unfold half
    split <;> omega
  rw [e]
theorem half_ok {st : Stt} {i : Nat} {sp : List Pl} (h : st.ρ[i]? = some (.fz (.lst (sp.map plD)))) :
    bltE min2W (rCons (eC (.int 20)) (rCons (op2 fdivD (bltE lenW (rCons (eVar i) rNil)) (eC (.int 2))) rNil)) st = .ok (.val (nD (half sp.length))) st := by
  have e1 := len_ok (e := eVar i) (st := st) (var_fz h) rfl
  rw [List.length_map] at e1
  exact blt_ok (ds := [.int 20, .int ((sp.length : Int) / 2)]) (rc_cons rfl (rc_cons (op2_ok e1 rfl rfl rfl rfl) rc_nil)) rfl (min_nat _)
theorem add_one (n : Nat) : addD (nD n) (.int 1) = some (.val (nD (n + 1))) := rfl
theorem one_add (n : Nat) : addD (.int 1) (nD n) = some (.val (nD (n + 1))) := by
  show some (W.val (.int (1 + (n : Int)))) = some (.val (.int ((n + 1 : Nat) : Int)))
  rw [Int.add_comm]
  rfl
/-- a call of draw from the def's deck, the deck as its first name -/
theorem draw_c {st : Stt} {m : Ev W} {n : Nat} {B : Int} (h0 : st.ρ[0]? = some (.fz .deck)) (hm : m st = .ok (.val (nD n)) st) (h : Dks B st.dk) (hB : B < 1000000000) (h1 : 0 < n) (h2 : n < 1000000000) :
    ∃ (r : Nat) (dk' : Option Dk), callE F__law_draw [0, 1] [] 2 (bCons (eVar 0) (bCons m bNil)) st = .ok (.val (nD r)) (st.deck dk') ∧ Dks (B + 1) dk' ∧ r < n := by
  obtain ⟨r, dk', e, q1, q2⟩ := drawN h hB h1 h2
  exact ⟨r, dk', call_ok (bc_v (var_fz h0) (bc_v hm bc_nil)) rfl rfl rfl e rfl, q1, q2⟩
theorem touch_turn {st : Stt} {a b c : Nat} {sp : List Pl} {l : List Nat} {m k : Nat} {acc : List Tc} (hsp : sp.Nodup) (h : l.Perm (List.range sp.length)) (hs : st.ρ[a]? = some (.fz (.lst (sp.map plD)))) (hl : st.ρ[b]? = some (.fz (.tup (l.map nD)))) (hk : st.ρ[c]? = some (.fz (nD k))) (hkm : k < m) (hm : m ≤ half sp.length) (hp : Prs (ordP sp l) k acc) :
    ∃ x y : Pl, bltE sortW (rCons (bindE (aCons (op2 getW (eVar a) (op2 getW (eVar b) (op2 mulA (eC (.int 2)) (eVar c)))) (aCons (op2 getW (eVar a) (op2 getW (eVar b) (op2 addD (op2 mulA (eC (.int 2)) (eVar c)) (eC (.int 1))))) aNil)) lstOf) rNil) st = .ok (.fresh (.lst [plD x, plD y])) st ∧ Prs (ordP sp l) (k + 1) (acc ++ [(x, y)]) := by
  have hh : half sp.length ≤ 20 ∧ 2 * half sp.length ≤ sp.length := by
    unfold half
    omega
  have hL : (ordP sp l).length = sp.length := (ordP_perm h).length_eq
  obtain ⟨p, q, h1, h2, h3⟩ := ord_two ((ordP_perm h).nodup_iff.mpr hsp) (k := k) (by omega)
  obtain ⟨x, y, e, h4, h5⟩ := pair_ok h hs hl hk (by omega) h1 h2 h3
  exact ⟨x, y, e, hp.next h1 h2 h4 h5⟩
/-! ### a floor of up to twelve places -/
theorem floor_ok {M : Nat} {B : Int} {dk : Option Dk} (hM : 1 ≤ M ∧ M ≤ 40) (h : Dks B dk) (hB : B < 100000) :
    ∃ (rs : List Nat) (ts : List Tc) (dk' : Option Dk), F__law_floor [.deck, nD M] dk = .ok (floorD rs ts) dk' ∧ Dks (B + 100) dk' ∧ FlOk rs ts := by
  obtain ⟨rs, dk1, e1, q1, hne, hpos, hsum⟩ := rings_ok hM h (by omega)
  have hsl := spots_len rs
  obtain ⟨l, dk2, e2, q2, hl⟩ := order_ok (n := (spots rs).length) q1 (by omega) (by omega)
  obtain ⟨w, dk3, e3, q3, hw⟩ := drawN (m := 5) q2 (by omega) (by decide) (by decide)
  have e4 := spots_ok (rs := rs) (s := ringsD rs) (.inl rfl) (by omega) dk1
  -- ahead of the loop
  have s1 : parS [2, 3] (rCons (callE F__law_rings [0, 1] [] 2 (bCons (eVar 0) (bCons (eVar 1) bNil))) (rCons (bindE aNil lstOf) rNil)) ⟨[.fz .deck, .fz (nD M), .un, .un, .un, .un, .un, .un, .un, .un], dk⟩
      = .ok .next ⟨[.fz .deck, .fz (nD M), .fz (ringsD rs), .lv (.lst []), .un, .un, .un, .un, .un, .un], dk1⟩ :=
    pars_ok (rc_cons (call_ok (st1 := ⟨[.fz .deck, .fz (nD M), .un, .un, .un, .un, .un, .un, .un, .un], dk⟩) (bc_v rfl (bc_v rfl bc_nil)) rfl rfl rfl e1 (noMut_ns rs)) (rc_cons (lstM ac_nil (by decide)) rc_nil)) rfl rfl
  have s2 : setS 4 (callE F__law_spots [0] [] 1 (bCons (eVar 2) bNil)) ⟨[.fz .deck, .fz (nD M), .fz (ringsD rs), .lv (.lst []), .un, .un, .un, .un, .un, .un], dk1⟩
      = .ok .next ⟨[.fz .deck, .fz (nD M), .fz (ringsD rs), .lv (.lst []), .fz (.lst ((spots rs).map plD)), .un, .un, .un, .un, .un], dk1⟩ :=
    set_v (call_mut (st1 := ⟨[.fz .deck, .fz (nD M), .fz (ringsD rs), .lv (.lst []), .un, .un, .un, .un, .un, .un], dk1⟩) (bc_v rfl bc_nil) rfl rfl rfl e4 (by simp))
  have s3 : parS [5, 6] (rCons (callE F__law_order [0, 1] [] 2 (bCons (eVar 0) (bCons (bltE lenW (rCons (eVar 4) rNil)) bNil))) (rCons (callE F__law_draw [0, 1] [] 2 (bCons (eVar 0) (bCons (eC (.int 5)) bNil))) rNil)) ⟨[.fz .deck, .fz (nD M), .fz (ringsD rs), .lv (.lst []), .fz (.lst ((spots rs).map plD)), .un, .un, .un, .un, .un], dk1⟩
      = .ok .next ⟨[.fz .deck, .fz (nD M), .fz (ringsD rs), .lv (.lst (([] : List Tc).map tcD)), .fz (.lst ((spots rs).map plD)), .fz (.tup (l.map nD)), .fz (nD w), .un, .un, .un], dk3⟩ := by
    refine pars_ok (rc_cons (call_ok (st1 := ⟨[.fz .deck, .fz (nD M), .fz (ringsD rs), .lv (.lst []), .fz (.lst ((spots rs).map plD)), .un, .un, .un, .un, .un], dk1⟩) (bc_v rfl (bc_v (len_ok rfl rfl) bc_nil)) rfl rfl rfl ?_ (show noMut (.tup (l.map nD)) = true from noMut_ns l))
      (rc_cons (call_ok (st1 := ⟨[.fz .deck, .fz (nD M), .fz (ringsD rs), .lv (.lst []), .fz (.lst ((spots rs).map plD)), .un, .un, .un, .un, .un], dk2⟩) (bc_v rfl (bc_v rfl bc_nil)) rfl rfl rfl e3 rfl) rc_nil)) rfl rfl
    rw [List.length_map]
    exact e2
  -- how many
  obtain ⟨m, dk4, s4, q4, hm⟩ : ∃ (m : Nat) (dk4 : Option Dk), ifE (eTst truthB (op2 gtW (eVar 6) (eC (.int 0)))) (callE F__law_draw [0, 1] [] 2 (bCons (eVar 0) (bCons (op2 addD (bltE min2W (rCons (eC (.int 20)) (rCons (op2 fdivD (bltE lenW (rCons (eVar 4) rNil)) (eC (.int 2))) rNil))) (eC (.int 1))) bNil))) (bltE min2W (rCons (eC (.int 20)) (rCons (op2 fdivD (bltE lenW (rCons (eVar 4) rNil)) (eC (.int 2))) rNil)))
      ⟨[.fz .deck, .fz (nD M), .fz (ringsD rs), .lv (.lst (([] : List Tc).map tcD)), .fz (.lst ((spots rs).map plD)), .fz (.tup (l.map nD)), .fz (nD w), .un, .un, .un], dk3⟩
      = .ok (.val (nD m)) ⟨[.fz .deck, .fz (nD M), .fz (ringsD rs), .lv (.lst (([] : List Tc).map tcD)), .fz (.lst ((spots rs).map plD)), .fz (.tup (l.map nD)), .fz (nD w), .un, .un, .un], dk4⟩ ∧ Dks (B + 100) dk4 ∧ m ≤ half (spots rs).length := by
    have hh := half_ok (i := 4) (sp := spots rs) (st := ⟨[.fz .deck, .fz (nD M), .fz (ringsD rs), .lv (.lst (([] : List Tc).map tcD)), .fz (.lst ((spots rs).map plD)), .fz (.tup (l.map nD)), .fz (nD w), .un, .un, .un], dk3⟩) rfl
    have t : eTst truthB (op2 gtW (eVar 6) (eC (.int 0))) ⟨[.fz .deck, .fz (nD M), .fz (ringsD rs), .lv (.lst (([] : List Tc).map tcD)), .fz (.lst ((spots rs).map plD)), .fz (.tup (l.map nD)), .fz (nD w), .un, .un, .un], dk3⟩ = .ok (decide ((0 : Int) < (w : Int))) ⟨[.fz .deck, .fz (nD M), .fz (ringsD rs), .lv (.lst (([] : List Tc).map tcD)), .fz (.lst ((spots rs).map plD)), .fz (.tup (l.map nD)), .fz (nD w), .un, .un, .un], dk3⟩ :=
      tst_ok (op2_ok rfl rfl rfl rfl rfl) rfl rfl
    rw [s_ifE, s_bind, t]
    have hb : half (spots rs).length ≤ 20 := by unfold half; omega
    by_cases hz : (0 : Int) < (w : Int)
    · rw [decide_eq_true hz]
      obtain ⟨r, dk', a1, a2, a3⟩ := draw_c (st := ⟨[.fz .deck, .fz (nD M), .fz (ringsD rs), .lv (.lst (([] : List Tc).map tcD)), .fz (.lst ((spots rs).map plD)), .fz (.tup (l.map nD)), .fz (nD w), .un, .un, .un], dk3⟩) rfl (op2_ok (w2 := .val (.int 1)) hh rfl rfl rfl (add_one _)) q3 (by omega) (by omega) (by omega)
      exact ⟨r, dk', a1, a2.mono (by omega), by omega⟩
    · rw [decide_eq_false hz]
      exact ⟨_, dk3, hh, q3.mono (by omega), Nat.le_refl _⟩
  have hb : half (spots rs).length ≤ 20 := by unfold half; omega
  -- the loop
  obtain ⟨st', h1, acc, s7, s8, s9, rfl, h2⟩ := forL_all (g := nmG 7) (b := (seqS (asgS (bltE sortW (rCons (bindE (aCons (op2 getW (eVar 4) (op2 getW (eVar 5) (op2 mulA (eC (.int 2)) (eVar 7)))) (aCons (op2 getW (eVar 4) (op2 getW (eVar 5) (op2 addD (op2 mulA (eC (.int 2)) (eVar 7)) (eC (.int 1))))) aNil)) lstOf) rNil)) (seqG 2 (consG (nmG 8) (consG (nmG 9) nilG))))
    (exprS (methL appD (eVar 3) (aCons (bindE (aCons (eVar 8) (aCons (eVar 9) aNil)) tupOf) aNil)))))
    (ds := upTo 0 m) (fun k st => ∃ (acc : List Tc) (s7 s8 s9 : Slot), st = ⟨[.fz .deck, .fz (nD M), .fz (ringsD rs), .lv (.lst (acc.map tcD)), .fz (.lst ((spots rs).map plD)), .fz (.tup (l.map nD)), .fz (nD w), s7, s8, s9], dk4⟩ ∧ Prs (ordP (spots rs) l) k acc) (by
      rintro k d st hd ⟨acc, s7, s8, s9, rfl, hp⟩
      obtain ⟨hk, rfl⟩ := upTo_nGet hd
      obtain ⟨x, y, a1, a2⟩ := touch_turn (a := 4) (b := 5) (c := 7) (st := ⟨[.fz .deck, .fz (nD M), .fz (ringsD rs), .lv (.lst (acc.map tcD)), .fz (.lst ((spots rs).map plD)), .fz (.tup (l.map nD)), .fz (nD w), .fz (nD k), s8, s9], dk4⟩) (spots_nodup rs) hl rfl rfl rfl hk hm hp
      refine ⟨⟨[.fz .deck, .fz (nD M), .fz (ringsD rs), .lv (.lst (acc.map tcD)), .fz (.lst ((spots rs).map plD)), .fz (.tup (l.map nD)), .fz (nD w), .fz (nD k), s8, s9], dk4⟩, ⟨[.fz .deck, .fz (nD M), .fz (ringsD rs), .lv (.lst ((acc ++ [(x, y)]).map tcD)), .fz (.lst ((spots rs).map plD)), .fz (.tup (l.map nD)), .fz (nD w), .fz (nD k), .fz (plD x), .fz (plD y)], dk4⟩, rfl, ?_, _, _, _, _, rfl, a2⟩
      refine seq_ok (st1 := ⟨[.fz .deck, .fz (nD M), .fz (ringsD rs), .lv (.lst (acc.map tcD)), .fz (.lst ((spots rs).map plD)), .fz (.tup (l.map nD)), .fz (nD w), .fz (nD k), .fz (plD x), .fz (plD y)], dk4⟩) (asg_ok a1 rfl rfl) ?_
      have t1 : bindE (aCons (eVar 8) (aCons (eVar 9) aNil)) tupOf ⟨[.fz .deck, .fz (nD M), .fz (ringsD rs), .lv (.lst (acc.map tcD)), .fz (.lst ((spots rs).map plD)), .fz (.tup (l.map nD)), .fz (nD w), .fz (nD k), .fz (plD x), .fz (plD y)], dk4⟩ = .ok (.val (tcD (x, y))) ⟨[.fz .deck, .fz (nD M), .fz (ringsD rs), .lv (.lst (acc.map tcD)), .fz (.lst ((spots rs).map plD)), .fz (.tup (l.map nD)), .fz (nD w), .fz (nD k), .fz (plD x), .fz (plD y)], dk4⟩ := tupM (ac_cons rfl rfl (ac_cons rfl rfl ac_nil)) (by show 2 ≤ big; decide)
      rw [show (acc ++ [(x, y)]).map tcD = acc.map tcD ++ [tcD (x, y)] from List.map_append]
      exact append_ok (i := 3) (es := acc.map tcD) rfl t1 rfl rfl (by rw [List.length_map, hp.len]; exact lt_big (m := 20) (by omega) (by decide)))
    (st := ⟨[.fz .deck, .fz (nD M), .fz (ringsD rs), .lv (.lst (([] : List Tc).map tcD)), .fz (.lst ((spots rs).map plD)), .fz (.tup (l.map nD)), .fz (nD w), .un, .un, .un], dk4⟩) ⟨[], _, _, _, rfl, Prs.zero _⟩
  rw [upTo_len] at h2
  have hf : FlOk rs (acc.mergeSort tle) := FlOk.of hne hpos (by omega) hl h2 (by omega)
  refine ⟨rs, acc.mergeSort tle, dk4, ?_, q4, hf⟩
  refine run_ret (n := 10) (as := [.deck, nD M]) (b := M__law_floor) (seq_ok s1 (seq_ok s2 (seq_ok s3 (seq_ok (for_ok (ofL_ok (ac_cons s4 rfl ac_nil) (rng_nat (by omega))) h1) (ret_ok (tupM (ac_cons rfl rfl (ac_cons (blt_ok (rc_cons (blt_ok (ds := [.lst (acc.map tcD)]) (rc_cons rfl rc_nil) rfl (sortW_tc rfl)) rc_nil) rfl rfl) rfl ac_nil)) (by show 2 ≤ big; decide)) rfl))))) rfl
end Lk12

/-! ### P11 -/
namespace Lk12
open L2 Dl PySem.Spec
open PySem hiding upTo
open PyProof.Rows hiding inR cutD
/-! ### the program's checks -/
theorem f_rings {rs : List Nat} (hne : rs ≠ []) (hpos : ∀ n ∈ rs, 1 ≤ n) (hsum : rs.sum ≤ 40) (dk : Option Dk) : F_are_rings_value [ringsD rs] dk = .ok (.bl true) dk := by
  have hlen := Nat.le_trans (len_le_sum hpos) hsum
  have hl0 : 1 ≤ rs.length := List.length_pos_iff.mpr hne
  have e1 : chainE leW leW (eC (.int 1)) (bltE lenW (rCons (eVar 0) rNil)) (eC (.int 40)) ⟨[.fz (ringsD rs), .un], dk⟩ = .ok (.val (.bl true)) ⟨[.fz (ringsD rs), .un], dk⟩ := by
    refine chain_t (w2 := .val (nD (rs.map nD).length)) (d2 := nD (rs.map nD).length) rfl (blt_ok (rc_cons rfl rc_nil) rfl rfl) rfl rfl ?_ rfl rfl rfl ?_
    · show leW (nD 1) (nD _) = _
      rw [le_nat, List.length_map, decide_eq_true hl0]
    · show leW (nD _) (nD 40) = _
      rw [le_nat, List.length_map, decide_eq_true hlen]
  have e2 : lcE [1] (seqM (eVar 0)) (nmG 1) (lcB (okE true) (lcP (callE F_is_from [0, 1] [] 2 (bCons (eVar 1) (bCons (eC (.int 1)) bNil))))) ⟨[.fz (ringsD rs), .un], dk⟩ = .ok (.fresh (.lst ((rs.map nD).map fun _ => .bl true))) ⟨[.fz (ringsD rs), .un], dk⟩ := by
    refine lc_map (s := .un) (ds := rs.map nD) (seqM_ok rfl rfl rfl) rfl rfl ?_ (by rw [List.length_map]; exact le_big (m := 40) (by omega) (by decide))
    intro d hd
    obtain ⟨n, hn, rfl⟩ := List.mem_map.mp hd
    have h1 := hpos n hn
    refine call_ok (st1 := ⟨[.fz (ringsD rs), .fz (nD n)], dk⟩) (bc_v rfl (bc_v rfl bc_nil)) rfl rfl rfl ?_ rfl
    show F_is_from [.int (n : Int), .int 1] dk = _
    rw [f_from, decide_eq_true (by omega)]
  exact run_ret (n := 2) (as := [ringsD rs]) (b := M_are_rings_value) (ret_ok (and_t (isi_ok rfl rfl rfl) rfl (and_t e1 rfl (blt_ok (ds := [.lst ((rs.map nD).map fun _ => .bl true)]) (rc_cons e2 rc_nil) rfl (all_true _)))) rfl) rfl
theorem at_rings {rs : List Nat} {u n : Nat} (h : rs[u]? = some n) : atI (rs.map nD) (u : Int) = some (.int (n : Int)) := by
  refine atI_nat ?_
  rw [List.getElem?_map, h]
  rfl
theorem spot_at {rs : List Nat} {p : Pl} (h : p ∈ spots rs) : ∃ n, rs[p.1]? = some n ∧ p.2 < n ∧ p.1 < rs.length := by
  obtain ⟨j, hj⟩ := List.getElem?_of_mem h
  obtain ⟨n, h1, h2, _⟩ := spots_get (u := p.1) (i := p.2) hj
  exact ⟨n, h1, h2, (List.getElem?_eq_some_iff.mp h1).1⟩
theorem f_place {rs : List Nat} {p : Pl} (h : p ∈ spots rs) (dk : Option Dk) : F_is_place_of [ringsD rs, plD p] dk = .ok (.bl true) dk := by
  obtain ⟨n, h1, h2, h3⟩ := spot_at h
  exact f_place_of (rs.map nD) p.1 p.2 n dk (at_rings h1) (by omega) (by rw [List.length_map]; omega) (by omega) (by omega)
theorem lt_places (p q : Pl) : ltW (plD p) (plD q) = some (.val (.bl (decide (plt p q)))) := by
  unfold Dl.ltW
  rw [if_pos ⟨cod_p.ok 64 p (by decide), cod_p.ok 64 q (by decide)⟩]
  have e : ltd (plD p) (plD q) = some (decide (plt p q)) := by
    unfold plD nD
    simp only [ltd, ltdL, eqd]
    unfold plt
    by_cases h1 : (p.1 : Int) = q.1
    · by_cases h2 : (p.2 : Int) = q.2
      · have h3 : ¬ (p.1 < q.1 ∨ p.1 = q.1 ∧ p.2 < q.2) := by omega
        simp [h1, h2, h3]
      · have h3 : (p.1 < q.1 ∨ p.1 = q.1 ∧ p.2 < q.2) ↔ p.2 < q.2 := by omega
        simp [h1, h2, h3]
    · have h3 : (p.1 < q.1 ∨ p.1 = q.1 ∧ p.2 < q.2) ↔ p.1 < q.1 := by omega
      by_cases h2 : (p.2 : Int) = q.2
      · simp [h1, h2, h3]
      · simp [h1, h2, h3]
  rw [e]
  rfl
theorem f_touch {rs : List Nat} {t : Tc} (h1 : t.1 ∈ spots rs) (h2 : t.2 ∈ spots rs) (h3 : plt t.1 t.2) (dk : Option Dk) : F_is_touch_of [ringsD rs, tcD t] dk = .ok (.bl true) dk := by
  have g0 : op2 getW (eVar 1) (eC (.int 0)) ⟨[.fz (ringsD rs), .fz (tcD t)], dk⟩ = .ok (.val (plD t.1)) ⟨[.fz (ringsD rs), .fz (tcD t)], dk⟩ := rfl
  have g1 : op2 getW (eVar 1) (eC (.int 1)) ⟨[.fz (ringsD rs), .fz (tcD t)], dk⟩ = .ok (.val (plD t.2)) ⟨[.fz (ringsD rs), .fz (tcD t)], dk⟩ := rfl
  have c0 : callE F_is_pair [0] [] 1 (bCons (eVar 1) bNil) ⟨[.fz (ringsD rs), .fz (tcD t)], dk⟩ = .ok (.val (.bl true)) ⟨[.fz (ringsD rs), .fz (tcD t)], dk⟩ :=
    call_ok (st1 := ⟨[.fz (ringsD rs), .fz (tcD t)], dk⟩) (bc_v rfl bc_nil) rfl rfl rfl (f_pair _ _ dk) rfl
  have c1 : ∀ {m : Ev W} {p : Pl}, m ⟨[.fz (ringsD rs), .fz (tcD t)], dk⟩ = .ok (.val (plD p)) ⟨[.fz (ringsD rs), .fz (tcD t)], dk⟩ → p ∈ spots rs → callE F_is_place_of [0, 1] [] 2 (bCons (eVar 0) (bCons m bNil)) ⟨[.fz (ringsD rs), .fz (tcD t)], dk⟩ = .ok (.val (.bl true)) ⟨[.fz (ringsD rs), .fz (tcD t)], dk⟩ := fun hm hp =>
    call_ok (st1 := ⟨[.fz (ringsD rs), .fz (tcD t)], dk⟩) (bc_v rfl (bc_v hm bc_nil)) rfl rfl rfl (f_place hp dk) rfl
  have l : ltW (plD t.1) (plD t.2) = some (.val (.bl true)) := by rw [lt_places, decide_eq_true h3]
  exact run_ret (n := 2) (as := [ringsD rs, tcD t]) (b := M_is_touch_of) (seq_ok (ifN_f (orT_f (not_t c0 rfl) (orT_f (not_t (c1 g0 h1) rfl) (not_t (c1 g1 h2) rfl)))) (ret_ok (op2_ok g0 g1 rfl rfl l) rfl)) rfl
end Lk12

/-! ### P12 -/
namespace Lk12
open L2 Dl PySem.Spec
open PySem hiding upTo
open PyProof.Rows hiding inR cutD
theorem ends_len (ts : List Tc) : (endsT ts).length = 2 * ts.length := by
  induction ts with
  | nil => rfl
  | cons t r ih =>
    rw [ends_cons, List.length_cons, List.length_cons, ih, List.length_cons]
    omega
def itD (d : D) : List D := (itemsOf d).getD []
theorem ends_flat (ts : List Tc) : (ts.map tcD).flatMap itD = (endsT ts).map plD := by
  induction ts with
  | nil => rfl
  | cons t r ih =>
    rw [List.map_cons, List.flatMap_cons, ih, ends_cons]
    rfl
theorem nums_pl : ∀ l : List Pl, numsL (l.map plD) = some (l.map fun p => [(p.1 : Int), (p.2 : Int)])
  | [] => rfl
  | p :: r => by
    rw [List.map_cons, List.map_cons]
    show (match intsOf [nD p.1, nD p.2], numsL (r.map plD) with
      | some ns, some k => some (ns :: k)
      | _, _ => none) = _
    rw [nums_pl r]
    rfl
theorem lenSet_pl {l : List Pl} (h : l.Nodup) (hl : l.length < 64) : lenSetW [.lst (l.map plD)] = some (.val (nD l.length)) := by
  unfold lenSetW
  simp only [nums_pl]
  have hn : (l.map fun p : Pl => [(p.1 : Int), (p.2 : Int)]).Nodup := by
    unfold List.Nodup at *
    rw [List.pairwise_map]
    refine h.imp fun {a b} z e => z ?_
    simp only [List.cons.injEq, and_true] at e
    exact Prod.ext (by omega) (by omega)
  rw [if_pos (by rw [List.length_map]; exact hl), dd_self hn, List.length_map]
  rfl
theorem f_touches {rs : List Nat} {ts : List Tc} (h : FlOk rs ts) (dk : Option Dk) : F_are_touches_of [ringsD rs, touchD ts] dk = .ok (.bl true) dk := by
  have hel := ends_len ts
  have hl := h.len
  have e2 : lcE [3] (seqM (eVar 1)) (nmG 3) (lcB (okE true) (lcP (callE F_is_touch_of [0, 1] [] 2 (bCons (eVar 0) (bCons (eVar 3) bNil))))) ⟨[.fz (ringsD rs), .fz (touchD ts), .un, .un, .un], dk⟩ = .ok (.fresh (.lst ((ts.map tcD).map fun _ => .bl true))) ⟨[.fz (ringsD rs), .fz (touchD ts), .un, .un, .un], dk⟩ := by
    refine lc_map (s := .un) (ds := ts.map tcD) (seqM_ok rfl rfl rfl) rfl rfl ?_ (by rw [List.length_map]; exact le_big (m := 40) (by omega) (by decide))
    intro d hd
    obtain ⟨t, ht, rfl⟩ := List.mem_map.mp hd
    have m1 : t.1 ∈ endsT ts := List.mem_flatMap.mpr ⟨t, ht, by simp⟩
    have m2 : t.2 ∈ endsT ts := List.mem_flatMap.mpr ⟨t, ht, by simp⟩
    exact call_ok (st1 := ⟨[.fz (ringsD rs), .fz (touchD ts), .un, .fz (tcD t), .un], dk⟩) (bc_v rfl (bc_v rfl bc_nil)) rfl rfl rfl (f_touch (h.tin _ m1) (h.tin _ m2) (h.lt t ht) dk) rfl
  have e3 : lcE [3, 4] (seqM (eVar 1)) (nmG 3) (lcB (okE true) (lcI (seqM (eVar 3)) (lcL [4] (nmG 4) (lcB (okE true) (lcP (eVar 4)))))) ⟨[.fz (ringsD rs), .fz (touchD ts), .un, .un, .un], dk⟩ = .ok (.fresh (.lst ((endsT ts).map plD))) ⟨[.fz (ringsD rs), .fz (touchD ts), .un, .un, .un], dk⟩ := by
    obtain ⟨st2, h1, s3, s4, rfl⟩ := lcL_flat (vs := [3, 4]) (g := nmG 3) (b := lcB (okE true) (lcI (seqM (eVar 3)) (lcL [4] (nmG 4) (lcB (okE true) (lcP (eVar 4)))))) (fun st => ∃ s3 s4, st = ⟨[.fz (ringsD rs), .fz (touchD ts), .un, s3, s4], dk⟩) itD (ds := ts.map tcD) (by
      rintro d hd acc st ⟨s3, s4, rfl⟩ hacc
      obtain ⟨t, ht, rfl⟩ := List.mem_map.mp hd
      obtain ⟨st2, h1, s4', rfl⟩ := lcL_all (vs := [4]) (g := nmG 4) (b := lcB (okE true) (lcP (eVar 4))) (fun st => ∃ s4, st = ⟨[.fz (ringsD rs), .fz (touchD ts), .un, .fz (tcD t), s4], dk⟩) some (ds := itD (tcD t)) (by
        rintro d hd acc st ⟨s4, rfl⟩ ha
        exact ⟨⟨[.fz (ringsD rs), .fz (touchD ts), .un, .fz (tcD t), .fz d], dk⟩, ⟨[.fz (ringsD rs), .fz (touchD ts), .un, .fz (tcD t), .fz d], dk⟩, rfl, lcP_ok (w := .val d) rfl rfl ha, _, rfl⟩) (acc := acc) (st := ⟨[.fz (ringsD rs), .fz (touchD ts), .un, .fz (tcD t), .un], dk⟩) ⟨_, rfl⟩ hacc
      rw [List.filterMap_some] at h1
      exact ⟨⟨[.fz (ringsD rs), .fz (touchD ts), .un, .fz (tcD t), .un], dk⟩, _, rfl, (lcI_ok (r := seqM (eVar 3)) (ds := itD (tcD t)) (st := ⟨[.fz (ringsD rs), .fz (touchD ts), .un, .fz (tcD t), .un], dk⟩) (st1 := ⟨[.fz (ringsD rs), .fz (touchD ts), .un, .fz (tcD t), .un], dk⟩) (seqM_ok (w := .val (tcD t)) (d := tcD t) rfl rfl rfl)).trans h1, _, _, rfl⟩)
      (acc := []) (st := ⟨[.fz (ringsD rs), .fz (touchD ts), .un, .un, .un], dk⟩) ⟨_, _, rfl⟩ (by rw [ends_flat, List.length_map, List.length_nil, hel]; exact le_big (m := 40) (by omega) (by decide))
    rw [ends_flat, List.nil_append] at h1
    exact lcE_ok (st1 := ⟨[.fz (ringsD rs), .fz (touchD ts), .un, .un, .un], dk⟩) (seqM_ok (w := .val (touchD ts)) (d := touchD ts) rfl rfl rfl) rfl h1
  have i1 : ifS (orT (bindE (eTst truthD (isiE "tuple" (eVar 1))) fun b => okE (!b)) (bindE (eTst truthD (bltE allW (rCons (lcE [3] (seqM (eVar 1)) (nmG 3) (lcB (okE true) (lcP (callE F_is_touch_of [0, 1] [] 2 (bCons (eVar 0) (bCons (eVar 3) bNil)))))) rNil))) fun b => okE (!b))) (retS (eC (.bl false))) (okE .next) ⟨[.fz (ringsD rs), .fz (touchD ts), .un, .un, .un], dk⟩
      = .ok .next ⟨[.fz (ringsD rs), .fz (touchD ts), .un, .un, .un], dk⟩ :=
    ifN_f (orT_f (not_t (isi_ok rfl rfl rfl) rfl) (not_t (blt_ok (ds := [.lst ((ts.map tcD).map fun _ => .bl true)]) (rc_cons e2 rc_nil) rfl (all_true _)) rfl))
  have q1 : op2 eqW (bltE listW (rCons (eVar 1) rNil)) (bltE sortW (rCons (eVar 1) rNil)) ⟨[.fz (ringsD rs), .fz (touchD ts), .lv (.lst ((endsT ts).map plD)), .un, .un], dk⟩ = .ok (.val (.bl true)) ⟨[.fz (ringsD rs), .fz (touchD ts), .lv (.lst ((endsT ts).map plD)), .un, .un], dk⟩ := by
    refine op2_ok (w1 := .fresh (.lst (ts.map tcD))) (w2 := .fresh (.lst ((ts.mergeSort tle).map tcD))) (blt_ok (ds := [touchD ts]) (rc_cons rfl rc_nil) rfl rfl) (blt_ok (ds := [touchD ts]) (rc_cons rfl rc_nil) rfl (sortW_tc rfl)) rfl rfl ?_
    rw [sort_same h.srt]
    exact (cod_t.lst.eqW (by decide) ts ts).trans (by rw [decide_eq_true rfl])
  have q2 : op2 eqW (bltE lenSetW (rCons (eVar 2) rNil)) (bltE lenW (rCons (eVar 2) rNil)) ⟨[.fz (ringsD rs), .fz (touchD ts), .lv (.lst ((endsT ts).map plD)), .un, .un], dk⟩ = .ok (.val (.bl true)) ⟨[.fz (ringsD rs), .fz (touchD ts), .lv (.lst ((endsT ts).map plD)), .un, .un], dk⟩ := by
    refine op2_ok (blt_ok (ds := [.lst ((endsT ts).map plD)]) (rc_cons rfl rc_nil) rfl (lenSet_pl h.nd (by omega))) (len_ok rfl rfl) rfl rfl ?_
    rw [List.length_map]
    exact (cod_n.eqW (by decide) _ _).trans (by rw [decide_eq_true rfl])
  exact run_ret (n := 5) (as := [ringsD rs, touchD ts]) (b := M_are_touches_of) (seq_ok i1 (seq_ok (set_f e3) (ret_ok (and_t q1 rfl q2) rfl))) rfl
theorem f_floor {rs : List Nat} {ts : List Tc} (h : FlOk rs ts) (dk : Option Dk) : F_is_floor_value [floorD rs ts] dk = .ok (.bl true) dk := by
  have c0 : callE F_is_pair [0] [] 1 (bCons (eVar 0) bNil) ⟨[.fz (floorD rs ts)], dk⟩ = .ok (.val (.bl true)) ⟨[.fz (floorD rs ts)], dk⟩ :=
    call_ok (st1 := ⟨[.fz (floorD rs ts)], dk⟩) (bc_v rfl bc_nil) rfl rfl rfl (f_pair _ _ dk) rfl
  have c1 : callE F_are_rings_value [0] [] 1 (bCons (op2 getW (eVar 0) (eC (.int 0))) bNil) ⟨[.fz (floorD rs ts)], dk⟩ = .ok (.val (.bl true)) ⟨[.fz (floorD rs ts)], dk⟩ :=
    call_ok (st1 := ⟨[.fz (floorD rs ts)], dk⟩) (bc_v rfl bc_nil) rfl rfl rfl (f_rings h.ne h.pos h.sum dk) rfl
  have c2 : callE F_are_touches_of [0, 1] [] 2 (bCons (op2 getW (eVar 0) (eC (.int 0))) (bCons (op2 getW (eVar 0) (eC (.int 1))) bNil)) ⟨[.fz (floorD rs ts)], dk⟩ = .ok (.val (.bl true)) ⟨[.fz (floorD rs ts)], dk⟩ :=
    call_ok (st1 := ⟨[.fz (floorD rs ts)], dk⟩) (bc_v rfl (bc_v rfl bc_nil)) rfl rfl rfl (f_touches h dk) rfl
  exact run_ret (n := 1) (as := [floorD rs ts]) (b := M_is_floor_value) (ret_ok (and_t c0 rfl (and_t c1 rfl c2)) rfl) rfl
theorem f_need {rs : List Nat} {ts : List Tc} (h : FlOk rs ts) (dk : Option Dk) : F_need_floor [floorD rs ts] dk = .ok .non dk := by
  have c0 : callE F_is_floor_value [0] [] 1 (bCons (eVar 0) bNil) ⟨[.fz (floorD rs ts)], dk⟩ = .ok (.val (.bl true)) ⟨[.fz (floorD rs ts)], dk⟩ :=
    call_ok (st1 := ⟨[.fz (floorD rs ts)], dk⟩) (bc_v rfl bc_nil) rfl rfl rfl (f_floor h dk) rfl
  exact run_non (n := 1) (as := [floorD rs ts]) (b := M_need_floor) (ifN_f (not_t c0 rfl)) rfl
end Lk12

/-! ### P13 -/
namespace Lk12
open L2 Dl PySem.Spec
open PySem hiding upTo
open PyProof.Rows hiding inR cutD
section
variable {rs : List Nat} {ts : List Tc} {p : Pl}
/-! behind -/
/-- the place k steps behind p in a ring of n -/
def step (n : Nat) (p : Pl) (k : Int) : Pl := (p.1, (((p.2 : Int) + k) % (n : Int)).toNat)
theorem step_D {n : Nat} (hn : 0 < n) (p : Pl) (k : Int) : plD (step n p k) = .tup [nD p.1, .int (((p.2 : Int) + k) % (n : Int))] := by
  have h := Int.emod_nonneg ((p.2 : Int) + k) (b := (n : Int)) (by omega)
  show D.tup [nD p.1, .int (((((p.2 : Int) + k) % (n : Int)).toNat : Nat) : Int)] = _
  rw [Int.toNat_of_nonneg h]
theorem step_lt {n : Nat} (hn : 0 < n) (p : Pl) (k : Int) : (step n p k).2 < n := by
  have h := Int.emod_nonneg ((p.2 : Int) + k) (b := (n : Int)) (by omega)
  have h2 := Int.emod_lt_of_pos ((p.2 : Int) + k) (b := (n : Int)) (by omega)
  show (((p.2 : Int) + k) % (n : Int)).toNat < n
  omega
theorem spots_mem {u i n : Nat} (h : rs[u]? = some n) (hi : i < n) : (u, i) ∈ spots rs := by
  have gen : ∀ (rs : List Nat) (k u : Nat), rs[u]? = some n → (k + u, i) ∈ spotsF k rs := by
    intro rs
    induction rs with
    | nil => intro k u h; simp at h
    | cons m r ih =>
      intro k u h
      rw [spotsF_cons, List.mem_append]
      cases u with
      | zero =>
        simp only [List.getElem?_cons_zero, Option.some.injEq] at h
        subst h
        exact .inl (List.mem_map.mpr ⟨i, List.mem_range.mpr hi, rfl⟩)
      | succ u =>
        rw [List.getElem?_cons_succ] at h
        have := ih (k + 1) u h
        rw [show k + 1 + u = k + (u + 1) from by omega] at this
        exact .inr this
  have := gen rs 0 u h
  rw [Nat.zero_add] at this
  exact this
/-! seat -/
theorem take_cut (rs : List Nat) (u : Nat) : Dl.cutD (rs.map nD) none (some (u : Int)) = (rs.take u).map nD := by
  unfold Dl.cutD
  have e1 : HT.sIx (rs.map nD).length (rs.map nD).length (some (u : Int)) = min u (rs.map nD).length := HT.sIx_nat _ _ u
  have e0 : HT.sIx (rs.map nD).length 0 none = 0 := rfl
  rw [e1, e0, Nat.sub_zero, List.drop_zero, List.length_map, ← List.map_take]
  congr 1
  rw [List.take_eq_take_iff]
  omega
theorem ints_n : ∀ l : List Nat, intsOf (l.map nD) = some (l.map Int.ofNat)
  | [] => rfl
  | n :: r => by
    show (intsOf (r.map nD)).map ((n : Int) :: ·) = _
    rw [ints_n r]
    rfl
theorem sum_n (l : List Nat) : (l.map Int.ofNat).sum = ((l.sum : Nat) : Int) := by
  induction l with
  | nil => rfl
  | cons n r ih =>
    rw [List.map_cons, List.sum_cons, List.sum_cons, ih]
    rfl
end
end Lk12

/-! ### P15 -/
namespace Lk12
open L2 Dl PySem.Spec
open PySem hiding upTo
open PyProof.Rows hiding inR cutD
/-! ### places -/
def ringP : D → List D
  | .tup [.int k, .int n] => ((List.range n.toNat).map fun i => (k.toNat, i)).map plD
  | _ => []
theorem ring_flat : ∀ (rs : List Nat) (k : Nat), (enumD k (rs.map nD)).flatMap ringP = (spotsF k rs).map plD
  | [], _ => rfl
  | n :: r, k => by
    rw [List.map_cons, enumD_cons, List.flatMap_cons, ring_flat r (k + 1), spotsF_cons, List.map_append]
    rfl
theorem enum_mem : ∀ {rs : List Nat} {k : Nat} {d : D}, d ∈ enumD k (rs.map nD) → ∃ u n, d = .tup [nD u, nD n] ∧ n ∈ rs
  | [], _, _, h => by cases h
  | m :: r, k, d, h => by
    rw [List.map_cons, enumD_cons, List.mem_cons] at h
    rcases h with rfl | h
    · exact ⟨k, m, rfl, List.mem_cons_self⟩
    · obtain ⟨u, n, e, hn⟩ := enum_mem h
      exact ⟨u, n, e, List.mem_cons_of_mem _ hn⟩
theorem ring_in_sum : ∀ {rs : List Nat} {n : Nat}, n ∈ rs → n ≤ rs.sum
  | m :: r, n, h => by
    rw [List.sum_cons]
    rcases List.mem_cons.mp h with rfl | h
    · omega
    · have := ring_in_sum h
      omega
theorem f_placesOf {rs : List Nat} (hsum : rs.sum ≤ 1000) (dk : Option Dk) : F_places_of [ringsD rs] dk = .ok (.lst ((spots rs).map plD)) dk := by
  obtain ⟨st2, h1, s1, s2, s3, rfl⟩ := lcL_flat (vs := [1, 2, 3]) (g := seqG 2 (consG (nmG 1) (consG (nmG 2) nilG))) (b := lcB (okE true) (lcI (ofL rng1 (aCons (eVar 2) aNil)) (lcL [3] (nmG 3) (lcB (okE true) (lcP (bindE (aCons (eVar 1) (aCons (eVar 3) aNil)) tupOf)))))) (fun st => ∃ s1 s2 s3, st = ⟨[.fz (ringsD rs), s1, s2, s3], dk⟩) ringP (ds := enumD 0 (rs.map nD)) (by
    rintro d hd acc st ⟨s1, s2, s3, rfl⟩ hacc
    obtain ⟨u, n, rfl, hn⟩ := enum_mem hd
    have hns := ring_in_sum hn
    have er : ringP (.tup [nD u, nD n]) = ((List.range n).map fun i => (u, i)).map plD := rfl
    obtain ⟨st2, h1, s3', rfl⟩ := lcL_all (vs := [3]) (g := nmG 3) (b := lcB (okE true) (lcP (bindE (aCons (eVar 1) (aCons (eVar 3) aNil)) tupOf))) (fun st => ∃ s3, st = ⟨[.fz (ringsD rs), .fz (nD u), .fz (nD n), s3], dk⟩) (toP u) (ds := upTo 0 n) (by
      rintro d hd acc st ⟨s3, rfl⟩ ha
      obtain ⟨i, hi, rfl⟩ := upTo_mem hd
      refine ⟨⟨[.fz (ringsD rs), .fz (nD u), .fz (nD n), .fz (.int (0 + (i : Int)))], dk⟩, ⟨[.fz (ringsD rs), .fz (nD u), .fz (nD n), .fz (.int (0 + (i : Int)))], dk⟩, rfl, ?_, _, rfl⟩
      exact lcP_ok (st1 := ⟨[.fz (ringsD rs), .fz (nD u), .fz (nD n), .fz (.int (0 + (i : Int)))], dk⟩) (w := .val (.tup [nD u, .int (0 + (i : Int))])) tup_ok2 rfl ha) (acc := acc) (st := ⟨[.fz (ringsD rs), .fz (nD u), .fz (nD n), .un], dk⟩) ⟨_, rfl⟩ (by
        rw [upTo_len]
        rw [er, List.length_map, List.length_map, List.length_range] at hacc
        exact hacc)
    rw [toP_up] at h1
    have hr : ofL rng1 (aCons (eVar 2) aNil) ⟨[.fz (ringsD rs), .fz (nD u), .fz (nD n), .un], dk⟩ = .ok (upTo 0 n) ⟨[.fz (ringsD rs), .fz (nD u), .fz (nD n), .un], dk⟩ := ofL_ok (ds := [nD n]) rfl (rng_nat (by omega))
    refine ⟨⟨[.fz (ringsD rs), .fz (nD u), .fz (nD n), .un], dk⟩, ⟨[.fz (ringsD rs), .fz (nD u), .fz (nD n), s3'], dk⟩, rfl, ?_, _, _, _, rfl⟩
    rw [er, lcB_t, lcI_ok hr]
    exact h1)
    (acc := []) (st := ⟨[.fz (ringsD rs), .un, .un, .un], dk⟩) ⟨_, _, _, rfl⟩ (by rw [ring_flat, List.length_map, List.length_nil, spotsF_len]; exact le_big (m := 1000) (by omega) (by decide))
  rw [ring_flat, List.nil_append] at h1
  exact run_ret (n := 4) (as := [ringsD rs]) (b := M_places_of) (ret_ok (lcE_ok (st1 := ⟨[.fz (ringsD rs), .un, .un, .un], dk⟩) (ofL_ok (ds := [ringsD rs]) rfl rfl) rfl h1) rfl) rfl
end Lk12

namespace Lk12
open L2 Dl PySem.Spec
open PySem hiding upTo
open PyProof.Rows hiding inR cutD
/-! ### plans -/
inductive Plan where
  | nil
  | beat (c : List Nat) (r : Plan)
  | times (k : Nat) (p r : Plan)
abbrev Sp := List Nat ⊕ (Nat × Plan)
def steps : Plan → List Sp
  | .nil => []
  | .beat c r => .inl c :: steps r
  | .times k p r => .inr (k, p) :: steps r
def callD (c : List Nat) : D := .tup (c.map nD)
def stepsD : Plan → List D
  | .nil => []
  | .beat c r => .tup [.str "beat", callD c] :: stepsD r
  | .times k p r => .tup [.str "times", nD k, .tup (stepsD p)] :: stepsD r
def planD (p : Plan) : D := .tup (stepsD p)
def stp : Sp → D
  | .inl c => .tup [.str "beat", callD c]
  | .inr (k, p) => .tup [.str "times", nD k, planD p]
theorem stepsD_eq : ∀ p : Plan, stepsD p = (steps p).map stp
  | .nil => rfl
  | .beat c r => by
    show _ :: stepsD r = _
    rw [stepsD_eq r]
    rfl
  | .times k p r => by
    show _ :: stepsD r = _
    rw [stepsD_eq r]
    rfl
def beats : Plan → Nat
  | .nil => 0
  | .beat _ r => 1 + beats r
  | .times k p r => k * beats p + beats r
def changes : Plan → Nat
  | .nil => 0
  | .beat c r => c.length + changes r
  | .times k p r => k * changes p + changes r
def calls : Plan → List (List Nat)
  | .nil => []
  | .beat c r => c :: calls r
  | .times k p r => (List.replicate k (calls p)).flatten ++ calls r
def dep : Plan → Nat
  | .nil => 0
  | .beat _ r => dep r
  | .times _ p r => max (dep p + 1) (dep r)
def nodes : Plan → Nat
  | .nil => 0
  | .beat _ r => 1 + nodes r
  | .times _ p r => 1 + nodes p + nodes r
def Wt : Plan → Nat
  | .nil => 1
  | .beat c r => 1 + c.length + Wt r
  | .times k p r => (k + 1) * Wt p + Wt r
def OkC (m : Nat) : Plan → Prop
  | .nil => True
  | .beat c r => (c.Pairwise (· < ·) ∧ ∀ x ∈ c, x < m) ∧ OkC m r
  | .times _ p r => OkC m p ∧ OkC m r
structure PlOk (m : Nat) (p : Plan) : Prop where
  c : OkC m p
  d : dep p ≤ 8
  n : nodes p ≤ 3000
  w : Wt p < 2 ^ 390
theorem beats_calls : ∀ p : Plan, (calls p).length = beats p
  | .nil => rfl
  | .beat c r => by simp only [calls, beats, List.length_cons, beats_calls r]; omega
  | .times k p r => by simp only [calls, beats, List.length_append, List.length_flatten, List.map_replicate, List.sum_replicate_nat, beats_calls p, beats_calls r]
theorem Wt_pos : ∀ p : Plan, 1 ≤ Wt p
  | .nil => Nat.le_refl _
  | .beat c r => by have := Wt_pos r; simp only [Wt]; omega
  | .times k p r => by have := Wt_pos r; simp only [Wt]; omega
theorem beats_Wt : ∀ p : Plan, beats p ≤ Wt p
  | .nil => Nat.zero_le _
  | .beat c r => by have := beats_Wt r; simp only [beats, Wt]; omega
  | .times k p r => by
    have h1 := beats_Wt r
    have h2 := Nat.mul_le_mul_left k (beats_Wt p)
    simp only [beats, Wt, Nat.add_mul, Nat.one_mul]
    omega
theorem changes_Wt : ∀ p : Plan, changes p ≤ Wt p
  | .nil => Nat.zero_le _
  | .beat c r => by have := changes_Wt r; simp only [changes, Wt]; omega
  | .times k p r => by
    have h1 := changes_Wt r
    have h2 := Nat.mul_le_mul_left k (changes_Wt p)
    simp only [changes, Wt, Nat.add_mul, Nat.one_mul]
    omega
/-- what a step of a plan tells -/
theorem mem_sub {q : Plan} {k : Nat} : ∀ {p : Plan}, .inr (k, q) ∈ steps p → dep q < dep p ∧ nodes q < nodes p ∧ Wt q ≤ Wt p ∧ k < Wt p ∧ k * Wt q ≤ Wt p ∧ k * beats q ≤ beats p ∧ ∀ m, OkC m p → OkC m q
  | .nil, h => by cases h
  | .beat c r, h => by
    rcases List.mem_cons.mp h with h | h
    · cases h
    · obtain ⟨h1, h2, h3, h4, h5, h6, h7⟩ := mem_sub h
      simp only [dep, nodes, Wt, beats]
      exact ⟨h1, by omega, by omega, by omega, by omega, by omega, fun m h => h7 m h.2⟩
  | .times j p r, h => by
    rcases List.mem_cons.mp h with h | h
    · cases h
      have w1 := Wt_pos q
      have w2 := Wt_pos r
      have e : k * 1 ≤ k * Wt q := Nat.mul_le_mul_left k w1
      simp only [dep, nodes, Wt, beats, Nat.add_mul, Nat.one_mul]
      exact ⟨by omega, by omega, by omega, by omega, by omega, by omega, fun m h => h.1⟩
    · obtain ⟨h1, h2, h3, h4, h5, h6, h7⟩ := mem_sub h
      simp only [dep, nodes, Wt, beats]
      exact ⟨by omega, by omega, by omega, by omega, by omega, by omega, fun m h => h7 m h.2⟩
theorem mem_call {c : List Nat} : ∀ {p : Plan}, .inl c ∈ steps p → c.length < Wt p ∧ ∀ m, OkC m p → c.Pairwise (· < ·) ∧ ∀ x ∈ c, x < m
  | .nil, h => by cases h
  | .beat d r, h => by
    rcases List.mem_cons.mp h with h | h
    · cases h
      have := Wt_pos r
      exact ⟨by simp only [Wt]; omega, fun m h => h.1⟩
    · obtain ⟨h1, h2⟩ := mem_call h
      exact ⟨by simp only [Wt]; omega, fun m h => h2 m h.2⟩
  | .times j p r, h => by
    rcases List.mem_cons.mp h with h | h
    · cases h
    · obtain ⟨h1, h2⟩ := mem_call h
      exact ⟨by simp only [Wt]; omega, fun m h => h2 m h.2⟩
theorem steps_len : ∀ p : Plan, (steps p).length ≤ nodes p
  | .nil => Nat.le_refl _
  | .beat c r => by have := steps_len r; simp only [steps, nodes, List.length_cons]; omega
  | .times j p r => by have := steps_len r; simp only [steps, nodes, List.length_cons]; omega
theorem noMut_call (c : List Nat) : noMut (callD c) = true := noMut_ns c
theorem noMut_steps : ∀ p : Plan, noMutL (stepsD p) = true
  | .nil => rfl
  | .beat c r => by
    have h1 : noMutL (c.map nD) = true := noMut_ns c
    simp [stepsD, noMutL, noMut, callD, h1, noMut_steps r]
  | .times k p r => by simp [stepsD, noMutL, noMut, nD, noMut_steps p, noMut_steps r]
theorem noMut_plan (p : Plan) : noMut (planD p) = true := noMut_steps p
/-! ### plans put together -/
def pTake : Nat → Plan → Plan
  | 0, _ => .nil
  | _ + 1, .nil => .nil
  | n + 1, .beat c r => .beat c (pTake n r)
  | n + 1, .times k p r => .times k p (pTake n r)
def pApp : Plan → Plan → Plan
  | .nil, q => q
  | .beat c r, q => .beat c (pApp r q)
  | .times k p r, q => .times k p (pApp r q)
theorem take_D : ∀ (n : Nat) (p : Plan), stepsD (pTake n p) = (stepsD p).take n
  | 0, p => by simp [pTake, stepsD]
  | n + 1, .nil => rfl
  | n + 1, .beat c r => by simp [pTake, stepsD, take_D n r]
  | n + 1, .times k p r => by simp [pTake, stepsD, take_D n r]
theorem app_D : ∀ p q : Plan, stepsD (pApp p q) = stepsD p ++ stepsD q
  | .nil, q => rfl
  | .beat c r, q => by simp [pApp, stepsD, app_D r q]
  | .times k p r, q => by simp [pApp, stepsD, app_D r q]
theorem app_beats : ∀ p q : Plan, beats (pApp p q) = beats p + beats q
  | .nil, q => by simp [pApp, beats]
  | .beat c r, q => by simp only [pApp, beats, app_beats r q]; omega
  | .times k p r, q => by simp only [pApp, beats, app_beats r q]; omega
theorem take_sz : ∀ (n : Nat) (p : Plan), dep (pTake n p) ≤ dep p ∧ nodes (pTake n p) ≤ nodes p ∧ Wt (pTake n p) ≤ Wt p ∧ ∀ m, OkC m p → OkC m (pTake n p)
  | 0, p => by
    have := Wt_pos p
    simp [pTake, dep, nodes, Wt, OkC]
    omega
  | n + 1, .nil => ⟨Nat.le_refl _, Nat.le_refl _, Nat.le_refl _, fun _ h => h⟩
  | n + 1, .beat c r => by
    obtain ⟨h1, h2, h3, h4⟩ := take_sz n r
    simp only [pTake, dep, nodes, Wt, OkC]
    exact ⟨h1, by omega, by omega, fun m h => ⟨h.1, h4 m h.2⟩⟩
  | n + 1, .times k p r => by
    obtain ⟨h1, h2, h3, h4⟩ := take_sz n r
    simp only [pTake, dep, nodes, Wt, OkC]
    exact ⟨by omega, by omega, by omega, fun m h => ⟨h.1, h4 m h.2⟩⟩
theorem app_sz : ∀ (p q : Plan), dep (pApp p q) ≤ max (dep p) (dep q) ∧ nodes (pApp p q) ≤ nodes p + nodes q ∧ Wt (pApp p q) ≤ Wt p + Wt q ∧ ∀ m, OkC m p → OkC m q → OkC m (pApp p q)
  | .nil, q => by simp [pApp, nodes, Wt, dep]
  | .beat c r, q => by
    obtain ⟨h1, h2, h3, h4⟩ := app_sz r q
    simp only [pApp, dep, nodes, Wt, OkC]
    exact ⟨h1, by omega, by omega, fun m h h' => ⟨h.1, h4 m h.2 h'⟩⟩
  | .times k p r, q => by
    obtain ⟨h1, h2, h3, h4⟩ := app_sz r q
    simp only [pApp, dep, nodes, Wt, OkC]
    exact ⟨by omega, by omega, by omega, fun m h h' => ⟨h.1, h4 m h.2 h'⟩⟩
/-- the plan of these calls -/
def ofCalls : List (List Nat) → Plan
  | [] => .nil
  | c :: r => .beat c (ofCalls r)
theorem ofCalls_D : ∀ l : List (List Nat), stepsD (ofCalls l) = l.map fun c => .tup [.str "beat", callD c]
  | [] => rfl
  | c :: r => by simp [ofCalls, stepsD, ofCalls_D r]
theorem ofCalls_calls : ∀ l : List (List Nat), calls (ofCalls l) = l
  | [] => rfl
  | c :: r => by simp [ofCalls, calls, ofCalls_calls r]
theorem ofCalls_sz (M : Nat) : ∀ l : List (List Nat), (∀ c ∈ l, c.length ≤ M) → dep (ofCalls l) = 0 ∧ nodes (ofCalls l) = l.length ∧ Wt (ofCalls l) ≤ 1 + l.length * (1 + M) ∧ ∀ m, (∀ c ∈ l, c.Pairwise (· < ·) ∧ ∀ x ∈ c, x < m) → OkC m (ofCalls l)
  | [], _ => by simp [ofCalls, dep, nodes, Wt, OkC]
  | c :: r, h => by
    obtain ⟨h1, h2, h3, h4⟩ := ofCalls_sz M r fun x hx => h x (List.mem_cons_of_mem _ hx)
    have := h c List.mem_cons_self
    simp only [ofCalls, dep, nodes, Wt, OkC, List.length_cons, Nat.add_mul, Nat.one_mul]
    exact ⟨h1, by omega, by omega, fun m h => ⟨h c List.mem_cons_self, h4 m fun x hx => h x (List.mem_cons_of_mem _ hx)⟩⟩
/-- the calls of a plan that stands keep its calls' rows -/
theorem calls_mem {P : List Nat → Prop} : ∀ {p : Plan}, (∀ m, OkC m p → True) → ∀ m, OkC m p → ∀ c ∈ calls p, c.Pairwise (· < ·) ∧ ∀ x ∈ c, x < m
  | .nil, _, m, _, c, hc => by cases hc
  | .beat d r, _, m, h, c, hc => by
    rcases List.mem_cons.mp hc with rfl | hc
    · exact h.1
    · exact calls_mem (P := P) (fun _ _ => trivial) m h.2 c hc
  | .times k p r, _, m, h, c, hc => by
    rcases List.mem_append.mp hc with hc | hc
    · obtain ⟨l, hl, hc⟩ := List.mem_flatten.mp hc
      rw [(List.mem_replicate.mp hl).2] at hc
      exact calls_mem (P := P) (fun _ _ => trivial) m h.1 c hc
    · exact calls_mem (P := P) (fun _ _ => trivial) m h.2 c hc
end Lk12

namespace Lk12
open L2 Dl PySem.Spec
open PySem hiding upTo
open PyProof.Rows hiding inR cutD
/-! ### beats and changes are counted -/
theorem eq_str {a b : Str} (ha : okD 64 (.str a) = true) (hb : okD 64 (.str b) = true) : eqW (.str a) (.str b) = some (.val (.bl (eqd (.str a) (.str b)))) := by
  unfold Dl.eqW
  rw [if_pos ⟨ha, hb⟩]
theorem bb : eqW (.str "beat") (.str "beat") = some (.val (.bl true)) := (eq_str (by decide +kernel) (by decide +kernel)).trans (by rw [show eqd (.str "beat") (.str "beat") = true by decide +kernel])
theorem bt : eqW (.str "beat") (.str "times") = some (.val (.bl false)) := (eq_str (by decide +kernel) (by decide +kernel)).trans (by rw [show eqd (.str "beat") (.str "times") = false by decide +kernel])
theorem tb : eqW (.str "times") (.str "beat") = some (.val (.bl false)) := (eq_str (by decide +kernel) (by decide +kernel)).trans (by rw [show eqd (.str "times") (.str "beat") = false by decide +kernel])
theorem tt : eqW (.str "times") (.str "times") = some (.val (.bl true)) := (eq_str (by decide +kernel) (by decide +kernel)).trans (by rw [show eqd (.str "times") (.str "times") = true by decide +kernel])
def isB : Sp → Bool
  | .inl _ => true
  | .inr _ => false
section
variable {st : Stt} {i : Nat} {s : Sp} {k : Nat} {q : Plan} {c : List Nat}
theorem at0 (h : st.ρ[i]? = some (.fz (stp s))) : op2 getW (eVar i) (eC (.int 0)) st = .ok (.val (.str (if isB s = true then "beat" else "times"))) st := by
  refine op2_ok (var_fz h) rfl rfl rfl ?_
  cases s with
  | inl c => rfl
  | inr x => rfl
theorem tstB (h : st.ρ[i]? = some (.fz (stp s))) : eTst truthB (op2 eqW (op2 getW (eVar i) (eC (.int 0))) (eC (.str "beat"))) st = .ok (isB s) st := by
  refine tst_ok (w := .val (.bl (isB s))) (op2_ok (at0 h) rfl rfl rfl ?_) rfl rfl
  cases s with
  | inl c => exact bb
  | inr x => exact tb
theorem tstT (h : st.ρ[i]? = some (.fz (stp s))) : eTst truthB (op2 eqW (op2 getW (eVar i) (eC (.int 0))) (eC (.str "times"))) st = .ok (!isB s) st := by
  refine tst_ok (w := .val (.bl (!isB s))) (op2_ok (at0 h) rfl rfl rfl ?_) rfl rfl
  cases s with
  | inl c => exact bt
  | inr x => exact tt
theorem at1c (h : st.ρ[i]? = some (.fz (stp (.inl c)))) : op2 getW (eVar i) (eC (.int 1)) st = .ok (.val (callD c)) st := op2_ok (var_fz h) rfl rfl rfl rfl
theorem at1k (h : st.ρ[i]? = some (.fz (stp (.inr (k, q))))) : op2 getW (eVar i) (eC (.int 1)) st = .ok (.val (nD k)) st := op2_ok (var_fz h) rfl rfl rfl rfl
theorem at2 (h : st.ρ[i]? = some (.fz (stp (.inr (k, q))))) : op2 getW (eVar i) (eC (.int 2)) st = .ok (.val (planD q)) st := op2_ok (var_fz h) rfl rfl rfl rfl
theorem seqP {p : Plan} (h : st.ρ[i]? = some (.fz (planD p))) : seqM (eVar i) st = .ok ((steps p).map stp) st :=
  seqM_ok (var_fz h) rfl (by rw [← stepsD_eq]; rfl)
end
theorem mul_nat {a b : Nat} (ha : a < 2 ^ 390) (hb : b < 2 ^ 390) : mulA (nD a) (nD b) = some (.val (nD (a * b))) := by
  have e : mulOk (a : Int) (b : Int) = true := mulOk_small (by rw [Int.natAbs_natCast]; omega) (by rw [Int.natAbs_natCast]; omega)
  show (if mulOk (a : Int) (b : Int) = true then some (W.val (.int ((a : Int) * (b : Int)))) else none) = _
  rw [if_pos e]
  unfold nD
  rw [Int.natCast_mul]
theorem sum_nat (l : List Nat) : sumAW [.lst (l.map nD)] = some (.val (nD l.sum)) := by
  show (intsOf (l.map nD)).map _ = _
  rw [ints_n]
  show some (W.val (.int (l.map Int.ofNat).sum)) = _
  rw [sum_n]
  rfl
def bval : Sp → Nat
  | .inl _ => 1
  | .inr (k, q) => k * beats q
def cval : Sp → Nat
  | .inl c => c.length
  | .inr (k, q) => k * changes q
theorem beats_sum : ∀ p : Plan, ((steps p).map bval).sum = beats p
  | .nil => rfl
  | .beat c r => by simp [steps, beats, bval, beats_sum r]
  | .times k p r => by simp [steps, beats, bval, beats_sum r]
theorem changes_sum : ∀ p : Plan, ((steps p).map cval).sum = changes p
  | .nil => rfl
  | .beat c r => by simp [steps, changes, cval, changes_sum r]
  | .times k p r => by simp [steps, changes, cval, changes_sum r]
theorem beats_in_ok : ∀ (n : Nat) (p : Plan) (dk : Option Dk), dep p < n → nodes p ≤ 4000 → Wt p < 2 ^ 390 → F_beats_in n [planD p] dk = .ok (nD (beats p)) dk
  | 0, p, dk, h, _, _ => absurd h (Nat.not_lt_zero _)
  | n + 1, p, dk, hd, hn, hw => by
    have hl := steps_len p
    refine run_ret (b := M_beats_in (F_beats_in n)) (st := ⟨[.fz (planD p), .un], dk⟩) (st' := ⟨[.fz (planD p), .un], dk⟩) ?_ rfl
    have q : lcE [1] (seqM (eVar 0)) (nmG 1) (lcB (okE true) (lcP (ifE (eTst truthB (op2 eqW (op2 getW (eVar 1) (eC (.int 0))) (eC (.str "beat")))) (eC (.int 1)) (op2 mulA (op2 getW (eVar 1) (eC (.int 1))) (callE (F_beats_in n) [0] [] 1 (bCons (op2 getW (eVar 1) (eC (.int 2))) bNil)))))) ⟨[.fz (planD p), .un], dk⟩
        = .ok (.fresh (.lst ((steps p).map fun s => nD (bval s)))) ⟨[.fz (planD p), .un], dk⟩ := by
      refine lc_mapA (enc := stp) (s := .un) (seqP rfl) rfl rfl (fun s hs => ?_) (le_big (m := 4000) (by omega) (by omega))
      cases s with
      | inl c => exact ifE_t (tstB (s := .inl c) rfl) rfl
      | inr x =>
        obtain ⟨k, q⟩ := x
        obtain ⟨m1, m2, m3, m4, m5, m6, m7⟩ := mem_sub hs
        have b1 := beats_Wt q
        have ih := beats_in_ok n q dk (by omega) (by omega) (by omega)
        have cl : callE (F_beats_in n) [0] [] 1 (bCons (op2 getW (eVar 1) (eC (.int 2))) bNil) ⟨[.fz (planD p), .fz (stp (.inr (k, q)))], dk⟩ = .ok (.val (nD (beats q))) ⟨[.fz (planD p), .fz (stp (.inr (k, q)))], dk⟩ :=
          call_ok (bc_v (at2 (k := k) (q := q) rfl) bc_nil) rfl rfl rfl ih rfl
        exact ifE_f (tstB (s := .inr (k, q)) rfl) (op2_ok (at1k (k := k) (q := q) rfl) cl rfl rfl (mul_nat (by omega) (by omega)))
    refine ret_ok (w := .val (nD (beats p))) (blt_ok (ds := [.lst ((steps p).map fun s => nD (bval s))]) (rc_cons q rc_nil) rfl ?_) rfl
    have e : ((steps p).map fun s => nD (bval s)) = ((steps p).map bval).map nD := by rw [List.map_map]; rfl
    rw [e, sum_nat, beats_sum]
theorem length_eq : ∀ n : Nat, F__law_length n = F_beats_in n
  | 0 => rfl
  | n + 1 => by
    show runF 2 (M__law_length (F__law_length n)) = runF 2 (M_beats_in (F_beats_in n))
    rw [length_eq n]
    rfl
theorem changes_in_ok : ∀ (n : Nat) (p : Plan) (dk : Option Dk), dep p < n → nodes p ≤ 4000 → Wt p < 2 ^ 390 → F_changes_in n [planD p] dk = .ok (nD (changes p)) dk
  | 0, p, dk, h, _, _ => absurd h (Nat.not_lt_zero _)
  | n + 1, p, dk, hd, hn, hw => by
    have hl := steps_len p
    refine run_ret (b := M_changes_in (F_changes_in n)) (st := ⟨[.fz (planD p), .un], dk⟩) (st' := ⟨[.fz (planD p), .un], dk⟩) ?_ rfl
    have q : lcE [1] (seqM (eVar 0)) (nmG 1) (lcB (okE true) (lcP (ifE (eTst truthB (op2 eqW (op2 getW (eVar 1) (eC (.int 0))) (eC (.str "beat")))) (bltE lenW (rCons (op2 getW (eVar 1) (eC (.int 1))) rNil)) (op2 mulA (op2 getW (eVar 1) (eC (.int 1))) (callE (F_changes_in n) [0] [] 1 (bCons (op2 getW (eVar 1) (eC (.int 2))) bNil)))))) ⟨[.fz (planD p), .un], dk⟩
        = .ok (.fresh (.lst ((steps p).map fun s => nD (cval s)))) ⟨[.fz (planD p), .un], dk⟩ := by
      refine lc_mapA (enc := stp) (s := .un) (seqP rfl) rfl rfl (fun s hs => ?_) (le_big (m := 4000) (by omega) (by omega))
      cases s with
      | inl c => exact ifE_t (tstB (s := .inl c) rfl) (blt_ok (ds := [callD c]) (rc_cons (at1c (c := c) rfl) rc_nil) rfl (by show some (W.val (.int ((c.map nD).length : Nat))) = _; rw [List.length_map]; rfl))
      | inr x =>
        obtain ⟨k, q⟩ := x
        obtain ⟨m1, m2, m3, m4, m5, m6, m7⟩ := mem_sub hs
        have b1 := changes_Wt q
        have ih := changes_in_ok n q dk (by omega) (by omega) (by omega)
        have cl : callE (F_changes_in n) [0] [] 1 (bCons (op2 getW (eVar 1) (eC (.int 2))) bNil) ⟨[.fz (planD p), .fz (stp (.inr (k, q)))], dk⟩ = .ok (.val (nD (changes q))) ⟨[.fz (planD p), .fz (stp (.inr (k, q)))], dk⟩ :=
          call_ok (bc_v (at2 (k := k) (q := q) rfl) bc_nil) rfl rfl rfl ih rfl
        exact ifE_f (tstB (s := .inr (k, q)) rfl) (op2_ok (at1k (k := k) (q := q) rfl) cl rfl rfl (mul_nat (by omega) (by omega)))
    refine ret_ok (w := .val (nD (changes p))) (blt_ok (ds := [.lst ((steps p).map fun s => nD (cval s))]) (rc_cons q rc_nil) rfl ?_) rfl
    have e : ((steps p).map fun s => nD (cval s)) = ((steps p).map cval).map nD := by rw [List.map_map]; rfl
    rw [e, sum_nat, changes_sum]
theorem lchanges_eq : ∀ n : Nat, F__law_changes n = F_changes_in n
  | 0 => rfl
  | n + 1 => by
    show runF 2 (M__law_changes (F__law_changes n)) = runF 2 (M_changes_in (F_changes_in n))
    rw [lchanges_eq n]
    rfl
end Lk12

namespace Lk12
open L2 Dl PySem.Spec
open PySem hiding upTo
open PyProof.Rows hiding inR cutD
/-! ### the calls of a plan -/
def cv : Sp → List (List Nat)
  | .inl c => [c]
  | .inr (k, q) => (List.replicate k (calls q)).flatten
theorem calls_flat : ∀ p : Plan, (steps p).flatMap cv = calls p
  | .nil => rfl
  | .beat c r => by simp [steps, calls, cv, calls_flat r]
  | .times k p r => by simp [steps, calls, cv, calls_flat r]
theorem gt_nat (m : Nat) : gtW (nD m) (.int 0) = some (.val (.bl (decide (0 < m)))) := by
  show some (W.val (.bl (decide ((0 : Int) < (m : Int))))) = _
  have e : decide ((0 : Int) < (m : Int)) = decide (0 < m) := decide_eq_decide.mpr (by omega)
  rw [e]
theorem rep_map {α β : Type} (f : α → β) (l : List α) : ∀ k : Nat, (List.replicate k (l.map f)).flatten = ((List.replicate k l).flatten).map f
  | 0 => rfl
  | k + 1 => by rw [List.replicate_succ, List.replicate_succ, List.flatten_cons, List.flatten_cons, List.map_append, rep_map f l k]
theorem mul_lst {l : List D} {k : Nat} (hk : k < 1000000) (hl : l.length * k ≤ 1000000) : mulA (.lst l) (nD k) = some (.fresh (.lst (List.replicate k l).flatten)) := by
  have e63 : (2 : Int) ^ 63 = 9223372036854775808 := rfl
  have eb : big = 16777216 := rfl
  have e : mulA (.lst l) (nD k) = mulD (.lst l) (.int (k : Int)) := rfl
  rw [e]
  simp only [mulD]
  rw [Int.toNat_natCast, if_pos ⟨by omega, by omega, by omega⟩]
theorem calls_run {dk : Option Dk} {test : Ev Bool} {R : List D → Option Dk → RF} {p : Plan} (hb : beats p ≤ 2000)
    (ht : ∀ (k : Nat) (q : Plan) (st : Stt), .inr (k, q) ∈ steps p → st.ρ[2]? = some (.fz (stp (.inr (k, q)))) → st.dk = dk → test st = .ok (decide (0 < k * beats q)) st)
    (hR : ∀ (k : Nat) (q : Plan), .inr (k, q) ∈ steps p → 0 < k * beats q → R [planD q] dk = .ok (.lst ((calls q).map callD)) dk) :
    (seqS (setS 1 (bindE aNil lstOf))
    (seqS (forS (seqM (eVar 0)) (nmG 2)
    (ifS (eTst truthB (op2 eqW (op2 getW (eVar 2) (eC (.int 0))) (eC (.str "beat"))))
    (exprS (methL appD (eVar 1) (aCons (op2 getW (eVar 2) (eC (.int 1))) aNil)))
    (ifS test
    (exprS (methL extD (eVar 1) (aCons (op2 mulA (callE R [0] [] 1 (bCons (op2 getW (eVar 2) (eC (.int 2))) bNil)) (op2 getW (eVar 2) (eC (.int 1)))) aNil)))
    (okE .next))))
    (retS (eVar 1)))) ⟨[.fz (planD p), .un, .un], dk⟩ = .ok (.ret (.lst ((calls p).map callD))) ⟨[.fz (planD p), .fz (.lst ((calls p).map callD)), .un], dk⟩ ∨
    ∃ s, (seqS (setS 1 (bindE aNil lstOf))
    (seqS (forS (seqM (eVar 0)) (nmG 2)
    (ifS (eTst truthB (op2 eqW (op2 getW (eVar 2) (eC (.int 0))) (eC (.str "beat"))))
    (exprS (methL appD (eVar 1) (aCons (op2 getW (eVar 2) (eC (.int 1))) aNil)))
    (ifS test
    (exprS (methL extD (eVar 1) (aCons (op2 mulA (callE R [0] [] 1 (bCons (op2 getW (eVar 2) (eC (.int 2))) bNil)) (op2 getW (eVar 2) (eC (.int 1)))) aNil)))
    (okE .next))))
    (retS (eVar 1)))) ⟨[.fz (planD p), .un, .un], dk⟩ = .ok (.ret (.lst ((calls p).map callD))) ⟨[.fz (planD p), .fz (.lst ((calls p).map callD)), s], dk⟩ := by
  have eb : big = 16777216 := rfl
  have tot : ((steps p).flatMap cv).length ≤ 2000 := by rw [calls_flat, beats_calls]; exact hb
  obtain ⟨st', h1, s, h2⟩ := forA (enc := stp) (g := nmG 2) (b := ifS (eTst truthB (op2 eqW (op2 getW (eVar 2) (eC (.int 0))) (eC (.str "beat"))))
    (exprS (methL appD (eVar 1) (aCons (op2 getW (eVar 2) (eC (.int 1))) aNil)))
    (ifS test
    (exprS (methL extD (eVar 1) (aCons (op2 mulA (callE R [0] [] 1 (bCons (op2 getW (eVar 2) (eC (.int 2))) bNil)) (op2 getW (eVar 2) (eC (.int 1)))) aNil)))
    (okE .next))) (fun pre st => ∃ s, st = ⟨[.fz (planD p), .lv (.lst ((pre.flatMap cv).map callD)), s], dk⟩) (l := steps p) (pre := []) (st := ⟨[.fz (planD p), .lv (.lst []), .un], dk⟩) (by
      rintro pre a post st hpre ⟨s, rfl⟩
      rw [List.nil_append] at hpre
      have hm : a ∈ steps p := by rw [hpre]; simp
      have hlen : (pre.flatMap cv).length + (cv a).length ≤ 2000 := by
        rw [hpre] at tot
        simp only [List.flatMap_append, List.flatMap_cons, List.length_append] at tot
        omega
      refine ⟨⟨[.fz (planD p), .lv (.lst ((pre.flatMap cv).map callD)), .fz (stp a)], dk⟩, ⟨[.fz (planD p), .lv (.lst (((pre ++ [a]).flatMap cv).map callD)), .fz (stp a)], dk⟩, rfl, ?_, _, rfl⟩
      have ef : (pre ++ [a]).flatMap cv = pre.flatMap cv ++ cv a := by simp
      cases a with
      | inl c =>
        refine if_t (tstB (s := .inl c) rfl) ?_
        have q := append_ok (i := 1) (st := ⟨[.fz (planD p), .lv (.lst ((pre.flatMap cv).map callD)), .fz (stp (.inl c))], dk⟩) rfl (at1c (i := 2) (c := c) rfl) rfl rfl (by rw [List.length_map]; show (pre.flatMap cv).length < big; omega)
        rw [q, ef, List.map_append]
        rfl
      | inr x =>
        obtain ⟨k, q⟩ := x
        obtain ⟨m1, m2, m3, m4, m5, m6, m7⟩ := mem_sub hm
        refine if_f (tstB (s := .inr (k, q)) rfl) ?_
        have t := ht k q ⟨[.fz (planD p), .lv (.lst ((pre.flatMap cv).map callD)), .fz (stp (.inr (k, q)))], dk⟩ hm rfl rfl
        by_cases hz : 0 < k * beats q
        · rw [decide_eq_true hz] at t
          refine if_t t ?_
          have hk : k ≤ 2000 := by
            have : k * 1 ≤ k * beats q := Nat.mul_le_mul_left k (Nat.pos_of_mul_pos_left hz |> fun _ => by
              rcases Nat.eq_zero_or_pos (beats q) with z | z
              · rw [z, Nat.mul_zero] at hz; omega
              · exact z)
            omega
          have hl : (calls q).length * k ≤ 2000 := by rw [beats_calls, Nat.mul_comm]; omega
          have cl : callE R [0] [] 1 (bCons (op2 getW (eVar 2) (eC (.int 2))) bNil) ⟨[.fz (planD p), .lv (.lst ((pre.flatMap cv).map callD)), .fz (stp (.inr (k, q)))], dk⟩ = .ok (.val (.lst ((calls q).map callD))) ⟨[.fz (planD p), .lv (.lst ((pre.flatMap cv).map callD)), .fz (stp (.inr (k, q)))], dk⟩ :=
            call_mut (bc_v (at2 (k := k) (q := q) rfl) bc_nil) rfl rfl rfl (hR k q hm hz) (fun h => Bool.false_ne_true h)
          have mm : op2 mulA (callE R [0] [] 1 (bCons (op2 getW (eVar 2) (eC (.int 2))) bNil)) (op2 getW (eVar 2) (eC (.int 1))) ⟨[.fz (planD p), .lv (.lst ((pre.flatMap cv).map callD)), .fz (stp (.inr (k, q)))], dk⟩ = .ok (.fresh (.lst ((List.replicate k (calls q)).flatten.map callD))) ⟨[.fz (planD p), .lv (.lst ((pre.flatMap cv).map callD)), .fz (stp (.inr (k, q)))], dk⟩ := by
            refine op2_ok cl (at1k (k := k) (q := q) rfl) rfl rfl ?_
            rw [mul_lst (by omega) (by rw [List.length_map]; omega), rep_map]
          have q2 := extend_ok (i := 1) (st := ⟨[.fz (planD p), .lv (.lst ((pre.flatMap cv).map callD)), .fz (stp (.inr (k, q)))], dk⟩) rfl mm rfl (by rw [List.length_map, List.length_map]; show (pre.flatMap cv).length + (cv (.inr (k, q))).length ≤ big; omega)
          rw [q2, ef, List.map_append]
          rfl
        · rw [decide_eq_false hz] at t
          have e0 : cv (.inr (k, q)) = [] := by
            apply List.eq_nil_of_length_eq_zero
            show ((List.replicate k (calls q)).flatten).length = 0
            rw [List.length_flatten, List.map_replicate, List.sum_replicate_nat, beats_calls]
            omega
          rw [ef, e0, List.append_nil]
          exact if_f t rfl) ⟨.un, rfl⟩
  rw [List.nil_append, calls_flat] at h2
  subst h2
  refine .inr ⟨s, ?_⟩
  refine seq_ok (set_f (lstM ac_nil (by decide))) (seq_ok (for_ok (seqP rfl) h1) ?_)
  exact ret_ok (w := .live 1) (var_lv rfl) rfl
theorem lt_beats {k : Nat} {q : Plan} : beats (.times k q .nil) = k * beats q := by simp [beats]
theorem calls_in_ok : ∀ (n : Nat) (p : Plan) (dk : Option Dk), dep p < n → dep p < 11 → nodes p ≤ 3900 → Wt p < 2 ^ 389 → beats p ≤ 2000 → F_calls_in n [planD p] dk = .ok (.lst ((calls p).map callD)) dk
  | 0, p, dk, h, _, _, _, _ => absurd h (Nat.not_lt_zero _)
  | n + 1, p, dk, hd, hd2, hn, hw, hb => by
    have q := calls_run (dk := dk) (test := eTst truthB (op2 gtW (callE (F_beats_in 12) [0] [] 1 (bCons (bindE (aCons (eVar 2) aNil) tupOf) bNil)) (eC (.int 0)))) (R := F_calls_in n) (p := p) hb (fun k q st hm h2 hk => by
      obtain ⟨m1, m2, m3, m4, m5, m6, m7⟩ := mem_sub hm
      have b := beats_in_ok 12 (.times k q .nil) dk (by simp only [dep]; omega) (by simp only [nodes]; omega) (by simp only [Wt, Nat.add_mul, Nat.one_mul]; omega)
      have cl : callE (F_beats_in 12) [0] [] 1 (bCons (bindE (aCons (eVar 2) aNil) tupOf) bNil) st = .ok (.val (nD (k * beats q))) st := by
        obtain ⟨ρ, dk'⟩ := st
        subst hk
        rw [lt_beats] at b
        exact call_ok (bc_v (tupM (ac_cons (var_fz h2) rfl ac_nil) (by show 1 ≤ big; decide)) bc_nil) rfl rfl rfl b rfl
      exact tst_ok (op2_ok cl rfl rfl rfl (gt_nat _)) rfl rfl) (fun k q hm hz => by
      obtain ⟨m1, m2, m3, m4, m5, m6, m7⟩ := mem_sub hm
      have hq : beats q ≤ 2000 := by
        have : 1 * beats q ≤ k * beats q := Nat.mul_le_mul_right _ (Nat.pos_of_mul_pos_right hz |> fun _ => by
          rcases Nat.eq_zero_or_pos k with z | z
          · rw [z, Nat.zero_mul] at hz; omega
          · exact z)
        omega
      exact calls_in_ok n q dk (by omega) (by omega) (by omega) (by omega) hq)
    rcases q with q | ⟨s, q⟩
    · exact run_ret (b := M_calls_in (F_calls_in n)) (st := ⟨[.fz (planD p), .un, .un], dk⟩) q rfl
    · exact run_ret (b := M_calls_in (F_calls_in n)) (st := ⟨[.fz (planD p), .un, .un], dk⟩) q rfl
theorem law_calls_ok : ∀ (n : Nat) (p : Plan) (dk : Option Dk), dep p < n → dep p < 11 → nodes p ≤ 3900 → Wt p < 2 ^ 389 → beats p ≤ 2000 → F__law_calls n [planD p] dk = .ok (.lst ((calls p).map callD)) dk
  | 0, p, dk, h, _, _, _, _ => absurd h (Nat.not_lt_zero _)
  | n + 1, p, dk, hd, hd2, hn, hw, hb => by
    have q := calls_run (dk := dk) (test := eTst truthB (op2 gtW (op2 mulA (op2 getW (eVar 2) (eC (.int 1))) (callE (F__law_length 12) [0] [] 1 (bCons (op2 getW (eVar 2) (eC (.int 2))) bNil))) (eC (.int 0)))) (R := F__law_calls n) (p := p) hb (fun k q st hm h2 hk => by
      obtain ⟨m1, m2, m3, m4, m5, m6, m7⟩ := mem_sub hm
      have w := beats_Wt q
      have b := beats_in_ok 12 q dk (by omega) (by omega) (by omega)
      rw [← length_eq] at b
      have cl : callE (F__law_length 12) [0] [] 1 (bCons (op2 getW (eVar 2) (eC (.int 2))) bNil) st = .ok (.val (nD (beats q))) st := by
        obtain ⟨ρ, dk'⟩ := st
        subst hk
        exact call_ok (bc_v (at2 h2) bc_nil) rfl rfl rfl b rfl
      exact tst_ok (op2_ok (op2_ok (at1k h2) cl rfl rfl (mul_nat (by omega) (by omega))) rfl rfl rfl (gt_nat _)) rfl rfl) (fun k q hm hz => by
      obtain ⟨m1, m2, m3, m4, m5, m6, m7⟩ := mem_sub hm
      have hq : beats q ≤ 2000 := by
        have : 1 * beats q ≤ k * beats q := Nat.mul_le_mul_right _ (Nat.pos_of_mul_pos_right hz |> fun _ => by
          rcases Nat.eq_zero_or_pos k with z | z
          · rw [z, Nat.zero_mul] at hz; omega
          · exact z)
        omega
      exact law_calls_ok n q dk (by omega) (by omega) (by omega) (by omega) hq)
    rcases q with q | ⟨s, q⟩
    · exact run_ret (b := M__law_calls (F__law_calls n)) (st := ⟨[.fz (planD p), .un, .un], dk⟩) q rfl
    · exact run_ret (b := M__law_calls (F__law_calls n)) (st := ⟨[.fz (planD p), .un, .un], dk⟩) q rfl
end Lk12

namespace Lk12
open L2 Dl PySem.Spec
open PySem hiding upTo
open PyProof.Rows hiding inR cutD
/-! ### a plan is seen to be one -/
theorem asc_len {c : List Nat} {m : Nat} (h : c.Pairwise (· < ·)) (hm : ∀ x ∈ c, x < m) : c.length ≤ m := by
  have nd : c.Nodup := h.imp fun h => Nat.ne_of_lt h
  have q := nd.length_le_of_subset (l₂ := List.range m) fun x hx => List.mem_range.mpr (hm x hx)
  rw [List.length_range] at q
  exact q
theorem okd_nums (n : Nat) (c : List Nat) : (c.map nD).all (okD n) = true := by
  rw [List.all_eq_true]
  intro d hd
  obtain ⟨x, _, rfl⟩ := List.mem_map.mp hd
  unfold nD
  cases n <;> rfl
theorem okd_call (n : Nat) (c : List Nat) : okD (n + 1) (callD c) = true := okd_nums n c
theorem str_beat : PyData.strOk "beat" = true := by decide +kernel
theorem str_times : PyData.strOk "times" = true := by decide +kernel
theorem okd_int (n : Nat) (i : Int) : okD n (.int i) = true := by cases n <;> rfl
theorem okd_str {x : Str} (h : PyData.strOk x = true) (n : Nat) : okD n (.str x) = true := by cases n <;> exact h
theorem okd_steps : ∀ (p : Plan) (n : Nat), 2 * dep p + 2 ≤ n → (stepsD p).all (okD n) = true
  | .nil, n, h => rfl
  | .beat c r, n, h => by
    obtain ⟨k, rfl⟩ : ∃ k, n = k + 2 := ⟨n - 2, by omega⟩
    have h1 := okd_steps r (k + 2) h
    have h2 : okD (k + 2) (.tup [.str "beat", callD c]) = true := by
      show ([D.str "beat", callD c].all (okD (k + 1))) = true
      simp only [List.all_cons, List.all_nil, Bool.and_true, okd_call k c, okd_str str_beat]
    simp only [stepsD, List.all_cons, h1, h2, Bool.and_self]
  | .times k p r, n, h => by
    simp only [dep] at h
    obtain ⟨j, rfl⟩ : ∃ j, n = j + 2 := ⟨n - 2, by omega⟩
    have h1 := okd_steps r (j + 2) (by omega)
    have h3 := okd_steps p j (by omega)
    have h2 : okD (j + 2) (.tup [.str "times", nD k, .tup (stepsD p)]) = true := by
      show ([D.str "times", nD k, .tup (stepsD p)].all (okD (j + 1))) = true
      have h4 : okD (j + 1) (.tup (stepsD p)) = true := h3
      simp only [List.all_cons, List.all_nil, Bool.and_true, h4, okd_str str_times, nD, okd_int]
    simp only [stepsD, List.all_cons, h1, h2, Bool.and_self]
theorem okd_plan (p : Plan) (n : Nat) (h : 2 * dep p + 3 ≤ n) : okD n (planD p) = true := by
  obtain ⟨j, rfl⟩ : ∃ j, n = j + 1 := ⟨n - 1, by omega⟩
  exact okd_steps p j (by omega)
theorem okd_step {p : Plan} {s : Sp} (hs : s ∈ steps p) (n : Nat) (h : 2 * dep p + 2 ≤ n) : okD n (stp s) = true := by
  have q := okd_steps p n h
  rw [stepsD_eq, List.all_eq_true] at q
  exact q _ (List.mem_map.mpr ⟨s, hs, rfl⟩)
section
variable {rs : List Nat} {ts : List Tc}
theorem is_call_ok (hF : FlOk rs ts) {c : List Nat} (h1 : c.Pairwise (· < ·)) (h2 : ∀ x ∈ c, x < ts.length) (hm : ts.length < 60) (dk : Option Dk) : F_is_call [floorD rs ts, callD c] dk = .ok (.bl true) dk := by
  have hl := asc_len h1 h2
  have e1 : lcE [2] (seqM (eVar 1)) (nmG 2) (lcB (okE true) (lcP (callE F_is_between [0, 1, 2] [] 3 (bCons (eVar 2) (bCons (eC (.int 0)) (bCons (op2 subD (bltE lenW (rCons (op2 getW (eVar 0) (eC (.int 1))) rNil)) (eC (.int 1))) bNil)))))) ⟨[.fz (floorD rs ts), .fz (callD c), .un], dk⟩
      = .ok (.fresh (.lst (c.map fun _ => .bl true))) ⟨[.fz (floorD rs ts), .fz (callD c), .un], dk⟩ := by
    refine lc_mapA (enc := nD) (s := .un) (seqM_ok (var_fz (i := 1) (d := callD c) rfl) rfl rfl) rfl rfl (fun x hx => ?_) (le_big (m := 60) (by omega) (by omega))
    have hx := h2 x hx
    have l1 : op2 subD (bltE lenW (rCons (op2 getW (eVar 0) (eC (.int 1))) rNil)) (eC (.int 1)) ⟨[.fz (floorD rs ts), .fz (callD c), .fz (nD x)], dk⟩ = .ok (.val (.int ((ts.length : Int) - 1))) ⟨[.fz (floorD rs ts), .fz (callD c), .fz (nD x)], dk⟩ := by
      refine op2_ok (w1 := .val (.int (ts.length : Nat))) (d1 := .int (ts.length : Nat)) (blt_ok (ds := [touchD ts]) (rc_cons (w := .val (touchD ts)) (op2_ok (var_fz (i := 0) (d := floorD rs ts) rfl) rfl rfl rfl rfl) rc_nil) rfl ?_) rfl rfl rfl rfl
      show some (W.val (.int ((ts.map tcD).length : Nat))) = _
      rw [List.length_map]
    refine call_ok (st1 := ⟨[.fz (floorD rs ts), .fz (callD c), .fz (nD x)], dk⟩) (bc_v (var_fz (i := 2) (d := nD x) rfl) (bc_v rfl (bc_v l1 bc_nil))) rfl rfl rfl ?_ rfl
    show F_is_between [.int (x : Int), .int 0, .int ((ts.length : Int) - 1)] dk = _
    rw [f_between _ _ _ _ (by omega), decide_eq_true (by omega)]
  have e2 : bltE allW (rCons (lcE [2] (seqM (eVar 1)) (nmG 2) (lcB (okE true) (lcP (callE F_is_between [0, 1, 2] [] 3 (bCons (eVar 2) (bCons (eC (.int 0)) (bCons (op2 subD (bltE lenW (rCons (op2 getW (eVar 0) (eC (.int 1))) rNil)) (eC (.int 1))) bNil))))))) rNil) ⟨[.fz (floorD rs ts), .fz (callD c), .un], dk⟩
      = .ok (.val (.bl true)) ⟨[.fz (floorD rs ts), .fz (callD c), .un], dk⟩ := by
    refine blt_ok (ds := [.lst (c.map fun _ => .bl true)]) (rc_cons e1 rc_nil) rfl ?_
    have e : (c.map fun _ => D.bl true) = (c.map nD).map fun _ => D.bl true := by rw [List.map_map]; rfl
    rw [e]
    exact all_true _
  have e3 : (c.map Int.ofNat).map D.int = c.map nD := by rw [List.map_map]; rfl
  have e4 : sortSetW [callD c] = some (.fresh (.lst (c.map nD))) := by
    show (match intsOf (c.map nD) with | some ns => if ns.length < 64 then some (W.fresh (.lst ((ascI ns).map .int))) else none | none => none) = _
    rw [ints_n]
    have : (c.map Int.ofNat).length < 64 := by rw [List.length_map]; omega
    simp only [if_pos this]
    have e7 : (c.map Int.ofNat).Pairwise (· < ·) := List.pairwise_map.mpr (h1.imp fun h => Int.ofNat_lt.mpr h)
    rw [ascI_self e7, e3]
  have e5 : op2 eqW (bltE listW (rCons (eVar 1) rNil)) (bltE sortSetW (rCons (eVar 1) rNil)) ⟨[.fz (floorD rs ts), .fz (callD c), .un], dk⟩ = .ok (.val (.bl true)) ⟨[.fz (floorD rs ts), .fz (callD c), .un], dk⟩ := by
    refine op2_ok (w1 := .fresh (.lst (c.map nD))) (d1 := .lst (c.map nD)) (blt_ok (ds := [callD c]) (rc_cons (var_fz (i := 1) rfl) rc_nil) rfl rfl) (blt_ok (ds := [callD c]) (rc_cons (var_fz (i := 1) rfl) rc_nil) rfl e4) rfl rfl ?_
    rw [cod_n.lst.eqW (by decide) c c, decide_eq_true rfl]
  refine run_ret (n := 3) (as := [floorD rs ts, callD c]) (b := M_is_call) (st' := ⟨[.fz (floorD rs ts), .fz (callD c), .un], dk⟩) (seq_ok (ifN_f (orT_f (not_t (isi_ok (var_fz (i := 1) rfl) rfl rfl) rfl) (not_t e2 rfl))) (ret_ok e5 rfl)) rfl
theorem ne_unit {s : Sp} (h : okD 64 (stp s) = true) : eqW (stp s) (.tup []) = some (.val (.bl false)) := by
  unfold Dl.eqW
  rw [if_pos ⟨h, rfl⟩]
  cases s with
  | inl c => rfl
  | inr x => rfl
theorem is_step_ok (hF : FlOk rs ts) {s : Sp} (ho : okD 64 (stp s) = true) (hm : ts.length < 60) (hc : ∀ c, s = .inl c → c.Pairwise (· < ·) ∧ ∀ x ∈ c, x < ts.length) (dk : Option Dk) : F_is_step [floorD rs ts, stp s] dk = .ok (.bl true) dk := by
  have v1 : (Stt.mk [.fz (floorD rs ts), .fz (stp s)] dk).ρ[1]? = some (.fz (stp s)) := rfl
  have t1 : eTst truthD (isiE "tuple" (eVar 1)) ⟨[.fz (floorD rs ts), .fz (stp s)], dk⟩ = .ok true ⟨[.fz (floorD rs ts), .fz (stp s)], dk⟩ :=
    tst_ok (w := .val (.bl true)) (isi_ok (var_fz v1) rfl (by cases s <;> rfl)) rfl rfl
  have t2 : eTst truthB (op2 eqW (eVar 1) (bindE aNil tupOf)) ⟨[.fz (floorD rs ts), .fz (stp s)], dk⟩ = .ok false ⟨[.fz (floorD rs ts), .fz (stp s)], dk⟩ :=
    tst_ok (op2_ok (var_fz v1) (tupM ac_nil (by decide)) rfl rfl (ne_unit ho)) rfl rfl
  have t3 : eTst truthD (isiE "str" (op2 getW (eVar 1) (eC (.int 0)))) ⟨[.fz (floorD rs ts), .fz (stp s)], dk⟩ = .ok true ⟨[.fz (floorD rs ts), .fz (stp s)], dk⟩ :=
    tst_ok (w := .val (.bl true)) (isi_ok (at0 v1) rfl (by cases s <;> rfl)) rfl rfl
  have t0 : orT (bindE (eTst truthD (isiE "tuple" (eVar 1))) fun b => okE (!b)) (orT (eTst truthB (op2 eqW (eVar 1) (bindE aNil tupOf))) (bindE (eTst truthD (isiE "str" (op2 getW (eVar 1) (eC (.int 0))))) fun b => okE (!b))) ⟨[.fz (floorD rs ts), .fz (stp s)], dk⟩ = .ok false ⟨[.fz (floorD rs ts), .fz (stp s)], dk⟩ :=
    orT_f (notT t1) (orT_f t2 (notT t3))
  refine run_ret (n := 2) (as := [floorD rs ts, stp s]) (b := M_is_step) (st' := ⟨[.fz (floorD rs ts), .fz (stp s)], dk⟩) (seq_ok (ifN_f t0) ?_) rfl
  cases s with
  | inl c =>
    obtain ⟨h1, h2⟩ := hc c rfl
    have l : op2 eqW (bltE lenW (rCons (eVar 1) rNil)) (eC (.int 2)) ⟨[.fz (floorD rs ts), .fz (stp (.inl c))], dk⟩ = .ok (.val (.bl true)) ⟨[.fz (floorD rs ts), .fz (stp (.inl c))], dk⟩ :=
      op2_ok (blt_ok (ds := [stp (.inl c)]) (rc_cons (var_fz v1) rc_nil) rfl rfl) rfl rfl rfl rfl
    have cl : callE F_is_call [0, 1] [] 2 (bCons (eVar 0) (bCons (op2 getW (eVar 1) (eC (.int 1))) bNil)) ⟨[.fz (floorD rs ts), .fz (stp (.inl c))], dk⟩ = .ok (.val (.bl true)) ⟨[.fz (floorD rs ts), .fz (stp (.inl c))], dk⟩ :=
      call_ok (bc_v (var_fz (i := 0) (d := floorD rs ts) rfl) (bc_v (at1c v1) bc_nil)) rfl rfl rfl (is_call_ok hF h1 h2 hm dk) rfl
    have r : ifS (eTst truthB (op2 eqW (op2 getW (eVar 1) (eC (.int 0))) (eC (.str "beat")))) (retS (andV (op2 eqW (bltE lenW (rCons (eVar 1) rNil)) (eC (.int 2))) (callE F_is_call [0, 1] [] 2 (bCons (eVar 0) (bCons (op2 getW (eVar 1) (eC (.int 1))) bNil))))) (okE .next) ⟨[.fz (floorD rs ts), .fz (stp (.inl c))], dk⟩ = .ok (.ret (.bl true)) ⟨[.fz (floorD rs ts), .fz (stp (.inl c))], dk⟩ :=
      if_t (tstB v1) (ret_ok (and_t l rfl cl) rfl)
    rw [s_seq, r]
  | inr x =>
    obtain ⟨k, q⟩ := x
    have l : op2 eqW (bltE lenW (rCons (eVar 1) rNil)) (eC (.int 3)) ⟨[.fz (floorD rs ts), .fz (stp (.inr (k, q)))], dk⟩ = .ok (.val (.bl true)) ⟨[.fz (floorD rs ts), .fz (stp (.inr (k, q)))], dk⟩ :=
      op2_ok (blt_ok (ds := [stp (.inr (k, q))]) (rc_cons (var_fz v1) rc_nil) rfl rfl) rfl rfl rfl rfl
    have tw : op2 eqW (op2 getW (eVar 1) (eC (.int 0))) (eC (.str "times")) ⟨[.fz (floorD rs ts), .fz (stp (.inr (k, q)))], dk⟩ = .ok (.val (.bl true)) ⟨[.fz (floorD rs ts), .fz (stp (.inr (k, q)))], dk⟩ :=
      op2_ok (at0 v1) rfl rfl rfl tt
    have cl : callE F_is_from [0, 1] [] 2 (bCons (op2 getW (eVar 1) (eC (.int 1))) (bCons (eC (.int 0)) bNil)) ⟨[.fz (floorD rs ts), .fz (stp (.inr (k, q)))], dk⟩ = .ok (.val (.bl true)) ⟨[.fz (floorD rs ts), .fz (stp (.inr (k, q)))], dk⟩ := by
      refine call_ok (st1 := ⟨[.fz (floorD rs ts), .fz (stp (.inr (k, q)))], dk⟩) (bc_v (at1k v1) (bc_v rfl bc_nil)) rfl rfl rfl ?_ rfl
      show F_is_from [.int (k : Int), .int 0] dk = _
      rw [f_from, decide_eq_true (by omega)]
    exact seq_ok (ifN_f (tstB v1)) (ret_ok (and_t tw rfl (and_t l rfl cl)) rfl)
/-! the loop of is_plan_value -/
def subs (p : Plan) : List Plan := (steps p).filterMap fun s => match s with
  | .inl _ => none
  | .inr (_, q) => some q
theorem subs_mem {p q : Plan} (h : q ∈ subs p) : ∃ k, .inr (k, q) ∈ steps p := by
  obtain ⟨s, hs, e⟩ := List.mem_filterMap.mp h
  cases s with
  | inl c => cases e
  | inr x =>
    obtain ⟨k, q'⟩ := x
    cases e
    exact ⟨k, hs⟩
theorem subs_nodes : ∀ p : Plan, ((subs p).map fun q => nodes q + 1).sum ≤ nodes p
  | .nil => Nat.le_refl _
  | .beat c r => by
    have h := subs_nodes r
    have e : subs (.beat c r) = subs r := by simp [subs, steps]
    rw [e]
    simp only [nodes]
    omega
  | .times k p r => by
    have h := subs_nodes r
    have e : subs (.times k p r) = p :: subs r := by simp [subs, steps]
    rw [e]
    simp only [nodes, List.map_cons, List.sum_cons]
    omega
structure Vp (m : Nat) (p : Plan) : Prop where
  c : OkC m p
  d : dep p ≤ 10
theorem Vp.sub {m : Nat} {p q : Plan} (h : Vp m p) (hq : q ∈ subs p) : Vp m q := by
  obtain ⟨k, hk⟩ := subs_mem hq
  obtain ⟨m1, _, _, _, _, _, m7⟩ := mem_sub hk
  exact ⟨m7 m h.c, by have := h.d; omega⟩
def wsum (ws : List Plan) : Nat := (ws.map fun q => nodes q + 1).sum
theorem wsum_len : ∀ ws : List Plan, ws.length ≤ wsum ws
  | [] => Nat.zero_le _
  | w :: ws => by have := wsum_len ws; simp only [wsum, List.map_cons, List.sum_cons, List.length_cons] at *; omega
theorem eq_wait (ws : List Plan) (h : ∀ w ∈ ws, dep w ≤ 10) : neW (.lst (ws.map planD)) (.lst []) = some (.val (.bl (!ws.isEmpty))) := by
  have ho : okD 64 (.lst (ws.map planD)) = true := by
    show (ws.map planD).all (okD 63) = true
    rw [List.all_eq_true]
    intro d hd
    obtain ⟨w, hw, rfl⟩ := List.mem_map.mp hd
    exact okd_plan w 63 (by have := h w hw; omega)
  unfold Dl.neW
  rw [if_pos ⟨ho, rfl⟩]
  cases ws with
  | nil => rfl
  | cons w ws => rfl
theorem checks (hF : FlOk rs ts) (hm : ts.length < 60) {p : Plan} (hv : Vp ts.length p) (hn : nodes p ≤ 5000) (wl : List D) (dk : Option Dk) (s4 : Slot) (h4 : notLv (some s4) = true) (a : Slot) :
    bltE allW (rCons (lcE [4] (seqM (eVar 3)) (nmG 4) (lcB (okE true) (lcP (callE F_is_step [0, 1] [] 2 (bCons (eVar 0) (bCons (eVar 4) bNil)))))) rNil) ⟨[.fz (floorD rs ts), a, .lv (.lst wl), .fz (planD p), s4], dk⟩ = .ok (.val (.bl true)) ⟨[.fz (floorD rs ts), a, .lv (.lst wl), .fz (planD p), s4], dk⟩ := by
  have hl := steps_len p
  have e1 : lcE [4] (seqM (eVar 3)) (nmG 4) (lcB (okE true) (lcP (callE F_is_step [0, 1] [] 2 (bCons (eVar 0) (bCons (eVar 4) bNil))))) ⟨[.fz (floorD rs ts), a, .lv (.lst wl), .fz (planD p), s4], dk⟩ = .ok (.fresh (.lst ((steps p).map fun _ => .bl true))) ⟨[.fz (floorD rs ts), a, .lv (.lst wl), .fz (planD p), s4], dk⟩ := by
    refine lc_mapA (enc := stp) (s := s4) (seqP (i := 3) rfl) rfl h4 (fun s hs => ?_) (le_big (m := 5000) (by omega) (by omega))
    refine call_ok (st1 := ⟨[.fz (floorD rs ts), a, .lv (.lst wl), .fz (planD p), .fz (stp s)], dk⟩) (bc_v (var_fz (i := 0) (d := floorD rs ts) rfl) (bc_v (var_fz (i := 4) (d := stp s) rfl) bc_nil)) rfl rfl rfl ?_ rfl
    exact is_step_ok hF (okd_step hs 64 (by have := hv.d; omega)) hm (fun c e => by subst e; exact (mem_call hs).2 _ hv.c) dk
  refine blt_ok (ds := [.lst ((steps p).map fun _ => .bl true)]) (rc_cons e1 rc_nil) rfl ?_
  have e : ((steps p).map fun _ => D.bl true) = ((steps p).map stp).map fun _ => D.bl true := by rw [List.map_map]; rfl
  rw [e]
  exact all_true _
theorem wsum_app (a b : List Plan) : wsum (a ++ b) = wsum a + wsum b := by simp [wsum]
abbrev wTest : Ev Bool := eTst truthB (op2 neW (eVar 2) (bindE aNil lstOf))
abbrev wBody : Ev Fl := seqS (setS 3 (methL popD (eVar 2) aNil))
    (seqS (ifS (orT (bindE (eTst truthD (isiE "tuple" (eVar 3))) fun b => okE (!b)) (bindE (eTst truthD (bltE allW (rCons (lcE [4] (seqM (eVar 3)) (nmG 4) (lcB (okE true) (lcP (callE F_is_step [0, 1] [] 2 (bCons (eVar 0) (bCons (eVar 4) bNil)))))) rNil))) fun b => okE (!b)))
    (retS (eC (.bl false)))
    (okE .next))
    (exprS (methL extD (eVar 2) (aCons (lcE [4] (seqM (eVar 3)) (nmG 4) (lcB (eTst truthB (op2 eqW (op2 getW (eVar 4) (eC (.int 0))) (eC (.str "times")))) (lcP (op2 getW (eVar 4) (eC (.int 2)))))) aNil))))
theorem subs_flat : ∀ l : List Sp, (l.flatMap fun s => match s with | .inl _ => ([] : List D) | .inr (_, q) => [planD q]) = (l.filterMap fun s => match s with
  | .inl _ => none
  | .inr (_, q) => some q).map planD
  | [] => rfl
  | .inl c :: l => by simp [subs_flat l]
  | .inr (k, q) :: l => by simp [subs_flat l]
theorem wStep (hF : FlOk rs ts) (hm : ts.length < 60) {pre : List Plan} {w : Plan} (hv : Vp ts.length w) (hs : wsum (pre ++ [w]) ≤ 5000) (dk : Option Dk) (a s3 s4 : Slot) (h4 : notLv (some s4) = true) :
    wBody ⟨[.fz (floorD rs ts), a, .lv (.lst ((pre ++ [w]).map planD)), s3, s4], dk⟩ = .ok .next ⟨[.fz (floorD rs ts), a, .lv (.lst ((pre ++ subs w).map planD)), .fz (planD w), s4], dk⟩ := by
  have eb : big = 16777216 := rfl
  rw [wsum_app] at hs
  have hn : nodes w ≤ 5000 := by
    have : wsum [w] = nodes w + 1 := by simp [wsum]
    omega
  have hl := steps_len w
  have pp : popD ((pre ++ [w]).map planD) [] = some (pre.map planD, planD w) := by
    show (((pre ++ [w]).map planD)[((pre ++ [w]).map planD).length - 1]?).map (fun d => (((pre ++ [w]).map planD).dropLast, d)) = _
    rw [List.map_append]
    simp
  have p1 : methL popD (eVar 2) aNil ⟨[.fz (floorD rs ts), a, .lv (.lst ((pre ++ [w]).map planD)), s3, s4], dk⟩ = .ok (.val (planD w)) ⟨[.fz (floorD rs ts), a, .lv (.lst (pre.map planD)), s3, s4], dk⟩ :=
    meth_ok (i := 2) (ds := (pre ++ [w]).map planD) (es := (pre ++ [w]).map planD) rfl ac_nil rfl pp
  have p2 : setS 3 (methL popD (eVar 2) aNil) ⟨[.fz (floorD rs ts), a, .lv (.lst ((pre ++ [w]).map planD)), s3, s4], dk⟩ = .ok .next ⟨[.fz (floorD rs ts), a, .lv (.lst (pre.map planD)), .fz (planD w), s4], dk⟩ := set_v p1
  have c1 := checks hF hm hv hn (pre.map planD) dk s4 h4 a
  have e1 : lcE [4] (seqM (eVar 3)) (nmG 4) (lcB (eTst truthB (op2 eqW (op2 getW (eVar 4) (eC (.int 0))) (eC (.str "times")))) (lcP (op2 getW (eVar 4) (eC (.int 2))))) ⟨[.fz (floorD rs ts), a, .lv (.lst (pre.map planD)), .fz (planD w), s4], dk⟩ = .ok (.fresh (.lst ((subs w).map planD))) ⟨[.fz (floorD rs ts), a, .lv (.lst (pre.map planD)), .fz (planD w), s4], dk⟩ := by
    have q := lc_A (enc := stp) (v := 4) (st := ⟨[.fz (floorD rs ts), a, .lv (.lst (pre.map planD)), .fz (planD w), s4], dk⟩) (b := lcB (eTst truthB (op2 eqW (op2 getW (eVar 4) (eC (.int 0))) (eC (.str "times")))) (lcP (op2 getW (eVar 4) (eC (.int 2))))) (s := s4) (l := steps w)
      (fun s => match s with | .inl _ => ([] : List D) | .inr (_, q) => [planD q]) (seqP (i := 3) rfl) rfl h4 (fun s hs acc hacc => by
        cases s with
        | inl c =>
          rw [lcB_ok (tstT (i := 4) (s := .inl c) rfl)]
          simp [isB]
        | inr x =>
          obtain ⟨k, q⟩ := x
          rw [lcB_ok (tstT (i := 4) (s := .inr (k, q)) rfl)]
          simp only [isB, Bool.not_false, if_true]
          exact lcP_ok (at2 (i := 4) (k := k) (q := q) rfl) rfl (by simp only [List.length_cons, List.length_nil] at hacc; omega)) (by
        rw [subs_flat, List.length_map]
        exact Nat.le_trans (List.length_filterMap_le _ _) (by omega))
    rw [subs_flat] at q
    exact q
  refine seq_ok p2 (seq_ok (ifN_f (orT_f (not_t (isi_ok (var_fz (i := 3) (d := planD w) rfl) rfl rfl) rfl) (not_t c1 rfl))) ?_)
  have q2 := extend_ok (i := 2) (st := ⟨[.fz (floorD rs ts), a, .lv (.lst (pre.map planD)), .fz (planD w), s4], dk⟩) (ds := pre.map planD) (es := pre.map planD) rfl e1 rfl (by
    have h1 := wsum_len pre
    have h2 : (subs w).length ≤ (steps w).length := List.length_filterMap_le _ _
    rw [List.length_map, List.length_map]
    omega)
  rw [q2, List.map_append]
  rfl
theorem wLoop (hF : FlOk rs ts) (hm : ts.length < 60) (dk : Option Dk) (a : Slot) : ∀ (n : Nat) (ws : List Plan) (s3 s4 : Slot), wsum ws ≤ n → wsum ws ≤ 5000 → (∀ w ∈ ws, Vp ts.length w) → notLv (some s4) = true →
    ∃ s3' s4', whileN wTest wBody (n + 1) ⟨[.fz (floorD rs ts), a, .lv (.lst (ws.map planD)), s3, s4], dk⟩ = .ok .next ⟨[.fz (floorD rs ts), a, .lv (.lst []), s3', s4'], dk⟩ := by
  intro n
  induction n with
  | zero =>
    intro ws s3 s4 h _ hv _
    have hl := wsum_len ws
    have e : ws = [] := List.eq_nil_of_length_eq_zero (by omega)
    subst e
    exact ⟨s3, s4, wN_end (tst_ok (op2_ok (var_lv (i := 2) (d := .lst []) rfl) (lstM ac_nil (by decide)) rfl rfl (eq_wait [] (fun _ h => by cases h))) rfl rfl)⟩
  | succ n ih =>
    intro ws s3 s4 h h5 hv h4
    have t : wTest ⟨[.fz (floorD rs ts), a, .lv (.lst (ws.map planD)), s3, s4], dk⟩ = .ok (!ws.isEmpty) ⟨[.fz (floorD rs ts), a, .lv (.lst (ws.map planD)), s3, s4], dk⟩ :=
      tst_ok (op2_ok (var_lv (i := 2) (d := .lst (ws.map planD)) rfl) (lstM ac_nil (by decide)) rfl rfl (eq_wait ws fun w hw => (hv w hw).d)) rfl rfl
    rcases List.eq_nil_or_concat ws with rfl | ⟨pre, w, rfl⟩
    · exact ⟨s3, s4, wN_end t⟩
    · rw [List.concat_eq_append] at *
      have et : (!(pre ++ [w]).isEmpty) = true := by simp
      rw [et] at t
      have hw := hv w (by simp)
      rw [wN_go t (wStep hF hm hw h5 dk a s3 s4 h4)]
      have e1 : wsum (pre ++ subs w) + 1 ≤ wsum (pre ++ [w]) := by
        rw [wsum_app, wsum_app]
        have z1 : wsum [w] = nodes w + 1 := by simp [wsum]
        have z2 : wsum (subs w) ≤ nodes w := subs_nodes w
        omega
      exact ih (pre ++ subs w) (.fz (planD w)) s4 (by omega) (by omega) (fun x hx => by
        rcases List.mem_append.mp hx with hx | hx
        · exact hv x (by simp [hx])
        · exact hw.sub hx) h4
theorem is_plan_ok (hF : FlOk rs ts) (hm : ts.length < 60) {p : Plan} (hv : Vp ts.length p) (hn : nodes p ≤ 4000) (dk : Option Dk) : F_is_plan_value [floorD rs ts, planD p] dk = .ok (.bl true) dk := by
  have es : wsum [p] = nodes p + 1 := by simp [wsum]
  obtain ⟨s3, s4, h⟩ := wLoop hF hm dk (.fz (planD p)) (wsum [p]) [p] .un .un (Nat.le_refl _) (by omega) (fun w hw => by rw [List.mem_singleton.mp hw]; exact hv) rfl
  have hw := while_eq h (by intro z; cases z)
  exact run_ret (n := 5) (as := [floorD rs ts, planD p]) (b := M_is_plan_value) (st' := ⟨[.fz (floorD rs ts), .fz (planD p), .lv (.lst []), s3, s4], dk⟩) (seq_ok (st1 := ⟨[.fz (floorD rs ts), .fz (planD p), .lv (.lst [planD p]), .un, .un], dk⟩) (set_f (st1 := ⟨[.fz (floorD rs ts), .fz (planD p), .un, .un, .un], dk⟩) (lstM (ac_cons (var_fz (i := 1) (d := planD p) rfl) rfl ac_nil) (by show 1 ≤ big; decide))) (seq_ok hw (ret_ok rfl rfl))) rfl
theorem need_plan_ok (hF : FlOk rs ts) (hm : ts.length < 60) {p : Plan} (hv : Vp ts.length p) (hn : nodes p ≤ 4000) (dk : Option Dk) : F_need_plan [floorD rs ts, planD p] dk = .ok .non dk := by
  have c1 : callE F_need_floor [0] [] 1 (bCons (eVar 0) bNil) ⟨[.fz (floorD rs ts), .fz (planD p)], dk⟩ = .ok (.val .non) ⟨[.fz (floorD rs ts), .fz (planD p)], dk⟩ :=
    call_ok (bc_v (var_fz (i := 0) (d := floorD rs ts) rfl) bc_nil) rfl rfl rfl (f_need hF dk) rfl
  have c2 : callE F_is_plan_value [0, 1] [] 2 (bCons (eVar 0) (bCons (eVar 1) bNil)) ⟨[.fz (floorD rs ts), .fz (planD p)], dk⟩ = .ok (.val (.bl true)) ⟨[.fz (floorD rs ts), .fz (planD p)], dk⟩ :=
    call_ok (bc_v (var_fz (i := 0) (d := floorD rs ts) rfl) (bc_v (var_fz (i := 1) (d := planD p) rfl) bc_nil)) rfl rfl rfl (is_plan_ok hF hm hv hn dk) rfl
  exact run_non (n := 2) (as := [floorD rs ts, planD p]) (b := M_need_plan) (st' := ⟨[.fz (floorD rs ts), .fz (planD p)], dk⟩) (seq_ok (expr_ok c1) (ifN_f (not_t c2 rfl))) rfl
end
end Lk12

namespace Lk12
open L2 Dl PySem.Spec
open PySem hiding upTo
open PyProof.Rows hiding inR cutD
/-! ### maps of seats -/
structure Vm (n : Nat) (a : List Nat) : Prop where
  len : a.length = n
  lt : ∀ x ∈ a, x < n
def cmp (a b : List Nat) : List Nat := a.map fun x => b.getD x 0
def idn (n : Nat) : List Nat := List.range n
theorem idn_ok (n : Nat) : Vm n (idn n) := ⟨List.length_range, fun x hx => List.mem_range.mp hx⟩
section
variable {n : Nat} {a b c : List Nat}
theorem getD_mem {x : Nat} (h : x < b.length) : b.getD x 0 ∈ b := by
  rw [List.getD_eq_getElem?_getD, List.getElem?_eq_getElem h]
  exact List.getElem_mem h
theorem cmp_ok (ha : Vm n a) (hb : Vm n b) : Vm n (cmp a b) := by
  refine ⟨by rw [cmp, List.length_map, ha.len], fun x hx => ?_⟩
  obtain ⟨y, hy, rfl⟩ := List.mem_map.mp hx
  exact hb.lt _ (getD_mem (by rw [hb.len]; exact ha.lt y hy))
theorem cmp_getD (ha : Vm n a) {x : Nat} (hx : x < n) : (cmp a b).getD x 0 = b.getD (a.getD x 0) 0 := by
  unfold cmp
  have h : x < a.length := by rw [ha.len]; exact hx
  rw [List.getD_eq_getElem?_getD, List.getElem?_map, List.getElem?_eq_getElem h, List.getD_eq_getElem?_getD (l := a), List.getElem?_eq_getElem h]
  rfl
theorem cmp_assoc (ha : Vm n a) (hb : Vm n b) : cmp (cmp a b) c = cmp a (cmp b c) := by
  unfold cmp
  rw [List.map_map]
  refine List.map_congr_left fun x hx => ?_
  exact (cmp_getD (b := c) hb (ha.lt x hx)).symm
theorem cmp_id_left (ha : Vm n a) : cmp (idn n) a = a := by
  unfold cmp idn
  apply List.ext_getElem?
  intro i
  rw [List.getElem?_map]
  by_cases h : i < n
  · rw [List.getElem?_eq_getElem (by rw [List.length_range]; exact h), List.getElem_range, Option.map_some, List.getD_eq_getElem?_getD, List.getElem?_eq_getElem (by rw [ha.len]; exact h)]
    rfl
  · rw [List.getElem?_eq_none (by rw [List.length_range]; omega), List.getElem?_eq_none (by rw [ha.len]; omega)]
    rfl
theorem cmp_id_right (ha : Vm n a) : cmp a (idn n) = a := by
  unfold cmp idn
  conv => rhs; rw [← List.map_id a]
  refine List.map_congr_left fun x hx => ?_
  rw [List.getD_eq_getElem?_getD, List.getElem?_eq_getElem (by rw [List.length_range]; exact ha.lt x hx), List.getElem_range]
  rfl
def pw (n : Nat) (a : List Nat) : Nat → List Nat
  | 0 => idn n
  | k + 1 => cmp a (pw n a k)
theorem pw_ok (ha : Vm n a) : ∀ k : Nat, Vm n (pw n a k)
  | 0 => idn_ok n
  | k + 1 => cmp_ok ha (pw_ok ha k)
theorem pw_add (ha : Vm n a) (j : Nat) : ∀ k : Nat, cmp (pw n a k) (pw n a j) = pw n a (k + j)
  | 0 => by rw [Nat.zero_add]; exact cmp_id_left (pw_ok ha j)
  | k + 1 => by
    show cmp (cmp a (pw n a k)) (pw n a j) = _
    rw [cmp_assoc ha (pw_ok ha k), pw_add ha j k, Nat.succ_add]
    rfl
theorem pw_two (ha : Vm n a) : ∀ k : Nat, pw n (cmp a a) k = pw n a (2 * k)
  | 0 => rfl
  | k + 1 => by
    show cmp (cmp a a) (pw n (cmp a a) k) = _
    rw [pw_two ha k, cmp_assoc ha ha]
    have e : 2 * (k + 1) = 2 * k + 1 + 1 := by omega
    rw [e]
    rfl
end
/-! ### followed -/
def mapD (a : List Nat) : D := .lst (a.map nD)
theorem followed_ok {n : Nat} {a b : List Nat} (ha : Vm n a) (hb : Vm n b) (hn : n ≤ 1000) (dk : Option Dk) : F_followed [mapD a, mapD b] dk = .ok (mapD (cmp a b)) dk := by
  have eb : big = 16777216 := rfl
  have e : lcE [2] (seqM (eVar 0)) (nmG 2) (lcB (okE true) (lcP (op2 getW (eVar 1) (eVar 2)))) ⟨[.fz (mapD a), .fz (mapD b), .un], dk⟩ = .ok (.fresh (.lst (a.map fun x => nD (b.getD x 0)))) ⟨[.fz (mapD a), .fz (mapD b), .un], dk⟩ := by
    refine lc_mapA (enc := nD) (s := .un) (seqM_ok (var_fz (i := 0) (d := mapD a) rfl) rfl rfl) rfl rfl (fun x hx => ?_) (by rw [ha.len]; omega)
    refine op2_ok (var_fz (i := 1) (d := mapD b) rfl) (var_fz (i := 2) (d := nD x) rfl) rfl rfl (get_lst ?_)
    have hl : x < b.length := by rw [hb.len]; exact ha.lt x hx
    rw [List.getElem?_map, List.getD_eq_getElem?_getD, List.getElem?_eq_getElem hl]
    rfl
  have e2 : (a.map fun x => nD (b.getD x 0)) = (cmp a b).map nD := by
    unfold cmp
    rw [List.map_map]
    rfl
  rw [e2] at e
  exact run_ret (n := 3) (as := [mapD a, mapD b]) (b := M_followed) (ret_ok e rfl) rfl
/-- a slot that holds d, of this def's own or not -/
def Sl (s : Slot) (d : D) : Prop := s = .lv d ∨ s = .fz d
/-- x = followed(x, y) -/
theorem follow_set {n : Nat} {a b : List Nat} (ha : Vm n a) (hb : Vm n b) (hn : n ≤ 1000) {m : Ev W} {ρ : List Slot} {dk : Option Dk} {i : Nat} {s : Slot} (hi : ρ[i]? = some s) (hs : Sl s (mapD a))
    (hm : m ⟨ρ, dk⟩ = .ok (.val (mapD b)) ⟨ρ, dk⟩) : setS i (callE F_followed [0, 1] [] 2 (bCons (eVar i) (bCons m bNil))) ⟨ρ, dk⟩ = .ok .next ⟨ρ.set i (.fz (mapD (cmp a b))), dk⟩ := by
  have hF := followed_ok ha hb hn dk
  have nm : ¬ noMut (mapD (cmp a b)) = true := fun h => Bool.false_ne_true h
  rcases hs with rfl | rfl
  · have c := call_mut (F := F_followed) (n := 2) (perm := [0, 1]) (dfs := []) (st := ⟨ρ, dk⟩) (st1 := ⟨ρ, dk⟩) (ds := [mapD a, mapD b]) (bc_l (var_lv hi) (bc_v hm bc_nil)) rfl (by rw [s_ctC, s_cl]; simp only [hi]; rfl) rfl hF nm
    have e : (frzAll [W.live i, W.val (mapD b)] (⟨ρ, dk⟩ : Stt)) = ⟨ρ.set i (.fz (mapD a)), dk⟩ := by
      show frzW (frzW ⟨ρ, dk⟩ (.live i)) (.val (mapD b)) = _
      show frzW ⟨ρ, dk⟩ (.live i) = _
      unfold frzW
      simp only [hi]
      rfl
    rw [e] at c
    have q := set_v (i := i) c
    rw [q]
    show R.ok Fl.next (Stt.mk ((ρ.set i (.fz (mapD a))).set i (.fz (mapD (cmp a b)))) dk) = _
    rw [List.set_set]
  · have c := call_mut (F := F_followed) (n := 2) (perm := [0, 1]) (dfs := []) (st := ⟨ρ, dk⟩) (st1 := ⟨ρ, dk⟩) (ds := [mapD a, mapD b]) (bc_v (var_fz hi) (bc_v hm bc_nil)) rfl rfl rfl hF nm
    exact set_v (i := i) c
/-! ### map_power -/
theorem gt0 (m : Nat) : gtW (nD m) (.int 0) = some (.val (.bl (decide (0 < m)))) := gt_nat m
theorem odd_nat (k : Nat) : modD (nD k) (.int 2) = some (.val (nD (k % 2))) := by
  show (if (0 : Int) < 2 then some (W.val (.int ((k : Int) % 2))) else none) = _
  rw [if_pos (by decide)]
  rfl
theorem half_nat (k : Nat) : fdivD (nD k) (.int 2) = some (.val (nD (k / 2))) := by
  show (if divOk 2 = true then some (W.val (.int ((k : Int) / 2))) else none) = _
  rw [if_pos (divOk_small (by decide) (by decide))]
  rfl
abbrev pBody : Ev Fl := seqS (ifS (eTst truthB (op2 eqW (op2 modD (eVar 1) (eC (.int 2))) (eC (.int 1))))
    (setS 2 (callE F_followed [0, 1] [] 2 (bCons (eVar 2) (bCons (eVar 3) bNil))))
    (okE .next))
    (seqS (setS 3 (callE F_followed [0, 1] [] 2 (bCons (eVar 3) (bCons (eVar 3) bNil))))
    (setS 1 (op2 fdivD (eVar 1) (eC (.int 2)))))
theorem pow_loop {n : Nat} (hn : n ≤ 1000) (x : Slot) (dk : Option Dk) : ∀ (k : Nat) (f s : List Nat) (s2 : Slot), Vm n f → Vm n s → Sl s2 (mapD f) →
    ∃ (N : Nat) (s2' : Slot) (s' : List Nat), whileN (eTst truthB (op2 gtW (eVar 1) (eC (.int 0)))) pBody N ⟨[x, .fz (nD k), s2, .fz (mapD s)], dk⟩ = .ok .next ⟨[x, .fz (nD 0), s2', .fz (mapD s')], dk⟩ ∧ Sl s2' (mapD (cmp f (pw n s k))) := by
  intro k
  induction k using Nat.strongRecOn with
  | _ k ih =>
    intro f s s2 hf hs h2
    have t : eTst truthB (op2 gtW (eVar 1) (eC (.int 0))) ⟨[x, .fz (nD k), s2, .fz (mapD s)], dk⟩ = .ok (decide (0 < k)) ⟨[x, .fz (nD k), s2, .fz (mapD s)], dk⟩ :=
      tst_ok (op2_ok (var_fz (i := 1) (d := nD k) rfl) rfl rfl rfl (gt_nat k)) rfl rfl
    by_cases hk : 0 < k
    · rw [decide_eq_true hk] at t
      have o : eTst truthB (op2 eqW (op2 modD (eVar 1) (eC (.int 2))) (eC (.int 1))) ⟨[x, .fz (nD k), s2, .fz (mapD s)], dk⟩ = .ok (decide (k % 2 = 1)) ⟨[x, .fz (nD k), s2, .fz (mapD s)], dk⟩ :=
        tst_ok (w := .val (.bl (decide (k % 2 = 1)))) (op2_ok (d1 := nD (k % 2)) (d2 := nD 1) (op2_ok (var_fz (i := 1) (d := nD k) rfl) rfl rfl rfl (odd_nat k)) rfl rfl rfl (cod_n.eqW (by decide) _ _)) rfl rfl
      obtain ⟨f', s2', h1, hf', h2', hp⟩ : ∃ f' s2', ifS (eTst truthB (op2 eqW (op2 modD (eVar 1) (eC (.int 2))) (eC (.int 1)))) (setS 2 (callE F_followed [0, 1] [] 2 (bCons (eVar 2) (bCons (eVar 3) bNil)))) (okE .next) ⟨[x, .fz (nD k), s2, .fz (mapD s)], dk⟩
            = .ok .next ⟨[x, .fz (nD k), s2', .fz (mapD s)], dk⟩ ∧ Vm n f' ∧ Sl s2' (mapD f') ∧ cmp f' (pw n s (2 * (k / 2))) = cmp f (pw n s k) := by
        by_cases hod : k % 2 = 1
        · rw [decide_eq_true hod] at o
          refine ⟨cmp f s, .fz (mapD (cmp f s)), if_t o (follow_set hf hs hn (i := 2) rfl h2 (var_fz (i := 3) (d := mapD s) rfl)), cmp_ok hf hs, .inr rfl, ?_⟩
          rw [cmp_assoc hf hs]
          have e : k = 2 * (k / 2) + 1 := by omega
          conv => rhs; rw [e]
          rfl
        · rw [decide_eq_false hod] at o
          refine ⟨f, s2, ifN_f o, hf, h2, ?_⟩
          have e : 2 * (k / 2) = k := by omega
          rw [e]
      have b2 : setS 3 (callE F_followed [0, 1] [] 2 (bCons (eVar 3) (bCons (eVar 3) bNil))) ⟨[x, .fz (nD k), s2', .fz (mapD s)], dk⟩ = .ok .next ⟨[x, .fz (nD k), s2', .fz (mapD (cmp s s))], dk⟩ :=
        follow_set hs hs hn (i := 3) rfl (.inr rfl) (var_fz (i := 3) (d := mapD s) rfl)
      have b3 : setS 1 (op2 fdivD (eVar 1) (eC (.int 2))) ⟨[x, .fz (nD k), s2', .fz (mapD (cmp s s))], dk⟩ = .ok .next ⟨[x, .fz (nD (k / 2)), s2', .fz (mapD (cmp s s))], dk⟩ :=
        set_v (op2_ok (var_fz (i := 1) (d := nD k) rfl) rfl rfl rfl (half_nat k))
      have hb : pBody ⟨[x, .fz (nD k), s2, .fz (mapD s)], dk⟩ = .ok .next ⟨[x, .fz (nD (k / 2)), s2', .fz (mapD (cmp s s))], dk⟩ := seq_ok h1 (seq_ok b2 b3)
      obtain ⟨N, s3, s', h5, h6⟩ := ih (k / 2) (by omega) f' (cmp s s) s2' hf' (cmp_ok hs hs) h2'
      refine ⟨N + 1, s3, s', ?_, ?_⟩
      · rw [wN_go t hb]
        exact h5
      · rw [pw_two hs, hp] at h6
        exact h6
    · rw [decide_eq_false hk] at t
      have e : k = 0 := by omega
      subst e
      refine ⟨1, s2, s, wN_end t, ?_⟩
      show Sl s2 (mapD (cmp f (idn n)))
      rw [cmp_id_right hf]
      exact h2
theorem range_nD (n : Nat) : Dl.upTo 0 n = (idn n).map nD := upTo_nD n
theorem map_power_ok {n : Nat} (hn : n ≤ 1000) {a : List Nat} (ha : Vm n a) (k : Nat) (dk : Option Dk) : F_map_power [mapD a, nD k] dk = .ok (mapD (pw n a k)) dk := by
  have l0 : bltE lenW (rCons (eVar 0) rNil) ⟨[.fz (mapD a), .fz (nD k), .un, .un], dk⟩ = .ok (.val (.int (n : Nat))) ⟨[.fz (mapD a), .fz (nD k), .un, .un], dk⟩ := by
    have q := len_ok (ds := a.map nD) (var_fz (st := ⟨[.fz (mapD a), .fz (nD k), .un, .un], dk⟩) (i := 0) (d := mapD a) rfl) rfl
    rw [List.length_map, ha.len] at q
    exact q
  have p0 : parS [2, 3] (rCons (rgE false (bltE lenW (rCons (eVar 0) rNil))) (rCons (eVar 0) rNil)) ⟨[.fz (mapD a), .fz (nD k), .un, .un], dk⟩ = .ok .next ⟨[.fz (mapD a), .fz (nD k), .lv (mapD (idn n)), .fz (mapD a)], dk⟩ := by
    have r0 := rg_ok l0 rfl (by omega : n ≤ 1000000)
    rw [range_nD] at r0
    exact pars_ok (rc_cons r0 (rc_cons (var_fz (i := 0) (d := mapD a) rfl) rc_nil)) rfl rfl
  obtain ⟨N, s2, s', h1, h2⟩ := pow_loop hn (.fz (mapD a)) dk k (idn n) a (.lv (mapD (idn n))) (idn_ok n) ha (.inl rfl)
  rw [cmp_id_left (pw_ok ha k)] at h2
  have hw := while_eq h1 (by intro z; cases z)
  have r : ∃ st', retS (eVar 2) ⟨[.fz (mapD a), .fz (nD 0), s2, .fz (mapD s')], dk⟩ = .ok (.ret (mapD (pw n a k))) st' ∧ st'.dk = dk := by
    rcases h2 with rfl | rfl
    · exact ⟨_, ret_ok (var_lv (i := 2) (d := mapD (pw n a k)) rfl) rfl, rfl⟩
    · exact ⟨_, ret_ok (var_fz (i := 2) (d := mapD (pw n a k)) rfl) rfl, rfl⟩
  obtain ⟨st', r1, r2⟩ := r
  have q := run_ret (n := 4) (as := [mapD a, nD k]) (b := M_map_power) (st' := st') (seq_ok p0 (seq_ok hw r1)) rfl
  rw [r2] at q
  exact q
end Lk12

namespace Lk12
open L2 Dl PySem.Spec
open PySem hiding upTo
open PyProof.Rows hiding inR cutD
/-! ### seats; the map of a call -/
theorem lcL_G {α : Type} {enc : α → D} {vs : List Nat} {g : D → Stt → Option Stt} {b : List D → Ev (List D)} (P : Stt → Prop) (f : α → List D) : ∀ {l : List α}, (∀ a ∈ l, ∀ acc st, P st → acc.length + (f a).length ≤ big → ∃ st1 st2, g (enc a) (st.wipe vs) = some st1 ∧ b acc st1 = .ok (acc ++ f a) st2 ∧ P st2) →
    ∀ {acc : List D} {st : Stt}, P st → acc.length + (l.flatMap f).length ≤ big → ∃ st2, lcL vs g b (l.map enc) acc st = .ok (acc ++ l.flatMap f) st2 ∧ P st2
  | [], _, acc, st, p, _ => ⟨st, by simp [lcL, okE], p⟩
  | a :: l, h, acc, st, p, hl => by
    rw [List.flatMap_cons, List.length_append] at hl
    obtain ⟨st1, st2, h1, h2, h3⟩ := h a List.mem_cons_self acc st p (by omega)
    obtain ⟨st3, h4, h5⟩ := lcL_G P f (l := l) (fun x hx => h x (List.mem_cons_of_mem _ hx)) (acc := acc ++ f a) h3 (by rw [List.length_append]; omega)
    exact ⟨st3, by rw [List.map_cons, lcL_cons h1 h2, h4, List.flatMap_cons, List.append_assoc], h5⟩
section
variable {rs : List Nat} {ts : List Tc}
def seatN (rs : List Nat) (p : Pl) : Nat := (rs.take p.1).sum + p.2
theorem seat_lt {p : Pl} (h : p ∈ spots rs) : seatN rs p < rs.sum := by
  obtain ⟨j, hj, e⟩ := List.getElem_of_mem h
  have q : (spots rs)[j]? = some (p.1, p.2) := by rw [List.getElem?_eq_getElem hj, e]
  obtain ⟨n, _, _, h3⟩ := spots_get q
  rw [spots_len] at hj
  unfold seatN
  omega
theorem f_seatOf (p : Pl) (dk : Option Dk) : F_seat_of [ringsD rs, plD p] dk = .ok (nD (seatN rs p)) dk := by
  have sl : sliceE (eVar 0) oNone (oSome (op2 getW (eVar 1) (eC (.int 0)))) ⟨[.fz (ringsD rs), .fz (plD p)], dk⟩ = .ok (.val (.tup ((rs.take p.1).map nD))) ⟨[.fz (ringsD rs), .fz (plD p)], dk⟩ := by
    show R.ok (W.val (.tup (Dl.cutD (rs.map nD) none (some (p.1 : Int))))) _ = _
    rw [take_cut]
  have sm : sumAW [.tup ((rs.take p.1).map nD)] = some (.val (.int ((rs.take p.1).sum : Nat))) := by
    show (intsOf _).map _ = _
    rw [ints_n, Option.map_some, sum_n]
  exact run_ret (n := 2) (as := [ringsD rs, plD p]) (b := M_seat_of) (ret_ok (w := .val (nD (seatN rs p))) (op2_ok (blt_ok (ds := [.tup ((rs.take p.1).map nD)]) (rc_cons sl rc_nil) rfl sm) (d2 := nD p.2) rfl rfl rfl rfl) rfl) rfl
def stD (rs : List Nat) (t : Tc) : D := .tup [nD (seatN rs t.1), nD (seatN rs t.2)]
theorem seat_touches_ok (hF : FlOk rs ts) (dk : Option Dk) : F_seat_touches [floorD rs ts] dk = .ok (.lst (ts.map (stD rs))) dk := by
  have eb : big = 16777216 := rfl
  have hl := hF.len
  have c (t : Tc) (s1 s2 : Slot) (i : Nat) (p : Pl) (h : (⟨[.fz (floorD rs ts), s1, s2], dk⟩ : Stt).ρ[i]? = some (.fz (plD p))) : callE F_seat_of [0, 1] [] 2 (bCons (op2 getW (eVar 0) (eC (.int 0))) (bCons (eVar i) bNil)) ⟨[.fz (floorD rs ts), s1, s2], dk⟩ = .ok (.val (nD (seatN rs p))) ⟨[.fz (floorD rs ts), s1, s2], dk⟩ :=
    call_ok (st1 := ⟨[.fz (floorD rs ts), s1, s2], dk⟩) (bc_v (op2_ok (var_fz (i := 0) (d := floorD rs ts) rfl) rfl rfl rfl rfl) (bc_v (var_fz h) bc_nil)) rfl rfl rfl (f_seatOf p dk) rfl
  have ef : ∀ l : List Tc, l.flatMap (fun t => [stD rs t]) = l.map (stD rs) := fun l => by
    induction l with
    | nil => rfl
    | cons a l ih => rw [List.flatMap_cons, List.map_cons, List.singleton_append, ih]
  obtain ⟨st2, h1, s1, s2, rfl⟩ := lcL_G (enc := tcD) (vs := [1, 2]) (g := seqG 2 (consG (nmG 1) (consG (nmG 2) nilG))) (b := lcB (okE true) (lcP (bindE (aCons (callE F_seat_of [0, 1] [] 2 (bCons (op2 getW (eVar 0) (eC (.int 0))) (bCons (eVar 1) bNil))) (aCons (callE F_seat_of [0, 1] [] 2 (bCons (op2 getW (eVar 0) (eC (.int 0))) (bCons (eVar 2) bNil))) aNil)) tupOf)))
    (fun st => ∃ s1 s2, st = ⟨[.fz (floorD rs ts), s1, s2], dk⟩) (fun t => [stD rs t]) (l := ts) (by
      rintro t ht acc st ⟨s1, s2, rfl⟩ hacc
      simp only [List.length_cons, List.length_nil] at hacc
      refine ⟨⟨[.fz (floorD rs ts), .fz (plD t.1), .fz (plD t.2)], dk⟩, ⟨[.fz (floorD rs ts), .fz (plD t.1), .fz (plD t.2)], dk⟩, rfl, ?_, _, _, rfl⟩
      exact lcP_ok (tupM (ac_cons (c t _ _ 1 t.1 rfl) rfl (ac_cons (c t _ _ 2 t.2 rfl) rfl ac_nil)) (by show 2 ≤ big; omega)) rfl (by omega)) (acc := []) (st := ⟨[.fz (floorD rs ts), .un, .un], dk⟩) ⟨_, _, rfl⟩ (by rw [ef, List.length_map, List.length_nil]; omega)
  rw [ef, List.nil_append] at h1
  have e : lcE [1, 2] (seqM (op2 getW (eVar 0) (eC (.int 1)))) (seqG 2 (consG (nmG 1) (consG (nmG 2) nilG))) (lcB (okE true) (lcP (bindE (aCons (callE F_seat_of [0, 1] [] 2 (bCons (op2 getW (eVar 0) (eC (.int 0))) (bCons (eVar 1) bNil))) (aCons (callE F_seat_of [0, 1] [] 2 (bCons (op2 getW (eVar 0) (eC (.int 0))) (bCons (eVar 2) bNil))) aNil)) tupOf)))
      ⟨[.fz (floorD rs ts), .un, .un], dk⟩ = .ok (.fresh (.lst (ts.map (stD rs)))) ⟨[.fz (floorD rs ts), .un, .un], dk⟩ :=
    lcE_ok (seqM_ok (w := .val (touchD ts)) (op2_ok (var_fz (i := 0) (d := floorD rs ts) rfl) rfl rfl rfl rfl) rfl rfl) rfl h1
  exact run_ret (n := 3) (as := [floorD rs ts]) (b := M_seat_touches) (ret_ok e rfl) rfl
/-- the place one step on -/
def nxt (rs : List Nat) (p : Pl) : Pl := step (rs.getD p.1 0) p 1
theorem nxt_mem {p : Pl} (h : p ∈ spots rs) : nxt rs p ∈ spots rs := by
  obtain ⟨n, h1, h2, h3⟩ := spot_at h
  have e : rs.getD p.1 0 = n := by rw [List.getD_eq_getElem?_getD, h1]; rfl
  unfold nxt
  rw [e]
  exact spots_mem h1 (step_lt (by omega) p 1)
theorem f_place_behind1 {p : Pl} (h : p ∈ spots rs) (dk : Option Dk) : F_place_behind [ringsD rs, plD p, .int 1] dk = .ok (plD (nxt rs p)) dk := by
  obtain ⟨n, h1, h2, h3⟩ := spot_at h
  have e : rs.getD p.1 0 = n := by rw [List.getD_eq_getElem?_getD, h1]; rfl
  unfold nxt
  rw [e, step_D (by omega)]
  exact f_behind (plD p) (p.1 : Int) (p.2 : Int) 1 (n : Int) (rs.map nD) dk (at_rings h1) (by omega)
def nextSeats (rs : List Nat) : List Nat := (spots rs).map fun p => seatN rs (nxt rs p)
theorem nextSeats_ok : Vm rs.sum (nextSeats rs) := by
  refine ⟨by rw [nextSeats, List.length_map, spots_len], fun x hx => ?_⟩
  obtain ⟨p, hp, rfl⟩ := List.mem_map.mp hx
  exact seat_lt (nxt_mem hp)
theorem step_seats_ok (hs : rs.sum ≤ 1000) (dk : Option Dk) : F_step_seats [ringsD rs, .int 1] dk = .ok (mapD (nextSeats rs)) dk := by
  have eb : big = 16777216 := rfl
  have sm : seqM (callE F_places_of [0] [] 1 (bCons (eVar 0) bNil)) ⟨[.fz (ringsD rs), .fz (.int 1), .un], dk⟩ = .ok ((spots rs).map plD) ⟨[.fz (ringsD rs), .fz (.int 1), .un], dk⟩ :=
    seqM_ok (w := .val (.lst ((spots rs).map plD))) (call_mut (bc_v (var_fz (i := 0) (d := ringsD rs) rfl) bc_nil) rfl rfl rfl (f_placesOf hs dk) (fun h => Bool.false_ne_true h)) rfl rfl
  have e : lcE [2] (seqM (callE F_places_of [0] [] 1 (bCons (eVar 0) bNil))) (nmG 2) (lcB (okE true) (lcP (callE F_seat_of [0, 1] [] 2 (bCons (eVar 0) (bCons (callE F_place_behind [0, 1, 2] [] 3 (bCons (eVar 0) (bCons (eVar 2) (bCons (eVar 1) bNil)))) bNil))))) ⟨[.fz (ringsD rs), .fz (.int 1), .un], dk⟩
      = .ok (.fresh (.lst ((spots rs).map fun p => nD (seatN rs (nxt rs p))))) ⟨[.fz (ringsD rs), .fz (.int 1), .un], dk⟩ := by
    refine lc_mapA (enc := plD) (s := .un) sm rfl rfl (fun p hp => ?_) (by rw [spots_len]; omega)
    have c1 : callE F_place_behind [0, 1, 2] [] 3 (bCons (eVar 0) (bCons (eVar 2) (bCons (eVar 1) bNil))) ⟨[.fz (ringsD rs), .fz (.int 1), .fz (plD p)], dk⟩ = .ok (.val (plD (nxt rs p))) ⟨[.fz (ringsD rs), .fz (.int 1), .fz (plD p)], dk⟩ :=
      call_ok (bc_v (var_fz (i := 0) (d := ringsD rs) rfl) (bc_v (var_fz (i := 2) (d := plD p) rfl) (bc_v (var_fz (i := 1) (d := .int 1) rfl) bc_nil))) rfl rfl rfl (f_place_behind1 hp dk) rfl
    exact call_ok (st1 := ⟨[.fz (ringsD rs), .fz (.int 1), .fz (plD p)], dk⟩) (bc_v (var_fz (i := 0) (d := ringsD rs) rfl) (bc_v c1 bc_nil)) rfl rfl rfl (f_seatOf _ dk) rfl
  have e2 : ((spots rs).map fun p => nD (seatN rs (nxt rs p))) = (nextSeats rs).map nD := by
    unfold nextSeats
    rw [List.map_map]
    rfl
  rw [e2] at e
  exact run_ret (n := 3) (as := [ringsD rs, .int 1]) (b := M_step_seats) (ret_ok e rfl) rfl
/-! a dict of seats -/
def lookN : List Nat → List Nat → Nat → Option Nat
  | k :: ks, v :: vs, x => if k = x then some v else lookN ks vs x
  | _, _, _ => none
def replN : List Nat → List Nat → Nat → Nat → List Nat
  | k0 :: ks, v0 :: vs, k, v => (if k0 = k then v else v0) :: replN ks vs k v
  | _, vs, _, _ => vs
theorem eqd_nat (a b : Nat) : eqd (nD a) (nD b) = decide (a = b) := by
  show ((a : Int) == (b : Int)) = _
  by_cases h : a = b
  · subst h; simp
  · rw [decide_eq_false h]
    simp
    omega
theorem look_nat : ∀ (ks vs : List Nat) (x : Nat), lookL (ks.map nD) (vs.map nD) (nD x) = (lookN ks vs x).map nD
  | [], _, _ => by simp [lookL, lookN]
  | _ :: _, [], _ => by simp [lookL, lookN]
  | k :: ks, v :: vs, x => by
    simp only [List.map_cons, lookL, lookN, eqd_nat, decide_eq_true_eq]
    split
    · rfl
    · exact look_nat ks vs x
theorem repl_nat : ∀ (ks vs : List Nat) (k v : Nat), replL (ks.map nD) (vs.map nD) (nD k) (nD v) = (replN ks vs k v).map nD
  | [], _, _, _ => by simp [replL, replN]
  | _ :: _, [], _, _ => by simp [replL, replN]
  | k0 :: ks, v0 :: vs, k, v => by
    simp only [List.map_cons, replL, replN, eqd_nat, decide_eq_true_eq, repl_nat ks vs k v]
    split <;> rfl
theorem repl_mem : ∀ {ks vs : List Nat} {k v x : Nat}, x ∈ replN ks vs k v → x ∈ vs ∨ x = v
  | [], _, _, _, _, h => .inl (by simpa [replN] using h)
  | _ :: _, [], _, _, _, h => .inl (by simpa [replN] using h)
  | k0 :: ks, v0 :: vs, k, v, x, h => by
    rw [replN] at h
    rcases List.mem_cons.mp h with h | h
    · split at h
      · exact .inr h
      · exact .inl (h ▸ List.mem_cons_self)
    · exact (repl_mem h).imp (List.mem_cons_of_mem _) id
theorem look_mem : ∀ {ks vs : List Nat} {x y : Nat}, lookN ks vs x = some y → y ∈ vs
  | [], _, _, _, h => by simp [lookN] at h
  | _ :: _, [], _, _, h => by simp [lookN] at h
  | k :: ks, v :: vs, x, y, h => by
    rw [lookN] at h
    split at h
    · cases h; exact List.mem_cons_self
    · exact List.mem_cons_of_mem _ (look_mem h)
def putN (kv : List Nat × List Nat) (k v : Nat) : List Nat × List Nat := if (lookN kv.1 kv.2 k).isSome = true then (kv.1, replN kv.1 kv.2 k v) else (kv.1 ++ [k], kv.2 ++ [v])
def dN (kv : List Nat × List Nat) : D := .dct true (kv.1.map nD) (kv.2.map nD)
structure Kv (n m : Nat) (kv : List Nat × List Nat) : Prop where
  len : kv.1.length ≤ m
  lt : ∀ x ∈ kv.2, x < n
theorem putN_ok {n m : Nat} {kv : List Nat × List Nat} (h : Kv n m kv) {k v : Nat} (hv : v < n) : Kv n (m + 1) (putN kv k v) := by
  have := h.len
  unfold putN
  split
  · refine ⟨by show kv.1.length ≤ m + 1; omega, fun x hx => ?_⟩
    rcases repl_mem hx with hx | hx
    · exact h.lt x hx
    · exact hx ▸ hv
  · refine ⟨by show (kv.1 ++ [k]).length ≤ m + 1; rw [List.length_append, List.length_singleton]; omega, fun x hx => ?_⟩
    rcases List.mem_append.mp hx with hx | hx
    · exact h.lt x hx
    · rw [List.mem_singleton.mp hx]; exact hv
theorem put_nat {n m : Nat} {kv : List Nat × List Nat} (h : Kv n m kv) (hm : m < 1000000) (k v : Nat) : storeD (dN kv) (nD k) (nD v) = some (dN (putN kv k v)) := by
  have eb : big = 16777216 := rfl
  have hl := h.len
  have hk : isKey true (nD k) = true := rfl
  obtain ⟨ks, vs⟩ := kv
  have e : storeD (dN (ks, vs)) (nD k) (nD v) = some (.dct true (putL (ks.map nD) (vs.map nD) (nD k) (nD v)).1 (putL (ks.map nD) (vs.map nD) (nD k) (nD v)).2) := by
    show (if isKey true (nD k) = true ∧ (ks.map nD).length < big then _ else none) = _
    rw [if_pos ⟨hk, by rw [List.length_map]; simp only at hl; omega⟩]
  rw [e]
  unfold putL putN dN
  rw [look_nat, Option.isSome_map]
  split
  · rw [repl_nat]
  · rw [List.map_append, List.map_append]
    rfl
theorem store_at {st : Stt} {iv io ik : Nat} {v k n m : Nat} {kv : List Nat × List Nat} (hv : st.ρ[iv]? = some (.fz (nD v))) (ho : st.ρ[io]? = some (.lv (dN kv))) (hk : st.ρ[ik]? = some (.fz (nD k))) (h : Kv n m kv) (hm : m < 1000000) :
    storeS (eVar iv) (eVar io) (eVar ik) st = .ok .next (st.put io (.lv (dN (putN kv k v)))) := by
  unfold storeS
  rw [s_bind, var_fz hv]
  show bindE (keepW (.val (nD v))) _ st = _
  rw [s_bind]
  show bindE (eVar io) _ st = _
  rw [s_bind, var_lv ho]
  show bindE (eVar ik) _ st = _
  rw [s_bind, var_fz hk]
  show storeW (.live io) (.val (nD k)) (nD v) st = _
  simp only [storeW, s_cv, ho, put_nat h hm k v]
def swN (rs : List Nat) (ts : List Tc) : List Nat → List Nat × List Nat
  | [] => ([], [])
  | x :: l => match ts[x]? with
    | some t => putN (putN (swN rs ts l) (seatN rs t.1) (seatN rs t.2)) (seatN rs t.2) (seatN rs t.1)
    | none => swN rs ts l
theorem swN_ok (hF : FlOk rs ts) : ∀ l : List Nat, Kv rs.sum (2 * l.length) (swN rs ts l)
  | [] => ⟨Nat.le_refl _, fun x hx => by cases hx⟩
  | x :: l => by
    have ih := swN_ok hF l
    rw [swN]
    split
    · rename_i t ht
      have hm : t ∈ ts := List.mem_of_getElem? ht
      have h1 : t.1 ∈ spots rs := hF.tin _ (List.mem_flatMap.mpr ⟨t, hm, by simp⟩)
      have h2 : t.2 ∈ spots rs := hF.tin _ (List.mem_flatMap.mpr ⟨t, hm, by simp⟩)
      have q := putN_ok (k := seatN rs t.2) (putN_ok (k := seatN rs t.1) ih (seat_lt h2)) (seat_lt h1)
      exact ⟨by have := q.len; rw [List.length_cons]; omega, q.lt⟩
    · exact ⟨by have := ih.len; rw [List.length_cons]; omega, ih.lt⟩
/-- the map of a call -/
def cm (rs : List Nat) (ts : List Tc) (c : List Nat) : List Nat := (nextSeats rs).map fun x => (lookN (swN rs ts c.reverse).1 (swN rs ts c.reverse).2 x).getD x
theorem cm_ok (hF : FlOk rs ts) (c : List Nat) : Vm rs.sum (cm rs ts c) := by
  have hk := swN_ok hF c.reverse
  refine ⟨by rw [cm, List.length_map]; exact nextSeats_ok.len, fun x hx => ?_⟩
  obtain ⟨y, hy, rfl⟩ := List.mem_map.mp hx
  cases e : lookN (swN rs ts c.reverse).1 (swN rs ts c.reverse).2 y with
  | none => exact nextSeats_ok.lt y hy
  | some z => exact hk.lt z (look_mem e)
theorem call_map_ok (hF : FlOk rs ts) {c : List Nat} (hc : ∀ x ∈ c, x < ts.length) (hcl : c.length ≤ 1000) (dk : Option Dk) : F_call_map [floorD rs ts, callD c] dk = .ok (mapD (cm rs ts c)) dk := by
  have eb : big = 16777216 := rfl
  have hsum := hF.sum
  have c0 : callE F_seat_touches [0] [] 1 (bCons (eVar 0) bNil) ⟨[.fz (floorD rs ts), .fz (callD c), .un, .un, .un, .un, .un, .un], dk⟩ = .ok (.val (.lst (ts.map (stD rs)))) ⟨[.fz (floorD rs ts), .fz (callD c), .un, .un, .un, .un, .un, .un], dk⟩ :=
    call_mut (bc_v (var_fz (i := 0) (d := floorD rs ts) rfl) bc_nil) rfl rfl rfl (seat_touches_ok hF dk) (fun h => Bool.false_ne_true h)
  have p0 : parS [2, 3] (rCons newK (rCons (callE F_seat_touches [0] [] 1 (bCons (eVar 0) bNil)) rNil)) ⟨[.fz (floorD rs ts), .fz (callD c), .un, .un, .un, .un, .un, .un], dk⟩ = .ok .next ⟨[.fz (floorD rs ts), .fz (callD c), .lv (dN ([], [])), .fz (.lst (ts.map (stD rs))), .un, .un, .un, .un], dk⟩ :=
    pars_ok (rc_cons rfl (rc_cons c0 rc_nil)) rfl rfl
  obtain ⟨st', h1, s4, s5, s6, rfl⟩ := forA (enc := nD) (g := nmG 4) (b := seqS (asgS (op2 getW (eVar 3) (eVar 4)) (seqG 2 (consG (nmG 5) (consG (nmG 6) nilG))))
    (seqS (storeS (eVar 6) (eVar 2) (eVar 5))
    (storeS (eVar 5) (eVar 2) (eVar 6)))) (fun pre st => ∃ s4 s5 s6, st = ⟨[.fz (floorD rs ts), .fz (callD c), .lv (dN (swN rs ts pre.reverse)), .fz (.lst (ts.map (stD rs))), s4, s5, s6, .un], dk⟩) (l := c) (pre := [])
    (st := ⟨[.fz (floorD rs ts), .fz (callD c), .lv (dN ([], [])), .fz (.lst (ts.map (stD rs))), .un, .un, .un, .un], dk⟩) (by
      rintro pre x post st hpre ⟨s4, s5, s6, rfl⟩
      rw [List.nil_append] at hpre
      have hx : x < ts.length := hc x (by rw [hpre]; simp)
      have hpl : pre.length ≤ 1000 := by rw [hpre, List.length_append] at hcl; omega
      have hk := swN_ok hF pre.reverse
      rw [List.length_reverse] at hk
      have ht : ts[x]? = some ts[x] := List.getElem?_eq_getElem hx
      have hm : ts[x] ∈ ts := List.getElem_mem hx
      have h1 : (ts[x]).1 ∈ spots rs := hF.tin _ (List.mem_flatMap.mpr ⟨_, hm, by simp⟩)
      have h2 : (ts[x]).2 ∈ spots rs := hF.tin _ (List.mem_flatMap.mpr ⟨_, hm, by simp⟩)
      have g : op2 getW (eVar 3) (eVar 4) ⟨[.fz (floorD rs ts), .fz (callD c), .lv (dN (swN rs ts pre.reverse)), .fz (.lst (ts.map (stD rs))), .fz (nD x), s5, s6, .un], dk⟩ = .ok (.val (stD rs ts[x])) ⟨[.fz (floorD rs ts), .fz (callD c), .lv (dN (swN rs ts pre.reverse)), .fz (.lst (ts.map (stD rs))), .fz (nD x), s5, s6, .un], dk⟩ :=
        op2_ok (var_fz (i := 3) (d := .lst (ts.map (stD rs))) rfl) (var_fz (i := 4) (d := nD x) rfl) rfl rfl (get_lst (by rw [List.getElem?_map, ht]; rfl))
      have a1 : asgS (op2 getW (eVar 3) (eVar 4)) (seqG 2 (consG (nmG 5) (consG (nmG 6) nilG))) ⟨[.fz (floorD rs ts), .fz (callD c), .lv (dN (swN rs ts pre.reverse)), .fz (.lst (ts.map (stD rs))), .fz (nD x), s5, s6, .un], dk⟩
          = .ok .next ⟨[.fz (floorD rs ts), .fz (callD c), .lv (dN (swN rs ts pre.reverse)), .fz (.lst (ts.map (stD rs))), .fz (nD x), .fz (nD (seatN rs (ts[x]).1)), .fz (nD (seatN rs (ts[x]).2)), .un], dk⟩ := asg_ok g rfl rfl
      have a2 := store_at (st := ⟨[.fz (floorD rs ts), .fz (callD c), .lv (dN (swN rs ts pre.reverse)), .fz (.lst (ts.map (stD rs))), .fz (nD x), .fz (nD (seatN rs (ts[x]).1)), .fz (nD (seatN rs (ts[x]).2)), .un], dk⟩) (iv := 6) (io := 2) (ik := 5) rfl rfl rfl hk (by omega)
      have hk2 := putN_ok (k := seatN rs (ts[x]).1) hk (seat_lt h2)
      have a3 := store_at (st := ⟨[.fz (floorD rs ts), .fz (callD c), .lv (dN (putN (swN rs ts pre.reverse) (seatN rs (ts[x]).1) (seatN rs (ts[x]).2))), .fz (.lst (ts.map (stD rs))), .fz (nD x), .fz (nD (seatN rs (ts[x]).1)), .fz (nD (seatN rs (ts[x]).2)), .un], dk⟩) (iv := 5) (io := 2) (ik := 6) rfl rfl rfl hk2 (by omega)
      have e : swN rs ts (pre ++ [x]).reverse = putN (putN (swN rs ts pre.reverse) (seatN rs (ts[x]).1) (seatN rs (ts[x]).2)) (seatN rs (ts[x]).2) (seatN rs (ts[x]).1) := by
        rw [List.reverse_append]
        show swN rs ts (x :: pre.reverse) = _
        rw [swN, ht]
      refine ⟨_, _, rfl, seq_ok a1 (seq_ok a2 a3), .fz (nD x), .fz (nD (seatN rs (ts[x]).1)), .fz (nD (seatN rs (ts[x]).2)), ?_⟩
      rw [e]
      rfl) ⟨_, _, _, rfl⟩
  rw [List.nil_append] at h1
  have ss : seqM (callE F_step_seats [0, 1] [.int 1] 1 (bCons (op2 getW (eVar 0) (eC (.int 0))) bNil)) ⟨[.fz (floorD rs ts), .fz (callD c), .lv (dN (swN rs ts c.reverse)), .fz (.lst (ts.map (stD rs))), s4, s5, s6, .un], dk⟩ = .ok ((nextSeats rs).map nD) ⟨[.fz (floorD rs ts), .fz (callD c), .lv (dN (swN rs ts c.reverse)), .fz (.lst (ts.map (stD rs))), s4, s5, s6, .un], dk⟩ :=
    seqM_ok (w := .val (mapD (nextSeats rs))) (call_mut (bc_v (op2_ok (var_fz (i := 0) (d := floorD rs ts) rfl) rfl rfl rfl rfl) bc_nil) rfl rfl rfl (step_seats_ok (by omega) dk) (fun h => Bool.false_ne_true h)) rfl rfl
  have e : lcE [7] (seqM (callE F_step_seats [0, 1] [.int 1] 1 (bCons (op2 getW (eVar 0) (eC (.int 0))) bNil))) (nmG 7) (lcB (okE true) (lcP (getD2 (eVar 2) (eVar 7) (eVar 7)))) ⟨[.fz (floorD rs ts), .fz (callD c), .lv (dN (swN rs ts c.reverse)), .fz (.lst (ts.map (stD rs))), s4, s5, s6, .un], dk⟩
      = .ok (.fresh (.lst ((nextSeats rs).map fun x => nD ((lookN (swN rs ts c.reverse).1 (swN rs ts c.reverse).2 x).getD x)))) ⟨[.fz (floorD rs ts), .fz (callD c), .lv (dN (swN rs ts c.reverse)), .fz (.lst (ts.map (stD rs))), s4, s5, s6, .un], dk⟩ := by
    refine lc_mapA (enc := nD) (s := .un) ss rfl rfl (fun x hx => ?_) (by rw [nextSeats_ok.len]; omega)
    have q : getD2 (eVar 2) (eVar 7) (eVar 7) ⟨[.fz (floorD rs ts), .fz (callD c), .lv (dN (swN rs ts c.reverse)), .fz (.lst (ts.map (stD rs))), s4, s5, s6, .fz (nD x)], dk⟩
      = .ok (.val ((lookL ((swN rs ts c.reverse).1.map nD) ((swN rs ts c.reverse).2.map nD) (nD x)).getD (nD x))) ⟨[.fz (floorD rs ts), .fz (callD c), .lv (dN (swN rs ts c.reverse)), .fz (.lst (ts.map (stD rs))), s4, s5, s6, .fz (nD x)], dk⟩ := rfl
    refine q.trans ?_
    rw [look_nat]
    cases lookN (swN rs ts c.reverse).1 (swN rs ts c.reverse).2 x <;> rfl
  have e2 : ((nextSeats rs).map fun x => nD ((lookN (swN rs ts c.reverse).1 (swN rs ts c.reverse).2 x).getD x)) = (cm rs ts c).map nD := by
    unfold cm
    rw [List.map_map]
    rfl
  rw [e2] at e
  exact run_ret (n := 8) (as := [floorD rs ts, callD c]) (b := M_call_map) (seq_ok p0 (seq_ok (for_ok (seqM_ok (var_fz (i := 1) (d := callD c) rfl) rfl rfl) h1) (ret_ok e rfl))) rfl
end
end Lk12

namespace Lk12
open L2 Dl PySem.Spec
open PySem hiding upTo
open PyProof.Rows hiding inR cutD
/-! ### the map of a plan -/
section
variable {rs : List Nat} {ts : List Tc}
def mapP (rs : List Nat) (ts : List Tc) : Plan → List Nat
  | .nil => idn rs.sum
  | .beat c r => cmp (cm rs ts c) (mapP rs ts r)
  | .times k q r => cmp (pw rs.sum (mapP rs ts q) k) (mapP rs ts r)
def sm (rs : List Nat) (ts : List Tc) : Sp → List Nat
  | .inl c => cm rs ts c
  | .inr (k, q) => pw rs.sum (mapP rs ts q) k
def mapS (rs : List Nat) (ts : List Tc) : List Sp → List Nat
  | [] => idn rs.sum
  | s :: l => cmp (sm rs ts s) (mapS rs ts l)
theorem mapP_eq : ∀ p : Plan, mapP rs ts p = mapS rs ts (steps p)
  | .nil => rfl
  | .beat c r => by
    show cmp _ (mapP rs ts r) = _
    rw [mapP_eq r]
    rfl
  | .times k q r => by
    show cmp _ (mapP rs ts r) = _
    rw [mapP_eq r]
    rfl
theorem mapP_ok (hF : FlOk rs ts) : ∀ p : Plan, Vm rs.sum (mapP rs ts p)
  | .nil => idn_ok _
  | .beat c r => cmp_ok (cm_ok hF c) (mapP_ok hF r)
  | .times k q r => cmp_ok (pw_ok (mapP_ok hF q) k) (mapP_ok hF r)
theorem sm_ok (hF : FlOk rs ts) (s : Sp) : Vm rs.sum (sm rs ts s) := by
  cases s with
  | inl c => exact cm_ok hF c
  | inr x => exact pw_ok (mapP_ok hF x.2) x.1
theorem mapS_ok (hF : FlOk rs ts) : ∀ l : List Sp, Vm rs.sum (mapS rs ts l)
  | [] => idn_ok _
  | s :: l => cmp_ok (sm_ok hF s) (mapS_ok hF l)
theorem mapS_app (hF : FlOk rs ts) (m : List Sp) : ∀ l : List Sp, mapS rs ts (l ++ m) = cmp (mapS rs ts l) (mapS rs ts m)
  | [] => (cmp_id_left (mapS_ok hF m)).symm
  | s :: l => by
    show cmp (sm rs ts s) (mapS rs ts (l ++ m)) = cmp (cmp (sm rs ts s) (mapS rs ts l)) (mapS rs ts m)
    rw [mapS_app hF m l, cmp_assoc (sm_ok hF s) (mapS_ok hF l)]
theorem mapS_snoc (hF : FlOk rs ts) (l : List Sp) (s : Sp) : mapS rs ts (l ++ [s]) = cmp (mapS rs ts l) (sm rs ts s) := by
  rw [mapS_app hF]
  show cmp _ (cmp (sm rs ts s) (idn _)) = _
  rw [cmp_id_right (sm_ok hF s)]
theorem call_len {c : List Nat} (hF : FlOk rs ts) (h1 : c.Pairwise (· < ·)) (h2 : ∀ x ∈ c, x < ts.length) : c.length ≤ 20 := Nat.le_trans (asc_len h1 h2) hF.len
theorem map_of_ok (hF : FlOk rs ts) : ∀ (N : Nat) (p : Plan) (dk : Option Dk), 2 * dep p + 2 ≤ N → OkC ts.length p → nodes p ≤ 5000 → F_map_of N [floorD rs ts, planD p] dk = .ok (mapD (mapP rs ts p)) dk := by
  intro N
  induction N using Nat.strongRecOn with
  | _ N ih =>
    intro p dk hN hc hn
    have eb : big = 16777216 := rfl
    have hsum := hF.sum
    obtain ⟨M, rfl⟩ : ∃ M, N = M + 2 := ⟨N - 2, by omega⟩
    have hl := steps_len p
    have s1 : bltE sumAW (rCons (op2 getW (eVar 0) (eC (.int 0))) rNil) ⟨[.fz (floorD rs ts), .fz (planD p), .un, .un], dk⟩ = .ok (.val (.int (rs.sum : Nat))) ⟨[.fz (floorD rs ts), .fz (planD p), .un, .un], dk⟩ := by
      refine blt_ok (ds := [ringsD rs]) (rc_cons (w := .val (ringsD rs)) (op2_ok (var_fz (i := 0) (d := floorD rs ts) rfl) rfl rfl rfl rfl) rc_nil) rfl ?_
      show (intsOf (rs.map nD)).map _ = _
      rw [ints_n, Option.map_some, sum_n]
    have r0 := rg_ok s1 rfl (by omega : rs.sum ≤ 1000000)
    rw [range_nD] at r0
    have p0 : setS 2 (rgE false (bltE sumAW (rCons (op2 getW (eVar 0) (eC (.int 0))) rNil))) ⟨[.fz (floorD rs ts), .fz (planD p), .un, .un], dk⟩ = .ok .next ⟨[.fz (floorD rs ts), .fz (planD p), .lv (mapD (idn rs.sum)), .un], dk⟩ := set_f r0
    obtain ⟨st', h1, s2, s3, rfl, h2⟩ := forA (enc := stp) (g := nmG 3) (b := setS 2 (callE F_followed [0, 1] [] 2 (bCons (eVar 2) (bCons (callE (F_step_map (M + 1)) [0, 1] [] 2 (bCons (eVar 0) (bCons (eVar 3) bNil))) bNil))))
      (fun pre st => ∃ s2 s3, st = ⟨[.fz (floorD rs ts), .fz (planD p), s2, s3], dk⟩ ∧ Sl s2 (mapD (mapS rs ts pre))) (l := steps p) (pre := []) (st := ⟨[.fz (floorD rs ts), .fz (planD p), .lv (mapD (idn rs.sum)), .un], dk⟩) (by
        rintro pre a post st hpre ⟨s2, s3, rfl, hs⟩
        rw [List.nil_append] at hpre
        have hm : a ∈ steps p := by rw [hpre]; simp
        have sf : F_step_map (M + 1) [floorD rs ts, stp a] dk = .ok (mapD (sm rs ts a)) dk := by
          have v1 : (Stt.mk [.fz (floorD rs ts), .fz (stp a)] dk).ρ[1]? = some (.fz (stp a)) := rfl
          cases a with
          | inl c =>
            obtain ⟨c1, c2⟩ := (mem_call hm).2 _ hc
            have cl : callE F_call_map [0, 1] [] 2 (bCons (eVar 0) (bCons (op2 getW (eVar 1) (eC (.int 1))) bNil)) ⟨[.fz (floorD rs ts), .fz (stp (.inl c))], dk⟩ = .ok (.val (mapD (cm rs ts c))) ⟨[.fz (floorD rs ts), .fz (stp (.inl c))], dk⟩ :=
              call_mut (bc_v (var_fz (i := 0) (d := floorD rs ts) rfl) (bc_v (at1c v1) bc_nil)) rfl rfl rfl (call_map_ok hF c2 (by have := call_len hF c1 c2; omega) dk) (fun h => Bool.false_ne_true h)
            exact run_ret (n := 2) (as := [floorD rs ts, stp (.inl c)]) (b := M_step_map (F_map_of M)) (ret_ok (ifE_t (tstB v1) cl) rfl) rfl
          | inr x =>
            obtain ⟨k, q⟩ := x
            obtain ⟨m1, m2, m3, m4, m5, m6, m7⟩ := mem_sub hm
            have hq := ih M (by omega) q dk (by omega) (m7 _ hc) (by omega)
            have cq : callE (F_map_of M) [0, 1] [] 2 (bCons (eVar 0) (bCons (op2 getW (eVar 1) (eC (.int 2))) bNil)) ⟨[.fz (floorD rs ts), .fz (stp (.inr (k, q)))], dk⟩ = .ok (.val (mapD (mapP rs ts q))) ⟨[.fz (floorD rs ts), .fz (stp (.inr (k, q)))], dk⟩ :=
              call_mut (bc_v (var_fz (i := 0) (d := floorD rs ts) rfl) (bc_v (at2 v1) bc_nil)) rfl rfl rfl hq (fun h => Bool.false_ne_true h)
            have cl : callE F_map_power [0, 1] [] 2 (bCons (callE (F_map_of M) [0, 1] [] 2 (bCons (eVar 0) (bCons (op2 getW (eVar 1) (eC (.int 2))) bNil))) (bCons (op2 getW (eVar 1) (eC (.int 1))) bNil)) ⟨[.fz (floorD rs ts), .fz (stp (.inr (k, q)))], dk⟩ = .ok (.val (mapD (pw rs.sum (mapP rs ts q) k))) ⟨[.fz (floorD rs ts), .fz (stp (.inr (k, q)))], dk⟩ :=
              call_mut (bc_v cq (bc_v (at1k v1) bc_nil)) rfl rfl rfl (map_power_ok (by omega) (mapP_ok hF q) k dk) (fun h => Bool.false_ne_true h)
            exact run_ret (n := 2) (as := [floorD rs ts, stp (.inr (k, q))]) (b := M_step_map (F_map_of M)) (ret_ok (ifE_f (tstB v1) cl) rfl) rfl
        have c3 : callE (F_step_map (M + 1)) [0, 1] [] 2 (bCons (eVar 0) (bCons (eVar 3) bNil)) ⟨[.fz (floorD rs ts), .fz (planD p), s2, .fz (stp a)], dk⟩ = .ok (.val (mapD (sm rs ts a))) ⟨[.fz (floorD rs ts), .fz (planD p), s2, .fz (stp a)], dk⟩ :=
          call_mut (bc_v (var_fz (i := 0) (d := floorD rs ts) rfl) (bc_v (var_fz (i := 3) (d := stp a) rfl) bc_nil)) rfl rfl rfl sf (fun h => Bool.false_ne_true h)
        have q := follow_set (mapS_ok hF pre) (sm_ok hF a) (by omega) (ρ := [.fz (floorD rs ts), .fz (planD p), s2, .fz (stp a)]) (dk := dk) (i := 2) rfl hs c3
        rw [← mapS_snoc hF] at q
        exact ⟨_, _, rfl, q, .fz (mapD (mapS rs ts (pre ++ [a]))), .fz (stp a), rfl, .inr rfl⟩) ⟨_, _, rfl, .inl rfl⟩
    rw [List.nil_append, ← mapP_eq] at h2
    have r : ∃ st', retS (eVar 2) ⟨[.fz (floorD rs ts), .fz (planD p), s2, s3], dk⟩ = .ok (.ret (mapD (mapP rs ts p))) st' ∧ st'.dk = dk := by
      rcases h2 with rfl | rfl
      · exact ⟨_, ret_ok (var_lv (i := 2) (d := mapD (mapP rs ts p)) rfl) rfl, rfl⟩
      · exact ⟨_, ret_ok (var_fz (i := 2) (d := mapD (mapP rs ts p)) rfl) rfl, rfl⟩
    obtain ⟨st', r1, r2⟩ := r
    have q := run_ret (n := 4) (as := [floorD rs ts, planD p]) (b := M_map_of (F_step_map (M + 1))) (st' := st') (seq_ok p0 (seq_ok (for_ok (seqP (i := 1) rfl) h1) r1)) rfl
    rw [r2] at q
    exact q
/-- the calls of a plan, one behind the other, lead as the plan does -/
theorem map_calls (hF : FlOk rs ts) : ∀ p : Plan, mapP rs ts (ofCalls (calls p)) = mapP rs ts p := by
  have app : ∀ a b : List (List Nat), mapP rs ts (ofCalls (a ++ b)) = cmp (mapP rs ts (ofCalls a)) (mapP rs ts (ofCalls b)) := fun a => by
    induction a with
    | nil => intro b; exact (cmp_id_left (mapP_ok hF _)).symm
    | cons c a ih =>
      intro b
      show cmp (cm rs ts c) (mapP rs ts (ofCalls (a ++ b))) = cmp (cmp (cm rs ts c) (mapP rs ts (ofCalls a))) _
      rw [ih b, cmp_assoc (cm_ok hF c) (mapP_ok hF _)]
  have rep : ∀ (l : List (List Nat)) (k : Nat), mapP rs ts (ofCalls (List.replicate k l).flatten) = pw rs.sum (mapP rs ts (ofCalls l)) k := fun l k => by
    induction k with
    | zero => rfl
    | succ k ih =>
      rw [List.replicate_succ, List.flatten_cons, app, ih]
      rfl
  intro p
  induction p with
  | nil => rfl
  | beat c r ih =>
    show cmp (cm rs ts c) (mapP rs ts (ofCalls (calls r))) = cmp (cm rs ts c) (mapP rs ts r)
    rw [ih]
  | times k q r ih1 ih2 =>
    show mapP rs ts (ofCalls ((List.replicate k (calls q)).flatten ++ calls r)) = cmp (pw rs.sum (mapP rs ts q) k) (mapP rs ts r)
    rw [app, rep, ih1, ih2]
end
end Lk12

namespace Lk12
open L2 Dl PySem.Spec
open PySem hiding upTo
open PyProof.Rows hiding inR cutD
/-! ### what the law asks of one plan -/
section
variable {rs : List Nat} {ts : List Tc} {p : Plan}
structure Good (ts : List Tc) (p : Plan) : Prop where
  c : OkC ts.length p
  d : dep p ≤ 5
  n : nodes p ≤ 3000
  w : Wt p < 2 ^ 380
theorem Good.vp (g : Good ts p) : Vp ts.length p := ⟨g.c, by have := g.d; omega⟩
theorem two380 : (2 : Nat) ^ 380 < 2 ^ 389 := by decide +kernel
theorem two389 : (2 : Nat) ^ 389 < 2 ^ 390 := by decide +kernel
theorem Good.w389 (g : Good ts p) : Wt p < 2 ^ 389 := Nat.lt_trans g.w two380
theorem Good.w390 (g : Good ts p) : Wt p < 2 ^ 390 := Nat.lt_trans g.w389 two389
theorem small (hF : FlOk rs ts) : ts.length < 60 := by have := hF.len; omega
abbrev s2 (rs : List Nat) (ts : List Tc) (p : Plan) (dk : Option Dk) : Stt := ⟨[.fz (floorD rs ts), .fz (planD p)], dk⟩
theorem need_c (hF : FlOk rs ts) (g : Good ts p) (dk : Option Dk) : callE F_need_plan [0, 1] [] 2 (bCons (eVar 0) (bCons (eVar 1) bNil)) (s2 rs ts p dk) = .ok (.val .non) (s2 rs ts p dk) :=
  call_ok (st1 := s2 rs ts p dk) (bc_v (var_fz (i := 0) (d := floorD rs ts) rfl) (bc_v (var_fz (i := 1) (d := planD p) rfl) bc_nil)) rfl rfl rfl (need_plan_ok hF (small hF) g.vp (by have := g.n; omega) dk) rfl
theorem beats_c (g : Good ts p) (dk : Option Dk) : callE (F_beats_in 12) [0] [] 1 (bCons (eVar 1) bNil) (s2 rs ts p dk) = .ok (.val (nD (beats p))) (s2 rs ts p dk) :=
  call_ok (st1 := s2 rs ts p dk) (bc_v (var_fz (i := 1) (d := planD p) rfl) bc_nil) rfl rfl rfl (beats_in_ok 12 p dk (by have := g.d; omega) (by have := g.n; omega) g.w390) rfl
theorem beats_of_ok (hF : FlOk rs ts) (g : Good ts p) (dk : Option Dk) : F_beats_of [floorD rs ts, planD p] dk = .ok (nD (beats p)) dk :=
  run_ret (n := 2) (as := [floorD rs ts, planD p]) (b := M_beats_of) (st' := s2 rs ts p dk) (seq_ok (expr_ok (need_c hF g dk)) (ret_ok (beats_c g dk) rfl)) rfl
theorem changes_of_ok (hF : FlOk rs ts) (g : Good ts p) (dk : Option Dk) : F_changes_of [floorD rs ts, planD p] dk = .ok (nD (changes p)) dk :=
  run_ret (n := 2) (as := [floorD rs ts, planD p]) (b := M_changes_of) (st' := s2 rs ts p dk) (seq_ok (expr_ok (need_c hF g dk)) (ret_ok (call_ok (st1 := s2 rs ts p dk) (bc_v (var_fz (i := 1) (d := planD p) rfl) bc_nil) rfl rfl rfl (changes_in_ok 12 p dk (by have := g.d; omega) (by have := g.n; omega) g.w390) rfl) rfl)) rfl
theorem plan_map_ok (hF : FlOk rs ts) (g : Good ts p) (dk : Option Dk) : F_plan_map [floorD rs ts, planD p] dk = .ok (.tup ((mapP rs ts p).map nD)) dk := by
  have c : callE (F_map_of 12) [0, 1] [] 2 (bCons (eVar 0) (bCons (eVar 1) bNil)) (s2 rs ts p dk) = .ok (.val (mapD (mapP rs ts p))) (s2 rs ts p dk) :=
    call_mut (bc_v (var_fz (i := 0) (d := floorD rs ts) rfl) (bc_v (var_fz (i := 1) (d := planD p) rfl) bc_nil)) rfl rfl rfl (map_of_ok hF 12 p dk (by have := g.d; omega) g.c (by have := g.n; omega)) (fun h => Bool.false_ne_true h)
  exact run_ret (n := 2) (as := [floorD rs ts, planD p]) (b := M_plan_map) (st' := s2 rs ts p dk) (seq_ok (expr_ok (need_c hF g dk)) (ret_ok (w := .val (.tup ((mapP rs ts p).map nD))) (blt_ok (ds := [mapD (mapP rs ts p)]) (rc_cons c rc_nil) rfl rfl) rfl)) rfl
def rowD (l : List (List Nat)) : D := .tup (l.map callD)
def exMany : Exn := ⟨"TooMany", [("most", .int 2000)]⟩
theorem gt2000 (m : Nat) : gtW (nD m) (.int 2000) = some (.val (.bl (decide (2000 < m)))) := by
  show some (W.val (.bl (decide ((2000 : Int) < (m : Int))))) = _
  have e : decide ((2000 : Int) < (m : Int)) = decide (2000 < m) := decide_eq_decide.mpr (by omega)
  rw [e]
theorem unrolled_ok (hF : FlOk rs ts) (g : Good ts p) (hb : beats p ≤ 2000) (dk : Option Dk) : F_unrolled [floorD rs ts, planD p] dk = .ok (rowD (calls p)) dk := by
  have t : eTst truthB (op2 gtW (callE (F_beats_in 12) [0] [] 1 (bCons (eVar 1) bNil)) (eC (.int 2000))) (s2 rs ts p dk) = .ok false (s2 rs ts p dk) :=
    tst_ok (op2_ok (beats_c g dk) rfl rfl rfl ((gt2000 _).trans (by rw [decide_eq_false (by omega)]))) rfl rfl
  have c : callE (F_calls_in 12) [0] [] 1 (bCons (eVar 1) bNil) (s2 rs ts p dk) = .ok (.val (.lst ((calls p).map callD))) (s2 rs ts p dk) :=
    call_mut (bc_v (var_fz (i := 1) (d := planD p) rfl) bc_nil) rfl rfl rfl (calls_in_ok 12 p dk (by have := g.d; omega) (by have := g.d; omega) (by have := g.n; omega) g.w389 hb) (fun h => Bool.false_ne_true h)
  exact run_ret (n := 2) (as := [floorD rs ts, planD p]) (b := M_unrolled) (st' := s2 rs ts p dk) (seq_ok (expr_ok (need_c hF g dk)) (seq_ok (ifN_f t) (ret_ok (w := .val (rowD (calls p))) (blt_ok (ds := [.lst ((calls p).map callD)]) (rc_cons c rc_nil) rfl rfl) rfl))) rfl
theorem unrolled_exc (hF : FlOk rs ts) (g : Good ts p) (hb : 2000 < beats p) (dk : Option Dk) : F_unrolled [floorD rs ts, planD p] dk = .exc exMany dk := by
  have t : eTst truthB (op2 gtW (callE (F_beats_in 12) [0] [] 1 (bCons (eVar 1) bNil)) (eC (.int 2000))) (s2 rs ts p dk) = .ok true (s2 rs ts p dk) :=
    tst_ok (op2_ok (beats_c g dk) rfl rfl rfl ((gt2000 _).trans (by rw [decide_eq_true hb]))) rfl rfl
  have m : M_unrolled (s2 rs ts p dk) = .exc exMany (s2 rs ts p dk) := by
    unfold M_unrolled
    rw [seq_to (expr_ok (need_c hF g dk)), s_seq, s_if, s_bind, t]
    rfl
  show (match M_unrolled (s2 rs ts p dk) with
      | .ok (.ret d) st => RF.ok d st.dk
      | .ok .next st => RF.ok .non st.dk
      | .exc x st => .exc x st.dk
      | _ => .stuck) = _
  rw [m]
abbrev s3 (rs : List Nat) (ts : List Tc) (p : Plan) (dk : Option Dk) : Stt := ⟨[.fz (floorD rs ts), .fz (planD p), .un], dk⟩
def toldD (l : List (List Nat)) : D := .tup [.str "told", rowD l]
def manyD : D := .tup [.str "many", .int 2000]
theorem noMut_row (l : List (List Nat)) : noMut (rowD l) = true := by
  show noMutL (l.map callD) = true
  induction l with
  | nil => rfl
  | cons c l ih =>
    show (noMut (callD c) && noMutL (l.map callD)) = true
    rw [noMut_call, ih]
    rfl
theorem rolled_told (hF : FlOk rs ts) (g : Good ts p) (hb : beats p ≤ 2000) (dk : Option Dk) : F__law_rolled [floorD rs ts, planD p] dk = .ok (toldD (calls p)) dk := by
  have c : callE F_unrolled [0, 1] [] 2 (bCons (eVar 0) (bCons (eVar 1) bNil)) (s3 rs ts p dk) = .ok (.val (rowD (calls p))) (s3 rs ts p dk) :=
    call_ok (st1 := s3 rs ts p dk) (bc_v (var_fz (i := 0) (d := floorD rs ts) rfl) (bc_v (var_fz (i := 1) (d := planD p) rfl) bc_nil)) rfl rfl rfl (unrolled_ok hF g hb dk) (noMut_row _)
  have r : retS (bindE (aCons (eC (.str "told")) (aCons (callE F_unrolled [0, 1] [] 2 (bCons (eVar 0) (bCons (eVar 1) bNil))) aNil)) tupOf) (s3 rs ts p dk) = .ok (.ret (toldD (calls p))) (s3 rs ts p dk) :=
    ret_ok (tupM (ac_cons rfl rfl (ac_cons c rfl ac_nil)) (by show 2 ≤ big; decide)) rfl
  refine run_ret (n := 3) (as := [floorD rs ts, planD p]) (b := M__law_rolled) (st' := s3 rs ts p dk) ?_ rfl
  show tryF 2 _ _ _ (s3 rs ts p dk) = _
  unfold tryF
  rw [r]
theorem rolled_many (hF : FlOk rs ts) (g : Good ts p) (hb : 2000 < beats p) (dk : Option Dk) : F__law_rolled [floorD rs ts, planD p] dk = .ok manyD dk := by
  have c : callE F_unrolled [0, 1] [] 2 (bCons (eVar 0) (bCons (eVar 1) bNil)) (s3 rs ts p dk) = .exc exMany (s3 rs ts p dk) :=
    call_exc (st1 := s3 rs ts p dk) (bc_v (var_fz (i := 0) (d := floorD rs ts) rfl) (bc_v (var_fz (i := 1) (d := planD p) rfl) bc_nil)) rfl rfl rfl (unrolled_exc hF g hb dk)
  have r : retS (bindE (aCons (eC (.str "told")) (aCons (callE F_unrolled [0, 1] [] 2 (bCons (eVar 0) (bCons (eVar 1) bNil))) aNil)) tupOf) (s3 rs ts p dk) = .exc exMany (s3 rs ts p dk) :=
    ret_exc (bind_exc (ac_exc rfl rfl (ac_exc1 c)))
  refine run_ret (n := 3) (as := [floorD rs ts, planD p]) (b := M__law_rolled) (st' := s3 rs ts p dk) ?_ rfl
  show tryF 2 _ _ _ (s3 rs ts p dk) = _
  unfold tryF
  rw [r]
  rfl
end
end Lk12

namespace Lk12
open L2 Dl PySem.Spec
open PySem hiding upTo
open PyProof.Rows hiding inR cutD
/-! ### texts of what is compared -/
theorem wXL_mul {W : Nat} : ∀ {ds : List D}, (∀ d ∈ ds, wgtX d ≤ W) → wgtXL ds ≤ ds.length * (W + 2)
  | [], _ => by simp [wgtXL]
  | d :: r, h => by
    have h1 := h d List.mem_cons_self
    have h2 := wXL_mul (ds := r) fun x hx => h x (List.mem_cons_of_mem _ hx)
    simp only [wgtXL, List.length_cons, Nat.add_mul, Nat.one_mul]
    omega
theorem shL_all : ∀ {ds : List D}, (∀ d ∈ ds, showD d = true) → showL ds = true
  | [], _ => rfl
  | d :: r, h => by
    show (showD d && showL r) = true
    rw [h d List.mem_cons_self, shL_all (ds := r) fun x hx => h x (List.mem_cons_of_mem _ hx)]
    rfl
theorem tpL_all : ∀ {ds : List D}, (∀ d ∈ ds, tpX d = true) → tpXL ds = true
  | [], _ => rfl
  | d :: r, h => by
    show (tpX d && tpXL r) = true
    rw [h d List.mem_cons_self, tpL_all (ds := r) fun x hx => h x (List.mem_cons_of_mem _ hx)]
    rfl
theorem sh_nat {m : Nat} (h : m < 2 ^ 390) : showD (nD m) = true := by
  show decide ((m : Int).natAbs.log2 < 1920) = true
  rw [Int.natAbs_natCast]
  have := log2_small h (by decide)
  exact decide_eq_true (by omega)
theorem w_nat (m : Nat) : wgtX (nD m) ≤ 1921 := by
  show (if (m : Int).natAbs < 100 then 3 else 1921) ≤ 1921
  split <;> omega
theorem w_small {m : Nat} (h : m < 100) : wgtX (nD m) ≤ 3 := by
  show (if (m : Int).natAbs < 100 then 3 else 1921) ≤ 3
  rw [Int.natAbs_natCast, if_pos h]
  exact Nat.le_refl _
theorem eb : big = 16777216 := rfl
theorem rx_nums {l : List Nat} (hl : l.length ≤ 100) (h : ∀ x ∈ l, x < 2 ^ 390) : Rx (.tup (l.map nD)) where
  ok := okd_call 63 l
  sh := by
    show showL (l.map nD) = true
    exact shL_all fun d hd => by
      obtain ⟨x, hx, rfl⟩ := List.mem_map.mp hd
      exact sh_nat (h x hx)
  wg := by
    show 4 + wgtXL (l.map nD) ≤ big
    have q := wXL_mul (W := 1921) (ds := l.map nD) fun d hd => by
      obtain ⟨x, hx, rfl⟩ := List.mem_map.mp hd
      exact w_nat x
    rw [List.length_map] at q
    have := eb
    omega
  tp := by
    show tpXL (l.map nD) = true
    exact tpL_all fun d hd => by
      obtain ⟨x, hx, rfl⟩ := List.mem_map.mp hd
      rfl
theorem rx_two {a b : Nat} (ha : a < 2 ^ 390) (hb : b < 2 ^ 390) : Rx (.tup [nD a, nD b]) := rx_nums (l := [a, b]) (by show 2 ≤ 100; decide) fun x hx => by
  rcases List.mem_cons.mp hx with rfl | hx
  · exact ha
  · rw [List.mem_singleton.mp hx]; exact hb
structure CallsOk (l : List (List Nat)) : Prop where
  n : l.length ≤ 2000
  c : ∀ c ∈ l, c.length ≤ 20 ∧ ∀ x ∈ c, x < 100
theorem w_call {c : List Nat} (h : c.length ≤ 20 ∧ ∀ x ∈ c, x < 100) : wgtX (callD c) ≤ 104 := by
  show 4 + wgtXL (c.map nD) ≤ 104
  have q := wXL_mul (W := 3) (ds := c.map nD) fun d hd => by
    obtain ⟨x, hx, rfl⟩ := List.mem_map.mp hd
    exact w_small (h.2 x hx)
  rw [List.length_map] at q
  have := h.1
  omega
theorem lt390 {x : Nat} (h : x < 100) : x < 2 ^ 390 := Nat.lt_trans h (by decide +kernel)
theorem sh_call {c : List Nat} (h : ∀ x ∈ c, x < 100) : showD (callD c) = true := shL_all fun d hd => by
  obtain ⟨x, hx, rfl⟩ := List.mem_map.mp hd
  exact sh_nat (lt390 (h x hx))
theorem tp_call (c : List Nat) : tpX (callD c) = true := tpL_all fun d hd => by
  obtain ⟨x, hx, rfl⟩ := List.mem_map.mp hd
  rfl
theorem rx_row {l : List (List Nat)} (h : CallsOk l) : Rx (rowD l) where
  ok := by
    show (l.map callD).all (okD 63) = true
    rw [List.all_eq_true]
    intro d hd
    obtain ⟨c, hc, rfl⟩ := List.mem_map.mp hd
    exact okd_call 62 c
  sh := shL_all fun d hd => by
    obtain ⟨c, hc, rfl⟩ := List.mem_map.mp hd
    exact sh_call (h.c c hc).2
  wg := by
    show 4 + wgtXL (l.map callD) ≤ big
    have q := wXL_mul (W := 104) (ds := l.map callD) fun d hd => by
      obtain ⟨c, hc, rfl⟩ := List.mem_map.mp hd
      exact w_call (h.c c hc)
    rw [List.length_map] at q
    have := eb
    have := h.n
    omega
  tp := tpL_all fun d hd => by
    obtain ⟨c, hc, rfl⟩ := List.mem_map.mp hd
    exact tp_call c
theorem rx_told {l : List (List Nat)} (h : CallsOk l) : Rx (toldD l) where
  ok := by
    show ([D.str "told", rowD l].all (okD 63)) = true
    have h1 : okD 63 (rowD l) = true := by
      show (l.map callD).all (okD 62) = true
      rw [List.all_eq_true]
      intro d hd
      obtain ⟨c, hc, rfl⟩ := List.mem_map.mp hd
      exact okd_call 61 c
    have h2 : PyData.strOk "told" = true := by decide +kernel
    simp only [List.all_cons, List.all_nil, Bool.and_true, h1, okd_str h2]
  sh := shL_all fun d hd => by
    rcases List.mem_cons.mp hd with rfl | hd
    · rfl
    · rw [List.mem_singleton.mp hd]; exact (rx_row h).sh
  wg := by
    have q : wgtX (rowD l) ≤ 4 + 2000 * 106 := by
      show 4 + wgtXL (l.map callD) ≤ _
      have q := wXL_mul (W := 104) (ds := l.map callD) fun d hd => by
        obtain ⟨c, hc, rfl⟩ := List.mem_map.mp hd
        exact w_call (h.c c hc)
      rw [List.length_map] at q
      have := h.n
      omega
    show 4 + ((reprText "told").length + 2 + (wgtX (rowD l) + 2 + 0)) ≤ big
    have e : (reprText "told").length = 6 := by decide +kernel
    rw [e]
    have := eb
    omega
  tp := tpL_all fun d hd => by
    rcases List.mem_cons.mp hd with rfl | hd
    · decide +kernel
    · rw [List.mem_singleton.mp hd]; exact (rx_row h).tp
theorem rx_many : Rx manyD where
  ok := by decide +kernel
  sh := by decide +kernel
  wg := by decide +kernel
  tp := by decide +kernel
section
variable {st st1 st2 : Stt} {w1 w : W} {m1 m2 : Ev W}
theorem orV_t (h1 : m1 st = .ok w1 st1) (c : content st1 w1 = some (.bl true)) : orV m1 m2 st = .ok (.val (.bl true)) st1 := by
  unfold orV
  rw [s_bind, h1]
  show ifW w1 _ _ st1 = _
  unfold ifW
  rw [c]
  rfl
theorem orV_f (h1 : m1 st = .ok w1 st1) (c : content st1 w1 = some (.bl false)) (h2 : m2 st1 = .ok w st2) : orV m1 m2 st = .ok w st2 := by
  unfold orV
  rw [s_bind, h1]
  show ifW w1 _ _ st1 = _
  unfold ifW
  rw [c]
  exact h2
end
theorem gt60 (m : Nat) : gtW (nD m) (.int 60) = some (.val (.bl (decide (60 < m)))) := by
  show some (W.val (.bl (decide ((60 : Int) < (m : Int))))) = _
  have e : decide ((60 : Int) < (m : Int)) = decide (60 < m) := decide_eq_decide.mpr (by omega)
  rw [e]
section
variable {rs : List Nat} {ts : List Tc} {p : Plan}
theorem calls_ok (hF : FlOk rs ts) (g : Good ts p) (hb : beats p ≤ 2000) : CallsOk (calls p) := by
  refine ⟨by rw [beats_calls]; exact hb, fun c hc => ?_⟩
  obtain ⟨h1, h2⟩ := calls_mem (P := fun _ => True) (fun _ _ => trivial) _ g.c c hc
  have := hF.len
  exact ⟨call_len hF h1 h2, fun x hx => by have := h2 x hx; omega⟩
theorem good_calls (hF : FlOk rs ts) (g : Good ts p) (hb : beats p ≤ 60) : Good ts (ofCalls (calls p)) := by
  have hc := (calls_ok hF g (by omega)).c
  obtain ⟨h1, h2, h3, h4⟩ := ofCalls_sz 20 (calls p) fun c h => (hc c h).1
  have hl : (calls p).length ≤ 60 := by rw [beats_calls]; exact hb
  refine ⟨h4 _ (calls_mem (P := fun _ => True) (fun _ _ => trivial) _ g.c), by omega, by omega, Nat.lt_of_le_of_lt h3 ?_⟩
  have : 1 + (calls p).length * (1 + 20) < 2 ^ 20 := by omega
  exact Nat.lt_trans this (by decide +kernel)
theorem counted_ok (hF : FlOk rs ts) (g : Good ts p) (dk : Option Dk) : F__law_is_counted_right [floorD rs ts, planD p] dk = .ok (.bl true) dk := by
  have hb : beats p < 2 ^ 390 := Nat.lt_of_le_of_lt (beats_Wt p) g.w390
  have hch : changes p < 2 ^ 390 := Nat.lt_of_le_of_lt (changes_Wt p) g.w390
  have fl : ∀ s2 s3 s4 s5 : Slot, eVar 0 ⟨[.fz (floorD rs ts), .fz (planD p), s2, s3, s4, s5], dk⟩ = .ok (.val (floorD rs ts)) ⟨[.fz (floorD rs ts), .fz (planD p), s2, s3, s4, s5], dk⟩ := fun _ _ _ _ => rfl
  have pl : ∀ s2 s3 s4 s5 : Slot, eVar 1 ⟨[.fz (floorD rs ts), .fz (planD p), s2, s3, s4, s5], dk⟩ = .ok (.val (planD p)) ⟨[.fz (floorD rs ts), .fz (planD p), s2, s3, s4, s5], dk⟩ := fun _ _ _ _ => rfl
  have L : callE (F__law_length 12) [0] [] 1 (bCons (eVar 1) bNil) ⟨[.fz (floorD rs ts), .fz (planD p), .un, .un, .un, .un], dk⟩ = .ok (.val (nD (beats p))) ⟨[.fz (floorD rs ts), .fz (planD p), .un, .un, .un, .un], dk⟩ :=
    call_ok (bc_v (pl _ _ _ _) bc_nil) rfl rfl rfl (by rw [length_eq]; exact beats_in_ok 12 p dk (by have := g.d; omega) (by have := g.n; omega) g.w390) rfl
  have C : callE (F__law_changes 12) [0] [] 1 (bCons (eVar 1) bNil) ⟨[.fz (floorD rs ts), .fz (planD p), .un, .un, .un, .un], dk⟩ = .ok (.val (nD (changes p))) ⟨[.fz (floorD rs ts), .fz (planD p), .un, .un, .un, .un], dk⟩ :=
    call_ok (bc_v (pl _ _ _ _) bc_nil) rfl rfl rfl (by rw [lchanges_eq]; exact changes_in_ok 12 p dk (by have := g.d; omega) (by have := g.n; omega) g.w390) rfl
  have p0 : parS [2, 3] (rCons (callE (F__law_length 12) [0] [] 1 (bCons (eVar 1) bNil)) (rCons (callE (F__law_changes 12) [0] [] 1 (bCons (eVar 1) bNil)) rNil)) ⟨[.fz (floorD rs ts), .fz (planD p), .un, .un, .un, .un], dk⟩
      = .ok .next ⟨[.fz (floorD rs ts), .fz (planD p), .fz (nD (beats p)), .fz (nD (changes p)), .un, .un], dk⟩ := pars_ok (rc_cons L (rc_cons C rc_nil)) rfl rfl
  have pos2 : ∀ {F : List D → Option Dk → RF} {x : D} {s2 s3 s4 s5 : Slot}, F [floorD rs ts, planD p] dk = .ok x dk → noMut x = true → callE F [0, 1] [] 2 (bCons (eVar 0) (bCons (eVar 1) bNil)) ⟨[.fz (floorD rs ts), .fz (planD p), s2, s3, s4, s5], dk⟩ = .ok (.val x) ⟨[.fz (floorD rs ts), .fz (planD p), s2, s3, s4, s5], dk⟩ :=
    fun {F x s2 s3 s4 s5} h hx => call_ok (st1 := ⟨[.fz (floorD rs ts), .fz (planD p), s2, s3, s4, s5], dk⟩) (bc_v (fl _ _ _ _) (bc_v (pl _ _ _ _) bc_nil)) rfl rfl rfl h hx
  have kw2 : ∀ {F : List D → Option Dk → RF} {x : D} {s2 s3 s4 s5 : Slot}, F [floorD rs ts, planD p] dk = .ok x dk → noMut x = true → callK F [1, 0] [] 0 2 bNil (bCons (eVar 1) (bCons (eVar 0) bNil)) ⟨[.fz (floorD rs ts), .fz (planD p), s2, s3, s4, s5], dk⟩ = .ok (.val x) ⟨[.fz (floorD rs ts), .fz (planD p), s2, s3, s4, s5], dk⟩ :=
    fun {F x s2 s3 s4 s5} h hx => callK_ok (st1 := ⟨[.fz (floorD rs ts), .fz (planD p), s2, s3, s4, s5], dk⟩) (st2 := ⟨[.fz (floorD rs ts), .fz (planD p), s2, s3, s4, s5], dk⟩) bc_nil (bc_v (pl _ _ _ _) (bc_v (fl _ _ _ _) bc_nil)) ⟨rfl, rfl⟩ rfl rfl h hx
  have B := beats_of_ok hF g dk
  have Ch := changes_of_ok hF g dk
  have b2 : (2 : Nat) ≤ big := by show 2 ≤ big; decide
  have i1 : ifS (eTst truthB (op2 neW (bltE reprX (rCons (bindE (aCons (callE F_beats_of [0, 1] [] 2 (bCons (eVar 0) (bCons (eVar 1) bNil))) (aCons (callK F_beats_of [1, 0] [] 0 2 bNil (bCons (eVar 1) (bCons (eVar 0) bNil))) aNil)) tupOf) rNil)) (bltE reprX (rCons (bindE (aCons (eVar 2) (aCons (eVar 2) aNil)) tupOf) rNil))))
      (retS (eC (.bl false))) (okE .next) ⟨[.fz (floorD rs ts), .fz (planD p), .fz (nD (beats p)), .fz (nD (changes p)), .un, .un], dk⟩ = .ok .next ⟨[.fz (floorD rs ts), .fz (planD p), .fz (nD (beats p)), .fz (nD (changes p)), .un, .un], dk⟩ :=
    reprX_if (rx_two hb hb) (tupM (ac_cons (pos2 B rfl) rfl (ac_cons (kw2 B rfl) rfl ac_nil)) b2) rfl (tupM (ac_cons (var_fz (i := 2) (d := nD (beats p)) rfl) rfl (ac_cons (var_fz (i := 2) (d := nD (beats p)) rfl) rfl ac_nil)) b2) rfl
  have i2 : ifS (eTst truthB (op2 neW (bltE reprX (rCons (bindE (aCons (callE F_changes_of [0, 1] [] 2 (bCons (eVar 0) (bCons (eVar 1) bNil))) (aCons (callK F_changes_of [1, 0] [] 0 2 bNil (bCons (eVar 1) (bCons (eVar 0) bNil))) aNil)) tupOf) rNil)) (bltE reprX (rCons (bindE (aCons (eVar 3) (aCons (eVar 3) aNil)) tupOf) rNil))))
      (retS (eC (.bl false))) (okE .next) ⟨[.fz (floorD rs ts), .fz (planD p), .fz (nD (beats p)), .fz (nD (changes p)), .un, .un], dk⟩ = .ok .next ⟨[.fz (floorD rs ts), .fz (planD p), .fz (nD (beats p)), .fz (nD (changes p)), .un, .un], dk⟩ :=
    reprX_if (rx_two hch hch) (tupM (ac_cons (pos2 Ch rfl) rfl (ac_cons (kw2 Ch rfl) rfl ac_nil)) b2) rfl (tupM (ac_cons (var_fz (i := 3) (d := nD (changes p)) rfl) rfl (ac_cons (var_fz (i := 3) (d := nD (changes p)) rfl) rfl ac_nil)) b2) rfl
  have big2 : ∀ {s4 s5 : Slot}, eTst truthB (op2 gtW (eVar 2) (eC (.int 2000))) ⟨[.fz (floorD rs ts), .fz (planD p), .fz (nD (beats p)), .fz (nD (changes p)), s4, s5], dk⟩ = .ok (decide (2000 < beats p)) ⟨[.fz (floorD rs ts), .fz (planD p), .fz (nD (beats p)), .fz (nD (changes p)), s4, s5], dk⟩ :=
    fun {s4 s5} => tst_ok (op2_ok (var_fz (i := 2) (d := nD (beats p)) rfl) rfl rfl rfl (gt2000 _)) rfl rfl
  by_cases h2000 : 2000 < beats p
  · have R : setS 4 (callE F__law_rolled [0, 1] [] 2 (bCons (eVar 0) (bCons (eVar 1) bNil))) ⟨[.fz (floorD rs ts), .fz (planD p), .fz (nD (beats p)), .fz (nD (changes p)), .un, .un], dk⟩ = .ok .next ⟨[.fz (floorD rs ts), .fz (planD p), .fz (nD (beats p)), .fz (nD (changes p)), .fz manyD, .un], dk⟩ :=
      set_v (pos2 (rolled_many hF g h2000 dk) rfl)
    have t := big2 (s4 := .fz manyD) (s5 := .un)
    rw [decide_eq_true h2000] at t
    have r : ifS (eTst truthB (op2 gtW (eVar 2) (eC (.int 2000)))) (retS (op2 eqW (bltE reprX (rCons (eVar 4) rNil)) (bltE reprX (rCons (bindE (aCons (eC (.str "many")) (aCons (eC (.int 2000)) aNil)) tupOf) rNil)))) (okE .next) ⟨[.fz (floorD rs ts), .fz (planD p), .fz (nD (beats p)), .fz (nD (changes p)), .fz manyD, .un], dk⟩
        = .ok (.ret (.bl true)) ⟨[.fz (floorD rs ts), .fz (planD p), .fz (nD (beats p)), .fz (nD (changes p)), .fz manyD, .un], dk⟩ :=
      if_t t (ret_ok (reprX_eq rx_many (var_fz (i := 4) (d := manyD) rfl) rfl (tupM (ac_cons rfl rfl (ac_cons rfl rfl ac_nil)) b2) rfl) rfl)
    refine run_ret (n := 6) (as := [floorD rs ts, planD p]) (b := M__law_is_counted_right) (st' := ⟨[.fz (floorD rs ts), .fz (planD p), .fz (nD (beats p)), .fz (nD (changes p)), .fz manyD, .un], dk⟩) (seq_ok p0 (seq_ok i1 (seq_ok i2 (seq_ok R ?_)))) rfl
    rw [s_seq, r]
  · have h2 : beats p ≤ 2000 := by omega
    have co := calls_ok hF g h2
    have R : setS 4 (callE F__law_rolled [0, 1] [] 2 (bCons (eVar 0) (bCons (eVar 1) bNil))) ⟨[.fz (floorD rs ts), .fz (planD p), .fz (nD (beats p)), .fz (nD (changes p)), .un, .un], dk⟩ = .ok .next ⟨[.fz (floorD rs ts), .fz (planD p), .fz (nD (beats p)), .fz (nD (changes p)), .fz (toldD (calls p)), .un], dk⟩ :=
      set_v (pos2 (rolled_told hF g h2 dk) (by show (noMut (.str "told") && (noMut (rowD (calls p)) && true)) = true; rw [noMut_row]; rfl))
    have t := big2 (s4 := .fz (toldD (calls p))) (s5 := .un)
    rw [decide_eq_false h2000] at t
    have lc : callE (F__law_calls 12) [0] [] 1 (bCons (eVar 1) bNil) ⟨[.fz (floorD rs ts), .fz (planD p), .fz (nD (beats p)), .fz (nD (changes p)), .fz (toldD (calls p)), .un], dk⟩ = .ok (.val (.lst ((calls p).map callD))) ⟨[.fz (floorD rs ts), .fz (planD p), .fz (nD (beats p)), .fz (nD (changes p)), .fz (toldD (calls p)), .un], dk⟩ :=
      call_mut (bc_v (pl _ _ _ _) bc_nil) rfl rfl rfl (law_calls_ok 12 p dk (by have := g.d; omega) (by have := g.d; omega) (by have := g.n; omega) g.w389 h2) (fun h => Bool.false_ne_true h)
    have told1 : op2 getW (eVar 4) (eC (.int 1)) ⟨[.fz (floorD rs ts), .fz (planD p), .fz (nD (beats p)), .fz (nD (changes p)), .fz (toldD (calls p)), .un], dk⟩ = .ok (.val (rowD (calls p))) ⟨[.fz (floorD rs ts), .fz (planD p), .fz (nD (beats p)), .fz (nD (changes p)), .fz (toldD (calls p)), .un], dk⟩ :=
      op2_ok (var_fz (i := 4) (d := toldD (calls p)) rfl) rfl rfl rfl rfl
    have o1 := tst_ok (f := truthB) (reprX_ne (rx_told co) (var_fz (st := ⟨[.fz (floorD rs ts), .fz (planD p), .fz (nD (beats p)), .fz (nD (changes p)), .fz (toldD (calls p)), .un], dk⟩) (i := 4) (d := toldD (calls p)) rfl) rfl
      (tupM (ac_cons (d := .str "told") (e := eC (.str "told")) rfl rfl (ac_cons (w := .val (rowD (calls p))) (blt_ok (f := tupW) (ds := [.lst ((calls p).map callD)]) (rc_cons lc rc_nil) rfl rfl) rfl ac_nil)) b2) rfl) rfl rfl
    have o2 := tst_ok (f := truthB) (reprX_ne (rx_row co) (kw2 (F := F_unrolled) (s2 := .fz (nD (beats p))) (s3 := .fz (nD (changes p))) (s4 := .fz (toldD (calls p))) (s5 := .un) (unrolled_ok hF g h2 dk) (noMut_row _)) rfl told1 rfl) rfl rfl
    have s60 : eTst truthB (op2 gtW (eVar 2) (eC (.int 60))) ⟨[.fz (floorD rs ts), .fz (planD p), .fz (nD (beats p)), .fz (nD (changes p)), .fz (toldD (calls p)), .un], dk⟩ = .ok (decide (60 < beats p)) ⟨[.fz (floorD rs ts), .fz (planD p), .fz (nD (beats p)), .fz (nD (changes p)), .fz (toldD (calls p)), .un], dk⟩ :=
      tst_ok (op2_ok (var_fz (i := 2) (d := nD (beats p)) rfl) rfl rfl rfl (gt60 _)) rfl rfl
    have g60 : op2 gtW (eVar 2) (eC (.int 60)) ⟨[.fz (floorD rs ts), .fz (planD p), .fz (nD (beats p)), .fz (nD (changes p)), .fz (toldD (calls p)), .un], dk⟩ = .ok (.val (.bl (decide (60 < beats p)))) ⟨[.fz (floorD rs ts), .fz (planD p), .fz (nD (beats p)), .fz (nD (changes p)), .fz (toldD (calls p)), .un], dk⟩ :=
      op2_ok (var_fz (i := 2) (d := nD (beats p)) rfl) rfl rfl rfl (gt60 _)
    refine run_ret (n := 6) (as := [floorD rs ts, planD p]) (b := M__law_is_counted_right) (st' := ⟨[.fz (floorD rs ts), .fz (planD p), .fz (nD (beats p)), .fz (nD (changes p)), .fz (toldD (calls p)), .un], dk⟩) (seq_ok p0 (seq_ok i1 (seq_ok i2 (seq_ok R (seq_ok (ifN_f t) (seq_ok (ifN_f (orT_f o1 o2)) ?_)))))) rfl
    by_cases h60 : 60 < beats p
    · rw [decide_eq_true h60] at g60
      exact ret_ok (orV_t g60 rfl) rfl
    · rw [decide_eq_false h60] at g60
      have gc := good_calls hF g (by omega)
      have e1 : lcE [5] (seqM (op2 getW (eVar 4) (eC (.int 1)))) (nmG 5) (lcB (okE true) (lcP (bindE (aCons (eC (.str "beat")) (aCons (eVar 5) aNil)) tupOf))) ⟨[.fz (floorD rs ts), .fz (planD p), .fz (nD (beats p)), .fz (nD (changes p)), .fz (toldD (calls p)), .un], dk⟩
          = .ok (.fresh (.lst ((calls p).map fun c => .tup [.str "beat", callD c]))) ⟨[.fz (floorD rs ts), .fz (planD p), .fz (nD (beats p)), .fz (nD (changes p)), .fz (toldD (calls p)), .un], dk⟩ := by
        refine lc_mapA (enc := callD) (s := .un) (seqM_ok told1 rfl rfl) rfl rfl (fun c hc => ?_) (by have := co.n; have := eb; omega)
        exact tupM (ac_cons rfl rfl (ac_cons (var_fz (i := 5) (d := callD c) rfl) rfl ac_nil)) b2
      have e2 : bltE tupW (rCons (lcE [5] (seqM (op2 getW (eVar 4) (eC (.int 1)))) (nmG 5) (lcB (okE true) (lcP (bindE (aCons (eC (.str "beat")) (aCons (eVar 5) aNil)) tupOf)))) rNil) ⟨[.fz (floorD rs ts), .fz (planD p), .fz (nD (beats p)), .fz (nD (changes p)), .fz (toldD (calls p)), .un], dk⟩
          = .ok (.val (planD (ofCalls (calls p)))) ⟨[.fz (floorD rs ts), .fz (planD p), .fz (nD (beats p)), .fz (nD (changes p)), .fz (toldD (calls p)), .un], dk⟩ := by
        refine blt_ok (ds := [.lst ((calls p).map fun c => .tup [.str "beat", callD c])]) (rc_cons e1 rc_nil) rfl ?_
        unfold planD
        rw [ofCalls_D]
        rfl
      have m1 : callE F_plan_map [0, 1] [] 2 (bCons (eVar 0) (bCons (bltE tupW (rCons (lcE [5] (seqM (op2 getW (eVar 4) (eC (.int 1)))) (nmG 5) (lcB (okE true) (lcP (bindE (aCons (eC (.str "beat")) (aCons (eVar 5) aNil)) tupOf)))) rNil)) bNil)) ⟨[.fz (floorD rs ts), .fz (planD p), .fz (nD (beats p)), .fz (nD (changes p)), .fz (toldD (calls p)), .un], dk⟩
          = .ok (.val (.tup ((mapP rs ts p).map nD))) ⟨[.fz (floorD rs ts), .fz (planD p), .fz (nD (beats p)), .fz (nD (changes p)), .fz (toldD (calls p)), .un], dk⟩ := by
        refine call_ok (bc_v (fl _ _ _ _) (bc_v e2 bc_nil)) rfl rfl rfl ?_ (noMut_ns _)
        have q := plan_map_ok hF gc dk
        rw [map_calls hF] at q
        exact q
      have m2 := pos2 (F := F_plan_map) (s2 := .fz (nD (beats p))) (s3 := .fz (nD (changes p))) (s4 := .fz (toldD (calls p))) (s5 := .un) (plan_map_ok hF g dk) (noMut_ns _)
      have vm := mapP_ok hF p
      have hsum := hF.sum
      have rx := rx_nums (l := mapP rs ts p) (by rw [vm.len]; omega) fun x hx => lt390 (by have := vm.lt x hx; omega)
      exact ret_ok (orV_f g60 rfl (reprX_eq rx m1 rfl m2 rfl)) rfl
end
end Lk12

namespace Lk12
open L2 Dl PySem.Spec
open PySem hiding upTo
open PyProof.Rows hiding inR cutD
/-! ### drawn calls and plans -/
section
variable {rs : List Nat} {ts : List Tc}
theorem is0 (r : Nat) : eqW (nD r) (.int 0) = some (.val (.bl (decide (r = 0)))) := cod_n.eqW (by decide) r 0
/-- draw(deck, m) == 0, asked in a test -/
theorem tst0 {ρ : List Slot} {dk : Option Dk} {i : Nat} (m : Nat) {z : Int} {B : Int} (hz : z = (m : Int)) (h0 : ρ[i]? = some (.fz .deck)) (h : Dks B dk) (hB : B < 1000000000) (h1 : 0 < m) (h2 : m < 1000000000) :
    ∃ (b : Bool) (dk' : Option Dk), eTst truthB (op2 eqW (callE F__law_draw [0, 1] [] 2 (bCons (eVar i) (bCons (eC (.int z)) bNil))) (eC (.int 0))) ⟨ρ, dk⟩ = .ok b ⟨ρ, dk'⟩ ∧ Dks (B + 1) dk' := by
  subst hz
  obtain ⟨r, dk', e, h3, h4⟩ := drawN h hB h1 h2
  have c : callE F__law_draw [0, 1] [] 2 (bCons (eVar i) (bCons (eC (.int (m : Int))) bNil)) ⟨ρ, dk⟩ = .ok (.val (nD r)) ⟨ρ, dk'⟩ :=
    call_ok (st1 := ⟨ρ, dk⟩) (bc_v (var_fz h0) (bc_v rfl bc_nil)) rfl rfl rfl e rfl
  exact ⟨decide (r = 0), dk', tst_ok (op2_ok c rfl rfl rfl (is0 r)) rfl rfl, h3⟩
theorem call_loop : ∀ (k i : Nat) (c : List Nat) (B : Int) (dk : Option Dk) (s2 : Slot), Dks B dk → B + k < 1000000000 → i + k ≤ 1000 → c.Pairwise (· < ·) → (∀ x ∈ c, x < i) → c.length ≤ i →
    ∃ (c' : List Nat) (dk' : Option Dk) (s2' : Slot), lcL [2] (nmG 2) (lcB (eTst truthB (op2 eqW (callE F__law_draw [0, 1] [] 2 (bCons (eVar 0) (bCons (eC (.int 2)) bNil))) (eC (.int 0)))) (lcP (eVar 2))) ((List.range' i k).map nD) (c.map nD) ⟨[.fz .deck, .fz (floorD rs ts), s2], dk⟩
      = .ok (c'.map nD) ⟨[.fz .deck, .fz (floorD rs ts), s2'], dk'⟩ ∧ Dks (B + k) dk' ∧ c'.Pairwise (· < ·) ∧ ∀ x ∈ c', x < i + k
  | 0, i, c, B, dk, s2, h, _, _, h1, h2, _ => ⟨c, dk, s2, rfl, h.mono (by omega), h1, fun x hx => by have := h2 x hx; omega⟩
  | k + 1, i, c, B, dk, s2, h, hB, hik, h1, h2, h3 => by
    have e0 := eb
    obtain ⟨b, dk1, t, q1⟩ := tst0 2 (z := 2) (ρ := [.fz .deck, .fz (floorD rs ts), .fz (nD i)]) (i := 0) rfl rfl h (by omega) (by decide) (by decide)
    have er : List.range' i (k + 1) = i :: List.range' (i + 1) k := rfl
    cases b with
    | true =>
      have b1 : lcB (eTst truthB (op2 eqW (callE F__law_draw [0, 1] [] 2 (bCons (eVar 0) (bCons (eC (.int 2)) bNil))) (eC (.int 0)))) (lcP (eVar 2)) (c.map nD) ⟨[.fz .deck, .fz (floorD rs ts), .fz (nD i)], dk⟩ = .ok ((c ++ [i]).map nD) ⟨[.fz .deck, .fz (floorD rs ts), .fz (nD i)], dk1⟩ := by
        rw [lcB_ok t, if_pos rfl, List.map_append]
        exact lcP_ok (var_fz (i := 2) (d := nD i) rfl) rfl (by rw [List.length_map]; omega)
      obtain ⟨c', dk', s2', h4, h5, h6, h7⟩ := call_loop k (i + 1) (c ++ [i]) (B + 1) dk1 (.fz (nD i)) q1 (by omega) (by omega)
        (List.pairwise_append.mpr ⟨h1, List.pairwise_singleton _ _, fun x hx y hy => by rw [List.mem_singleton.mp hy]; exact h2 x hx⟩)
        (fun x hx => by
          rcases List.mem_append.mp hx with hx | hx
          · have := h2 x hx; omega
          · rw [List.mem_singleton.mp hx]; omega) (by rw [List.length_append, List.length_singleton]; omega)
      refine ⟨c', dk', s2', ?_, h5.mono (by omega), h6, fun x hx => by have := h7 x hx; omega⟩
      rw [er, List.map_cons, lcL_cons (s1 := ⟨[.fz .deck, .fz (floorD rs ts), .fz (nD i)], dk⟩) rfl b1]
      exact h4
    | false =>
      have b1 : lcB (eTst truthB (op2 eqW (callE F__law_draw [0, 1] [] 2 (bCons (eVar 0) (bCons (eC (.int 2)) bNil))) (eC (.int 0)))) (lcP (eVar 2)) (c.map nD) ⟨[.fz .deck, .fz (floorD rs ts), .fz (nD i)], dk⟩ = .ok (c.map nD) ⟨[.fz .deck, .fz (floorD rs ts), .fz (nD i)], dk1⟩ := by
        rw [lcB_ok t, if_neg (by decide)]
      obtain ⟨c', dk', s2', h4, h5, h6, h7⟩ := call_loop k (i + 1) c (B + 1) dk1 (.fz (nD i)) q1 (by omega) (by omega) h1 (fun x hx => by have := h2 x hx; omega) (by omega)
      refine ⟨c', dk', s2', ?_, h5.mono (by omega), h6, fun x hx => by have := h7 x hx; omega⟩
      rw [er, List.map_cons, lcL_cons (s1 := ⟨[.fz .deck, .fz (floorD rs ts), .fz (nD i)], dk⟩) rfl b1]
      exact h4
theorem len_touch {st : Stt} {i : Nat} (h : st.ρ[i]? = some (.fz (floorD rs ts))) : bltE lenW (rCons (op2 getW (eVar i) (eC (.int 1))) rNil) st = .ok (.val (nD ts.length)) st := by
  refine blt_ok (ds := [touchD ts]) (rc_cons (w := .val (touchD ts)) (op2_ok (var_fz h) rfl rfl rfl rfl) rc_nil) rfl ?_
  show some (W.val (.int ((ts.map tcD).length : Nat))) = _
  rw [List.length_map]
  rfl
theorem law_call_ok (hF : FlOk rs ts) {B : Int} {dk : Option Dk} (h : Dks B dk) (hB : B < 900000000) :
    ∃ (c : List Nat) (dk' : Option Dk), F__law_call [.deck, floorD rs ts] dk = .ok (callD c) dk' ∧ Dks (B + 20) dk' ∧ c.Pairwise (· < ·) ∧ ∀ x ∈ c, x < ts.length := by
  have hl := hF.len
  obtain ⟨c, dk', s2, h1, h2, h3, h4⟩ := call_loop (rs := rs) (ts := ts) ts.length 0 [] B dk .un h (by omega) (by omega) List.Pairwise.nil (fun x hx => by cases hx) (Nat.le_refl _)
  have e : upTo 0 ts.length = (List.range' 0 ts.length).map nD := by rw [upTo_nD, List.range_eq_range']
  have r : ofL rng1 (aCons (bltE lenW (rCons (op2 getW (eVar 1) (eC (.int 1))) rNil)) aNil) ⟨[.fz .deck, .fz (floorD rs ts), .un], dk⟩ = .ok ((List.range' 0 ts.length).map nD) ⟨[.fz .deck, .fz (floorD rs ts), .un], dk⟩ := by
    refine ofL_ok (ac_cons (len_touch (i := 1) rfl) rfl ac_nil) ?_
    rw [← e]
    exact rng_nat (by omega)
  have q := lcE_ok (vs := [2]) r rfl h1
  refine ⟨c, dk', ?_, h2.mono (by omega), h3, fun x hx => by have := h4 x hx; omega⟩
  exact run_ret (n := 3) (as := [.deck, floorD rs ts]) (b := M__law_call) (ret_ok (w := .val (callD c)) (blt_ok (ds := [.lst (c.map nD)]) (rc_cons q rc_nil) rfl rfl) rfl) rfl
/-! plans -/
def nB : Nat → Nat
  | 0 => 3
  | d + 1 => 3 * (1 + nB d)
def wB : Nat → Nat
  | 0 => 2 ^ 7
  | d + 1 => 2 ^ 24 * wB d
def cB : Nat → Nat
  | 0 => 200
  | d + 1 => 4 * cB d
structure Pd (m d : Nat) (p : Plan) : Prop where
  c : OkC m p
  dp : dep p ≤ d
  n : nodes p ≤ nB d
  w : Wt p ≤ wB d
theorem nB_pos (d : Nat) : 3 ≤ nB d := by cases d <;> simp only [nB] <;> omega
theorem wB_pos : ∀ d : Nat, 128 ≤ wB d
  | 0 => Nat.le_refl _
  | d + 1 => by have := wB_pos d; simp only [wB]; omega
theorem cB_pos : ∀ d : Nat, 200 ≤ cB d
  | 0 => Nat.le_refl _
  | d + 1 => by have := cB_pos d; simp only [cB]; omega
/-- one more step -/
theorem snoc_beat (p : Plan) (c : List Nat) : stepsD (pApp p (.beat c .nil)) = stepsD p ++ [.tup [.str "beat", callD c]] := by rw [app_D]; rfl
theorem snoc_times (p : Plan) (k : Nat) (q : Plan) : stepsD (pApp p (.times k q .nil)) = stepsD p ++ [.tup [.str "times", nD k, planD q]] := by rw [app_D]; rfl
def cY : Nat → Nat
  | 0 => 30
  | e + 1 => 30 + cB e
def nX : Nat → Nat
  | 0 => 1
  | e + 1 => 1 + nB e
def wX : Nat → Nat
  | 0 => 22
  | e + 1 => 2 ^ 22 * wB e
theorem cY_ge : ∀ d : Nat, 30 ≤ cY d
  | 0 => Nat.le_refl _
  | e + 1 => by simp only [cY]; omega
theorem nX_ge : ∀ d : Nat, 1 ≤ nX d
  | 0 => Nat.le_refl _
  | e + 1 => by simp only [nX]; omega
theorem wX_ge : ∀ d : Nat, 22 ≤ wX d
  | 0 => Nat.le_refl _
  | e + 1 => by have := wB_pos e; simp only [wX]; omega
/-- k of a step is drawn -/
theorem k_turn {d : Nat} {g : Bool} {l : List D} {s5 s6 : Slot} {B : Int} {dk : Option Dk} (h : Dks B dk) (hB : B < 900000000) :
    ∃ (k : Nat) (dk' : Option Dk), seqS (setS 6 (callE F__law_pick [0, 1] [] 2 (bCons (eVar 0) (bCons (bindE (aCons (eC (.int 0)) (aCons (eC (.int 1)) (aCons (eC (.int 2)) (aCons (eC (.int 3)) (aCons (eC (.int 5)) (aCons (eC (.int 2)) aNil)))))) tupOf) bNil))))
      (ifS (andT (eTst truthD (eVar 3)) (eTst truthB (op2 eqW (callE F__law_draw [0, 1] [] 2 (bCons (eVar 0) (bCons (eC (.int 3)) bNil))) (eC (.int 0)))))
      (setS 6 (op2 addD (callE F__law_pick [0, 1] [] 2 (bCons (eVar 0) (bCons (bindE (aCons (eC (.int 7)) (aCons (eC (.int 60)) (aCons (op2 powD (eC (.int 10)) (eC (.int 6))) aNil))) tupOf) bNil))) (callE F__law_draw [0, 1] [] 2 (bCons (eVar 0) (bCons (op2 powD (eC (.int 10)) (eC (.int 6))) bNil)))))
      (okE .next)) ⟨[.fz .deck, .fz (floorD rs ts), .fz (nD d), .fz (.bl g), .lv (.lst l), s5, s6], dk⟩
      = .ok .next ⟨[.fz .deck, .fz (floorD rs ts), .fz (nD d), .fz (.bl g), .lv (.lst l), s5, .fz (nD k)], dk'⟩ ∧ Dks (B + 4) dk' ∧ k ≤ 2000000 := by
  have b6 : (6 : Nat) ≤ big := by show 6 ≤ big; decide
  obtain ⟨k1, dk1, e1, q1, m1⟩ := pickN [0, 1, 2, 3, 5, 2] h (by omega) (by simp) (by decide)
  have c1 : setS 6 (callE F__law_pick [0, 1] [] 2 (bCons (eVar 0) (bCons (bindE (aCons (eC (.int 0)) (aCons (eC (.int 1)) (aCons (eC (.int 2)) (aCons (eC (.int 3)) (aCons (eC (.int 5)) (aCons (eC (.int 2)) aNil)))))) tupOf) bNil))) ⟨[.fz .deck, .fz (floorD rs ts), .fz (nD d), .fz (.bl g), .lv (.lst l), s5, s6], dk⟩
      = .ok .next ⟨[.fz .deck, .fz (floorD rs ts), .fz (nD d), .fz (.bl g), .lv (.lst l), s5, .fz (nD k1)], dk1⟩ :=
    set_v (call_ok (st1 := ⟨[.fz .deck, .fz (floorD rs ts), .fz (nD d), .fz (.bl g), .lv (.lst l), s5, s6], dk⟩) (bc_v (var_fz (i := 0) (d := .deck) rfl) (bc_v (tupM (ds := [.int 0, .int 1, .int 2, .int 3, .int 5, .int 2]) rfl b6) bc_nil)) rfl rfl rfl e1 rfl)
  have k1l : k1 ≤ 5 := by
    simp only [List.mem_cons, List.not_mem_nil, or_false] at m1
    omega
  cases g with
  | false =>
    refine ⟨k1, dk1, seq_ok c1 (ifN_f (andT_f (tst_ok (w := .val (.bl false)) (var_fz (i := 3) (d := .bl false) rfl) rfl rfl))), q1.mono (by omega), by omega⟩
  | true =>
    obtain ⟨b, dk2, t, q2⟩ := tst0 3 (z := 3) (ρ := [.fz .deck, .fz (floorD rs ts), .fz (nD d), .fz (.bl true), .lv (.lst l), s5, .fz (nD k1)]) (i := 0) rfl rfl q1 (by omega) (by decide) (by decide)
    have t2 : andT (eTst truthD (eVar 3)) (eTst truthB (op2 eqW (callE F__law_draw [0, 1] [] 2 (bCons (eVar 0) (bCons (eC (.int 3)) bNil))) (eC (.int 0)))) ⟨[.fz .deck, .fz (floorD rs ts), .fz (nD d), .fz (.bl true), .lv (.lst l), s5, .fz (nD k1)], dk1⟩ = .ok b ⟨[.fz .deck, .fz (floorD rs ts), .fz (nD d), .fz (.bl true), .lv (.lst l), s5, .fz (nD k1)], dk2⟩ :=
      andT_t (tst_ok (w := .val (.bl true)) (var_fz (i := 3) (d := .bl true) rfl) rfl rfl) t
    cases b with
    | false => exact ⟨k1, dk2, seq_ok c1 (ifN_f t2), q2.mono (by omega), by omega⟩
    | true =>
      have b3 : (3 : Nat) ≤ big := by show 3 ≤ big; decide
      obtain ⟨k3, dk3, e3, q3, m3⟩ := pickN [7, 60, 1000000] q2 (by omega) (by simp) (by decide)
      obtain ⟨k4, dk4, e4, q4, m4⟩ := drawN (m := 1000000) q3 (by omega) (by decide) (by decide)
      have c3 : callE F__law_pick [0, 1] [] 2 (bCons (eVar 0) (bCons (bindE (aCons (eC (.int 7)) (aCons (eC (.int 60)) (aCons (op2 powD (eC (.int 10)) (eC (.int 6))) aNil))) tupOf) bNil)) ⟨[.fz .deck, .fz (floorD rs ts), .fz (nD d), .fz (.bl true), .lv (.lst l), s5, .fz (nD k1)], dk2⟩ = .ok (.val (nD k3)) ⟨[.fz .deck, .fz (floorD rs ts), .fz (nD d), .fz (.bl true), .lv (.lst l), s5, .fz (nD k1)], dk3⟩ :=
        call_ok (st1 := ⟨[.fz .deck, .fz (floorD rs ts), .fz (nD d), .fz (.bl true), .lv (.lst l), s5, .fz (nD k1)], dk2⟩) (bc_v (var_fz (i := 0) (d := .deck) rfl) (bc_v (tupM (ds := [.int 7, .int 60, .int 1000000]) rfl b3) bc_nil)) rfl rfl rfl e3 rfl
      have c4 : callE F__law_draw [0, 1] [] 2 (bCons (eVar 0) (bCons (op2 powD (eC (.int 10)) (eC (.int 6))) bNil)) ⟨[.fz .deck, .fz (floorD rs ts), .fz (nD d), .fz (.bl true), .lv (.lst l), s5, .fz (nD k1)], dk3⟩ = .ok (.val (nD k4)) ⟨[.fz .deck, .fz (floorD rs ts), .fz (nD d), .fz (.bl true), .lv (.lst l), s5, .fz (nD k1)], dk4⟩ :=
        call_ok (st1 := ⟨[.fz .deck, .fz (floorD rs ts), .fz (nD d), .fz (.bl true), .lv (.lst l), s5, .fz (nD k1)], dk3⟩) (bc_v (var_fz (i := 0) (d := .deck) rfl) (bc_v (d := .int 1000000) rfl bc_nil)) rfl rfl rfl e4 rfl
      have k3l : k3 ≤ 1000000 := by
        simp only [List.mem_cons, List.not_mem_nil, or_false] at m3
        omega
      have ad : addD (nD k3) (nD k4) = some (.val (nD (k3 + k4))) := by
        show some (W.val (.int ((k3 : Int) + (k4 : Int)))) = _
        rw [← Int.natCast_add]
        rfl
      exact ⟨k3 + k4, dk4, seq_ok c1 (if_t t2 (set_v (op2_ok c3 c4 rfl rfl ad))), q4.mono (by omega), by omega⟩
theorem seq_three {a b c : Ev Fl} {st st1 : Stt} (h : seqS a b st = .ok .next st1) : seqS a (seqS b c) st = c st1 := by
  rw [s_seq] at h ⊢
  cases e : a st with
  | stuck => rw [e] at h; cases h
  | exc x s => rw [e] at h; cases h
  | ok f s =>
    rw [e] at h
    cases f with
    | next =>
      have h' : b s = .ok .next st1 := h
      show seqS b c s = _
      rw [s_seq, h']
    | ret d => cases h
    | brk => cases h
    | cont => cases h
abbrev planBody (R : List D → Option Dk → RF) : Ev Fl := (ifS (andT (eTst truthB (op2 gtW (eVar 2) (eC (.int 0)))) (eTst truthB (op2 eqW (callE F__law_draw [0, 1] [] 2 (bCons (eVar 0) (bCons (eC (.int 3)) bNil))) (eC (.int 0)))))
    (seqS (setS 6 (callE F__law_pick [0, 1] [] 2 (bCons (eVar 0) (bCons (bindE (aCons (eC (.int 0)) (aCons (eC (.int 1)) (aCons (eC (.int 2)) (aCons (eC (.int 3)) (aCons (eC (.int 5)) (aCons (eC (.int 2)) aNil)))))) tupOf) bNil))))
    (seqS (ifS (andT (eTst truthD (eVar 3)) (eTst truthB (op2 eqW (callE F__law_draw [0, 1] [] 2 (bCons (eVar 0) (bCons (eC (.int 3)) bNil))) (eC (.int 0)))))
    (setS 6 (op2 addD (callE F__law_pick [0, 1] [] 2 (bCons (eVar 0) (bCons (bindE (aCons (eC (.int 7)) (aCons (eC (.int 60)) (aCons (op2 powD (eC (.int 10)) (eC (.int 6))) aNil))) tupOf) bNil))) (callE F__law_draw [0, 1] [] 2 (bCons (eVar 0) (bCons (op2 powD (eC (.int 10)) (eC (.int 6))) bNil)))))
    (okE .next))
    (exprS (methL appD (eVar 4) (aCons (bindE (aCons (eC (.str "times")) (aCons (eVar 6) (aCons (callE R [0, 1, 2, 3] [] 4 (bCons (eVar 0) (bCons (eVar 1) (bCons (op2 subD (eVar 2) (eC (.int 1))) (bCons (eVar 3) bNil))))) aNil))) tupOf) aNil)))))
    (exprS (methL appD (eVar 4) (aCons (bindE (aCons (eC (.str "beat")) (aCons (callE F__law_call [0, 1] [] 2 (bCons (eVar 0) (bCons (eVar 1) bNil))) aNil)) tupOf) aNil))))
theorem plan_turn (hF : FlOk rs ts) {R : List D → Option Dk → RF} {d : Nat} {g : Bool}
    (hR : ∀ e, d = e + 1 → ∀ (B : Int) (dk : Option Dk), Dks B dk → B + cB e < 100000000 → ∃ (q : Plan) (dk' : Option Dk), R [.deck, floorD rs ts, nD e, .bl g] dk = .ok (planD q) dk' ∧ Dks (B + cB e) dk' ∧ Pd ts.length e q)
    (p : Plan) (hn : nodes p ≤ 1000) (dk : Option Dk) (s5 s6 : Slot) (B : Int) (h : Dks B dk) (hB : B + cY d < 100000000) :
    ∃ (p' : Plan) (dk' : Option Dk) (s6' : Slot), planBody R ⟨[.fz .deck, .fz (floorD rs ts), .fz (nD d), .fz (.bl g), .lv (.lst (stepsD p)), s5, s6], dk⟩ = .ok .next ⟨[.fz .deck, .fz (floorD rs ts), .fz (nD d), .fz (.bl g), .lv (.lst (stepsD p')), s5, s6'], dk'⟩ ∧ Dks (B + cY d) dk' ∧
      (OkC ts.length p → OkC ts.length p') ∧ dep p' ≤ max (dep p) d ∧ nodes p' ≤ nodes p + nX d ∧ Wt p' ≤ Wt p + wX d := by
  have hc30 := cY_ge d
  have sl : (stepsD p).length ≤ 1000 := by rw [stepsD_eq, List.length_map]; exact Nat.le_trans (steps_len p) hn
  have e0 := eb
  -- a beat
  have beat : ∀ (dk1 : Option Dk) (B1 : Int), Dks B1 dk1 → B1 + 25 ≤ B + cY d →
      ∃ (p' : Plan) (dk' : Option Dk), exprS (methL appD (eVar 4) (aCons (bindE (aCons (eC (.str "beat")) (aCons (callE F__law_call [0, 1] [] 2 (bCons (eVar 0) (bCons (eVar 1) bNil))) aNil)) tupOf) aNil)) ⟨[.fz .deck, .fz (floorD rs ts), .fz (nD d), .fz (.bl g), .lv (.lst (stepsD p)), s5, s6], dk1⟩
        = .ok .next ⟨[.fz .deck, .fz (floorD rs ts), .fz (nD d), .fz (.bl g), .lv (.lst (stepsD p')), s5, s6], dk'⟩ ∧ Dks (B + cY d) dk' ∧ (OkC ts.length p → OkC ts.length p') ∧ dep p' ≤ max (dep p) d ∧ nodes p' ≤ nodes p + nX d ∧ Wt p' ≤ Wt p + wX d := by
    intro dk1 B1 h1 hb1
    obtain ⟨c, dk', e1, q1, a1, a2⟩ := law_call_ok hF h1 (by omega)
    have cc : callE F__law_call [0, 1] [] 2 (bCons (eVar 0) (bCons (eVar 1) bNil)) ⟨[.fz .deck, .fz (floorD rs ts), .fz (nD d), .fz (.bl g), .lv (.lst (stepsD p)), s5, s6], dk1⟩ = .ok (.val (callD c)) ⟨[.fz .deck, .fz (floorD rs ts), .fz (nD d), .fz (.bl g), .lv (.lst (stepsD p)), s5, s6], dk'⟩ :=
      call_ok (st1 := ⟨[.fz .deck, .fz (floorD rs ts), .fz (nD d), .fz (.bl g), .lv (.lst (stepsD p)), s5, s6], dk1⟩) (bc_v (var_fz (i := 0) (d := .deck) rfl) (bc_v (var_fz (i := 1) (d := floorD rs ts) rfl) bc_nil)) rfl rfl rfl e1 (noMut_call c)
    have hcl := call_len hF a1 a2
    obtain ⟨z1, z2, z3, z4⟩ := app_sz p (.beat c .nil)
    have := nX_ge d
    have := wX_ge d
    simp only [dep, nodes, Wt] at z1 z2 z3
    refine ⟨pApp p (.beat c .nil), dk', ?_, q1.mono (by omega), fun hc => z4 _ hc ⟨⟨a1, a2⟩, trivial⟩, by omega, by omega, by omega⟩
    rw [snoc_beat]
    exact append_ok (i := 4) (ds := stepsD p) (es := stepsD p) (st2 := ⟨[.fz .deck, .fz (floorD rs ts), .fz (nD d), .fz (.bl g), .lv (.lst (stepsD p)), s5, s6], dk'⟩) rfl (tupM (ac_cons rfl rfl (ac_cons cc rfl ac_nil)) (by show 2 ≤ big; decide)) rfl rfl (by omega)
  have gt : eTst truthB (op2 gtW (eVar 2) (eC (.int 0))) ⟨[.fz .deck, .fz (floorD rs ts), .fz (nD d), .fz (.bl g), .lv (.lst (stepsD p)), s5, s6], dk⟩ = .ok (decide (0 < d)) ⟨[.fz .deck, .fz (floorD rs ts), .fz (nD d), .fz (.bl g), .lv (.lst (stepsD p)), s5, s6], dk⟩ :=
    tst_ok (op2_ok (var_fz (i := 2) (d := nD d) rfl) rfl rfl rfl (gt_nat d)) rfl rfl
  cases d with
  | zero =>
    obtain ⟨p', dk', e1, q⟩ := beat dk B h (by omega)
    exact ⟨p', dk', s6, if_f (andT_f gt) e1, q⟩
  | succ e =>
    rw [decide_eq_true (by omega)] at gt
    have hcB := cB_pos e
    simp only [cY] at hB hc30
    obtain ⟨b, dk1, t, q1⟩ := tst0 3 (z := 3) (ρ := [.fz .deck, .fz (floorD rs ts), .fz (nD (e + 1)), .fz (.bl g), .lv (.lst (stepsD p)), s5, s6]) (i := 0) rfl rfl h (by omega) (by decide) (by decide)
    cases b with
    | false =>
      obtain ⟨p', dk', e1, q⟩ := beat dk1 (B + 1) q1 (by simp only [cY]; omega)
      exact ⟨p', dk', s6, if_f (andT_t gt t) e1, q⟩
    | true =>
      obtain ⟨k, dk2, k1, q2, kl⟩ := k_turn (rs := rs) (ts := ts) (d := e + 1) (g := g) (l := stepsD p) (s5 := s5) (s6 := s6) q1 (by omega)
      obtain ⟨q, dk3, r1, q3, pq⟩ := hR e rfl _ _ q2 (by omega)
      have cc : callE R [0, 1, 2, 3] [] 4 (bCons (eVar 0) (bCons (eVar 1) (bCons (op2 subD (eVar 2) (eC (.int 1))) (bCons (eVar 3) bNil)))) ⟨[.fz .deck, .fz (floorD rs ts), .fz (nD (e + 1)), .fz (.bl g), .lv (.lst (stepsD p)), s5, .fz (nD k)], dk2⟩ = .ok (.val (planD q)) ⟨[.fz .deck, .fz (floorD rs ts), .fz (nD (e + 1)), .fz (.bl g), .lv (.lst (stepsD p)), s5, .fz (nD k)], dk3⟩ := by
        have sb : op2 subD (eVar 2) (eC (.int 1)) ⟨[.fz .deck, .fz (floorD rs ts), .fz (nD (e + 1)), .fz (.bl g), .lv (.lst (stepsD p)), s5, .fz (nD k)], dk2⟩ = .ok (.val (nD e)) ⟨[.fz .deck, .fz (floorD rs ts), .fz (nD (e + 1)), .fz (.bl g), .lv (.lst (stepsD p)), s5, .fz (nD k)], dk2⟩ :=
          op2_ok (var_fz (i := 2) (d := nD (e + 1)) rfl) rfl rfl rfl (sub_nat (a := e + 1) (b := 1) (by omega))
        exact call_ok (st1 := ⟨[.fz .deck, .fz (floorD rs ts), .fz (nD (e + 1)), .fz (.bl g), .lv (.lst (stepsD p)), s5, .fz (nD k)], dk2⟩) (bc_v (var_fz (i := 0) (d := .deck) rfl) (bc_v (var_fz (i := 1) (d := floorD rs ts) rfl) (bc_v sb (bc_v (var_fz (i := 3) (d := .bl g) rfl) bc_nil)))) rfl rfl rfl r1 (noMut_plan q)
      obtain ⟨z1, z2, z3, z4⟩ := app_sz p (.times k q .nil)
      simp only [dep, nodes, Wt] at z1 z2 z3
      have a1 := pq.dp
      have a2 := pq.n
      have a3 := pq.w
      have wq : (k + 1) * Wt q ≤ 2000001 * wB e := Nat.mul_le_mul (by omega) a3
      have wp := wB_pos e
      refine ⟨pApp p (.times k q .nil), dk3, .fz (nD k), if_t (andT_t gt t) ?_, q3.mono (by simp only [cY]; omega), fun hc => z4 _ hc ⟨pq.c, trivial⟩, by omega, by simp only [nX]; omega, by simp only [wX]; omega⟩
      rw [seq_three k1, snoc_times]
      exact append_ok (i := 4) (ds := stepsD p) (es := stepsD p) (st2 := ⟨[.fz .deck, .fz (floorD rs ts), .fz (nD (e + 1)), .fz (.bl g), .lv (.lst (stepsD p)), s5, .fz (nD k)], dk3⟩) rfl (tupM (ac_cons rfl rfl (ac_cons (var_fz (i := 6) (d := nD k) rfl) rfl (ac_cons cc rfl ac_nil))) (by show 3 ≤ big; decide)) rfl rfl (by omega)
theorem law_plan_ok (hF : FlOk rs ts) (g : Bool) : ∀ (n d : Nat) (B : Int) (dk : Option Dk), d < n → d ≤ 3 → Dks B dk → B + cB d < 100000000 →
    ∃ (p : Plan) (dk' : Option Dk), F__law_plan n [.deck, floorD rs ts, nD d, .bl g] dk = .ok (planD p) dk' ∧ Dks (B + cB d) dk' ∧ Pd ts.length d p
  | 0, d, _, _, h, _, _, _ => absurd h (Nat.not_lt_zero _)
  | n + 1, d, B, dk, hd, hd3, h, hB => by
    have hcB := cB_pos d
    have hnB : nB d ≤ 300 := by
      have : d = 0 ∨ d = 1 ∨ d = 2 ∨ d = 3 := by omega
      rcases this with rfl | rfl | rfl | rfl <;> decide
    have hY : 1 + 3 * cY d ≤ cB d := by
      cases d with
      | zero => decide
      | succ e => have := cB_pos e; simp only [cY, cB]; omega
    have hX : 3 * nX d ≤ nB d := by cases d with
      | zero => decide
      | succ e => simp only [nX, nB]; omega
    have hW : 1 + 3 * wX d ≤ wB d := by cases d with
      | zero => decide
      | succ e => have := wB_pos e; simp only [wX, wB]; omega
    obtain ⟨r, dk1, e1, q1, hr⟩ := drawN (m := 4) h (by omega) (by decide) (by decide)
    have c0 : callE F__law_draw [0, 1] [] 2 (bCons (eVar 0) (bCons (eC (.int 4)) bNil)) ⟨[.fz .deck, .fz (floorD rs ts), .fz (nD d), .fz (.bl g), .lv (.lst []), .un, .un], dk⟩ = .ok (.val (nD r)) ⟨[.fz .deck, .fz (floorD rs ts), .fz (nD d), .fz (.bl g), .lv (.lst []), .un, .un], dk1⟩ :=
      call_ok (st1 := ⟨[.fz .deck, .fz (floorD rs ts), .fz (nD d), .fz (.bl g), .lv (.lst []), .un, .un], dk⟩) (bc_v (var_fz (i := 0) (d := .deck) rfl) (bc_v rfl bc_nil)) rfl rfl rfl e1 rfl
    have r0 : ofL rng1 (aCons (callE F__law_draw [0, 1] [] 2 (bCons (eVar 0) (bCons (eC (.int 4)) bNil))) aNil) ⟨[.fz .deck, .fz (floorD rs ts), .fz (nD d), .fz (.bl g), .lv (.lst []), .un, .un], dk⟩ = .ok ((List.range r).map nD) ⟨[.fz .deck, .fz (floorD rs ts), .fz (nD d), .fz (.bl g), .lv (.lst []), .un, .un], dk1⟩ := by
      refine ofL_ok (ac_cons c0 rfl ac_nil) ?_
      rw [← upTo_nD]
      exact rng_nat (by omega)
    obtain ⟨st', h1, p, dk', s5, s6, rfl, h2, h3, h4, h5, h6⟩ := forA (enc := nD) (g := nmG 5) (b := planBody (F__law_plan n)) (fun pre st => ∃ (p : Plan) (dk' : Option Dk) (s5 s6 : Slot), st = ⟨[.fz .deck, .fz (floorD rs ts), .fz (nD d), .fz (.bl g), .lv (.lst (stepsD p)), s5, s6], dk'⟩ ∧ Dks (B + 1 + ((pre.length * cY d : Nat) : Int)) dk' ∧ OkC ts.length p ∧ dep p ≤ d ∧ nodes p ≤ pre.length * nX d ∧ Wt p ≤ 1 + pre.length * wX d)
      (l := List.range r) (pre := []) (st := ⟨[.fz .deck, .fz (floorD rs ts), .fz (nD d), .fz (.bl g), .lv (.lst []), .un, .un], dk1⟩) (by
        rintro pre a post st hpre ⟨p, dk', s5, s6, rfl, b1, b2, b3, b4, b5⟩
        rw [List.nil_append] at hpre
        have hpl : pre.length + 1 ≤ r := by
          have e := congrArg List.length hpre
          rw [List.length_range, List.length_append, List.length_cons] at e
          omega
        have p3 : pre.length ≤ 2 := by omega
        have m1 : pre.length * nX d ≤ 2 * nX d := Nat.mul_le_mul_right _ p3
        have m2 : pre.length * cY d ≤ 2 * cY d := Nat.mul_le_mul_right _ p3
        obtain ⟨p', dk'', s6', c1, c2, c3, c4, c5, c6⟩ := plan_turn hF (R := F__law_plan n) (d := d) (g := g) (fun e he B dk hq hb => by
          subst he
          exact law_plan_ok hF g n e B dk (by omega) (by omega) hq hb) p (by omega) dk' (.fz (nD a)) s6 _ b1 (by omega)
        refine ⟨⟨[.fz .deck, .fz (floorD rs ts), .fz (nD d), .fz (.bl g), .lv (.lst (stepsD p)), .fz (nD a), s6], dk'⟩, _, rfl, c1, p', dk'', .fz (nD a), s6', rfl, c2.mono ?_, c3 b2, by omega, ?_, ?_⟩
        · rw [List.length_append, List.length_singleton, Nat.add_mul, Nat.one_mul]
          omega
        · rw [List.length_append, List.length_singleton, Nat.add_mul, Nat.one_mul]
          omega
        · rw [List.length_append, List.length_singleton, Nat.add_mul, Nat.one_mul]
          omega) ⟨.nil, dk1, .un, .un, rfl, by simpa using q1, trivial, Nat.zero_le _, Nat.zero_le _, by simp [Wt]⟩
    rw [List.nil_append, List.length_range] at h2 h5 h6
    have r3 : r ≤ 3 := by omega
    have m1 : r * nX d ≤ 3 * nX d := Nat.mul_le_mul_right _ r3
    have m2 : r * cY d ≤ 3 * cY d := Nat.mul_le_mul_right _ r3
    have m3 : r * wX d ≤ 3 * wX d := Nat.mul_le_mul_right _ r3
    refine ⟨p, dk', ?_, h2.mono (by omega), ⟨h3, h4, by omega, by omega⟩⟩
    exact run_ret (n := 7) (as := [.deck, floorD rs ts, nD d, .bl g]) (b := M__law_plan (F__law_plan n)) (st' := ⟨[.fz .deck, .fz (floorD rs ts), .fz (nD d), .fz (.bl g), .lv (.lst (stepsD p)), s5, s6], dk'⟩)
      (seq_ok (st1 := ⟨[.fz .deck, .fz (floorD rs ts), .fz (nD d), .fz (.bl g), .lv (.lst []), .un, .un], dk⟩) (set_f (lstM ac_nil (by decide))) (seq_ok (for_ok r0 h1) (ret_ok (w := .val (planD p)) (blt_ok (ds := [.lst (stepsD p)]) (rc_cons (var_lv (i := 4) (d := .lst (stepsD p)) rfl) rc_nil) rfl rfl) rfl))) rfl
end
end Lk12

namespace Lk12
open L2 Dl PySem.Spec
open PySem hiding upTo
open PyProof.Rows hiding inR cutD
/-! ### plans of nearly 2,000 beats -/
section
variable {rs : List Nat} {ts : List Tc}
theorem p380 : (2 : Nat) ^ 100 < 2 ^ 380 := by decide +kernel
theorem good_small {p : Plan} (c : OkC ts.length p) (d : dep p ≤ 5) (n : nodes p ≤ 3000) (w : Wt p ≤ 2 ^ 100) : Good ts p := ⟨c, d, n, Nat.lt_of_le_of_lt w p380⟩
theorem ac_c {d : D} {r : Ev (List D)} {xs : List D} {st st1 : Stt} (h : r st = .ok xs st1) : aCons (eC d) r st = .ok (d :: xs) st1 := ac_cons rfl rfl h
theorem add_tup (a b : List D) (h : a.length + b.length ≤ big) : addD (.tup a) (.tup b) = some (.val (.tup (a ++ b))) := if_pos h
def innP (j : Nat) (c : List Nat) : Plan := .times j (.beat c .nil) (.beat [] .nil)
theorem near_k (k : Nat) (h : k ∈ [1, 2, 4, 5, 8, 10, 20, 40]) : (fdivD (.int 2000) (nD k) = some (.val (nD (2000 / k)))) ∧ 1 ≤ 2000 / k ∧ k ≤ 40 := by
  have hk : 1 ≤ k ∧ k ≤ 40 := by
    simp only [List.mem_cons, List.not_mem_nil, or_false] at h
    omega
  refine ⟨?_, ?_, hk.2⟩
  · show (if divOk (k : Int) = true then some (W.val (.int ((2000 : Int) / (k : Int)))) else none) = _
    rw [if_pos (divOk_small (by omega) (by rw [Int.natAbs_natCast]; exact Nat.lt_trans (show k < 100 by omega) (by decide +kernel)))]
    rfl
  · exact (Nat.le_div_iff_mul_le (by omega)).mpr (by omega)
theorem near_ok (hF : FlOk rs ts) {B : Int} {dk : Option Dk} (h : Dks B dk) (hB : B < 90000000) :
    ∃ (p : Plan) (dk' : Option Dk), F__law_near [.deck, floorD rs ts] dk = .ok (planD p) dk' ∧ Dks (B + 30) dk' ∧ Good ts p := by
  have b8 : (8 : Nat) ≤ big := by show 8 ≤ big; decide
  have b1 : (1 : Nat) ≤ big := by show 1 ≤ big; decide
  have b2 : (2 : Nat) ≤ big := by show 2 ≤ big; decide
  have b3 : (3 : Nat) ≤ big := by show 3 ≤ big; decide
  obtain ⟨k, dk1, e1, q1, m1⟩ := pickN [1, 2, 4, 5, 8, 10, 20, 40] h (by omega) (by simp) (by decide)
  obtain ⟨kd, kj, kl⟩ := near_k k m1
  obtain ⟨c, dk2, e2, q2, a1, a2⟩ := law_call_ok hF q1 (by omega)
  have hcl := call_len hF a1 a2
  have c1 : callE F__law_pick [0, 1] [] 2 (bCons (eVar 0) (bCons (bindE (aCons (eC (.int 1)) (aCons (eC (.int 2)) (aCons (eC (.int 4)) (aCons (eC (.int 5)) (aCons (eC (.int 8)) (aCons (eC (.int 10)) (aCons (eC (.int 20)) (aCons (eC (.int 40)) aNil)))))))) tupOf) bNil)) ⟨[.fz .deck, .fz (floorD rs ts), .un, .un, .un, .un], dk⟩ = .ok (.val (nD k)) ⟨[.fz .deck, .fz (floorD rs ts), .un, .un, .un, .un], dk1⟩ :=
    call_ok (st1 := ⟨[.fz .deck, .fz (floorD rs ts), .un, .un, .un, .un], dk⟩) (bc_v (var_fz (i := 0) (d := .deck) rfl) (bc_v (tupM (ds := [.int 1, .int 2, .int 4, .int 5, .int 8, .int 10, .int 20, .int 40]) rfl b8) bc_nil)) rfl rfl rfl e1 rfl
  have c2 : callE F__law_call [0, 1] [] 2 (bCons (eVar 0) (bCons (eVar 1) bNil)) ⟨[.fz .deck, .fz (floorD rs ts), .un, .un, .un, .un], dk1⟩ = .ok (.val (callD c)) ⟨[.fz .deck, .fz (floorD rs ts), .un, .un, .un, .un], dk2⟩ :=
    call_ok (st1 := ⟨[.fz .deck, .fz (floorD rs ts), .un, .un, .un, .un], dk1⟩) (bc_v (var_fz (i := 0) (d := .deck) rfl) (bc_v (var_fz (i := 1) (d := floorD rs ts) rfl) bc_nil)) rfl rfl rfl e2 (noMut_call c)
  have s1 : parS [2, 3] (rCons (callE F__law_pick [0, 1] [] 2 (bCons (eVar 0) (bCons (bindE (aCons (eC (.int 1)) (aCons (eC (.int 2)) (aCons (eC (.int 4)) (aCons (eC (.int 5)) (aCons (eC (.int 8)) (aCons (eC (.int 10)) (aCons (eC (.int 20)) (aCons (eC (.int 40)) aNil)))))))) tupOf) bNil))) (rCons (callE F__law_call [0, 1] [] 2 (bCons (eVar 0) (bCons (eVar 1) bNil))) rNil)) ⟨[.fz .deck, .fz (floorD rs ts), .un, .un, .un, .un], dk⟩
      = .ok .next ⟨[.fz .deck, .fz (floorD rs ts), .fz (nD k), .fz (callD c), .un, .un], dk2⟩ := pars_ok (rc_cons c1 (rc_cons c2 rc_nil)) rfl rfl
  have j1 : op2 subD (op2 fdivD (eC (.int 2000)) (eVar 2)) (eC (.int 1)) ⟨[.fz .deck, .fz (floorD rs ts), .fz (nD k), .fz (callD c), .un, .un], dk2⟩ = .ok (.val (nD (2000 / k - 1))) ⟨[.fz .deck, .fz (floorD rs ts), .fz (nD k), .fz (callD c), .un, .un], dk2⟩ :=
    op2_ok (op2_ok rfl (var_fz (i := 2) (d := nD k) rfl) rfl rfl kd) rfl rfl rfl (sub_nat kj)
  have s2 : setS 4 (bindE (aCons (bindE (aCons (eC (.str "times")) (aCons (op2 subD (op2 fdivD (eC (.int 2000)) (eVar 2)) (eC (.int 1))) (aCons (bindE (aCons (bindE (aCons (eC (.str "beat")) (aCons (eVar 3) aNil)) tupOf) aNil) tupOf) aNil))) tupOf) (aCons (bindE (aCons (eC (.str "beat")) (aCons (bindE aNil tupOf) aNil)) tupOf) aNil)) tupOf) ⟨[.fz .deck, .fz (floorD rs ts), .fz (nD k), .fz (callD c), .un, .un], dk2⟩
      = .ok .next ⟨[.fz .deck, .fz (floorD rs ts), .fz (nD k), .fz (callD c), .fz (planD (innP (2000 / k - 1) c)), .un], dk2⟩ := by
    refine set_v (tupM (ac_cons (w := .val (.tup [.str "times", nD (2000 / k - 1), .tup [.tup [.str "beat", callD c]]])) (tupM (ac_c (ac_cons j1 rfl (ac_cons (tupM (ac_cons (tupM (ac_c (ac_cons (var_fz (i := 3) (d := callD c) rfl) rfl ac_nil)) b2) rfl ac_nil) b1) rfl ac_nil))) b3) rfl
      (ac_cons (w := .val (.tup [.str "beat", .tup []])) (tupM (ac_c (ac_cons (tupM ac_nil (by decide)) rfl ac_nil)) b2) rfl ac_nil)) b2)
  have s3 : setS 5 (bindE (aCons (bindE (aCons (eC (.str "times")) (aCons (eVar 2) (aCons (eVar 4) aNil))) tupOf) aNil) tupOf) ⟨[.fz .deck, .fz (floorD rs ts), .fz (nD k), .fz (callD c), .fz (planD (innP (2000 / k - 1) c)), .un], dk2⟩
      = .ok .next ⟨[.fz .deck, .fz (floorD rs ts), .fz (nD k), .fz (callD c), .fz (planD (innP (2000 / k - 1) c)), .fz (planD (.times k (innP (2000 / k - 1) c) .nil))], dk2⟩ :=
    set_v (tupM (ac_cons (tupM (ac_c (ac_cons (var_fz (i := 2) (d := nD k) rfl) rfl (ac_cons (var_fz (i := 4) (d := planD (innP (2000 / k - 1) c)) rfl) rfl ac_nil))) b3) rfl ac_nil) b1)
  have jl : 2000 / k ≤ 2000 := Nat.div_le_self _ _
  have wi : Wt (innP (2000 / k - 1) c) ≤ 2001 * 30 := by
    have : (2000 / k - 1 + 1) * (1 + c.length + 1) ≤ 2000 * 22 := Nat.mul_le_mul (by omega) (by omega)
    simp only [innP, Wt, List.length_nil]
    omega
  have oki : OkC ts.length (innP (2000 / k - 1) c) := ⟨⟨⟨a1, a2⟩, trivial⟩, ⟨⟨List.Pairwise.nil, fun x hx => by cases hx⟩, trivial⟩⟩
  have wk : (k + 1) * Wt (innP (2000 / k - 1) c) ≤ 41 * (2001 * 30) := Nat.mul_le_mul (by omega) wi
  have big100 : 41 * (2001 * 30) + 2001 * 30 + 5000 ≤ 2 ^ 100 := by decide +kernel
  have g1 : Good ts (.times k (innP (2000 / k - 1) c) .nil) := good_small ⟨oki, trivial⟩ (by simp [innP, dep]) (by simp [innP, nodes]) (by simp only [Wt]; omega)
  obtain ⟨b, dk3, t1, q3⟩ := tst0 3 (z := 3) (ρ := [.fz .deck, .fz (floorD rs ts), .fz (nD k), .fz (callD c), .fz (planD (innP (2000 / k - 1) c)), .fz (planD (.times k (innP (2000 / k - 1) c) .nil))]) (i := 0) rfl rfl q2 (by omega) (by decide) (by decide)
  have v5 : ∀ dk, eVar 5 ⟨[.fz .deck, .fz (floorD rs ts), .fz (nD k), .fz (callD c), .fz (planD (innP (2000 / k - 1) c)), .fz (planD (.times k (innP (2000 / k - 1) c) .nil))], dk⟩ = .ok (.val (planD (.times k (innP (2000 / k - 1) c) .nil))) ⟨[.fz .deck, .fz (floorD rs ts), .fz (nD k), .fz (callD c), .fz (planD (innP (2000 / k - 1) c)), .fz (planD (.times k (innP (2000 / k - 1) c) .nil))], dk⟩ := fun _ => rfl
  cases b with
  | true =>
    refine ⟨.times k (innP (2000 / k - 1) c) (.beat c .nil), dk3, ?_, q3.mono (by omega), good_small ⟨oki, ⟨⟨a1, a2⟩, trivial⟩⟩ (by simp [innP, dep]) (by simp [innP, nodes]) (by simp only [Wt]; omega)⟩
    have ad : op2 addD (eVar 5) (bindE (aCons (bindE (aCons (eC (.str "beat")) (aCons (eVar 3) aNil)) tupOf) aNil) tupOf) ⟨[.fz .deck, .fz (floorD rs ts), .fz (nD k), .fz (callD c), .fz (planD (innP (2000 / k - 1) c)), .fz (planD (.times k (innP (2000 / k - 1) c) .nil))], dk3⟩
        = .ok (.val (planD (.times k (innP (2000 / k - 1) c) (.beat c .nil)))) ⟨[.fz .deck, .fz (floorD rs ts), .fz (nD k), .fz (callD c), .fz (planD (innP (2000 / k - 1) c)), .fz (planD (.times k (innP (2000 / k - 1) c) .nil))], dk3⟩ := by
      refine op2_ok (v5 dk3) (tupM (ac_cons (tupM (ac_c (ac_cons (var_fz (i := 3) (d := callD c) rfl) rfl ac_nil)) b2) rfl ac_nil) b1) rfl rfl ?_
      exact add_tup _ _ b2
    have r := if_t (s1 := retS (op2 addD (eVar 5) (bindE (aCons (bindE (aCons (eC (.str "beat")) (aCons (eVar 3) aNil)) tupOf) aNil) tupOf))) (s2 := okE .next) t1 (ret_ok ad rfl)
    refine run_ret (n := 6) (as := [.deck, floorD rs ts]) (b := M__law_near) (st' := ⟨[.fz .deck, .fz (floorD rs ts), .fz (nD k), .fz (callD c), .fz (planD (innP (2000 / k - 1) c)), .fz (planD (.times k (innP (2000 / k - 1) c) .nil))], dk3⟩) (seq_ok s1 (seq_ok s2 (seq_ok s3 ?_))) rfl
    rw [s_seq, r]
  | false =>
    obtain ⟨b', dk4, t2, q4⟩ := tst0 2 (z := 2) (ρ := [.fz .deck, .fz (floorD rs ts), .fz (nD k), .fz (callD c), .fz (planD (innP (2000 / k - 1) c)), .fz (planD (.times k (innP (2000 / k - 1) c) .nil))]) (i := 0) rfl rfl q3 (by omega) (by decide) (by decide)
    cases b' with
    | true =>
      refine ⟨_, dk4, ?_, q4.mono (by omega), g1⟩
      exact run_ret (n := 6) (as := [.deck, floorD rs ts]) (b := M__law_near) (st' := ⟨[.fz .deck, .fz (floorD rs ts), .fz (nD k), .fz (callD c), .fz (planD (innP (2000 / k - 1) c)), .fz (planD (.times k (innP (2000 / k - 1) c) .nil))], dk4⟩) (seq_ok s1 (seq_ok s2 (seq_ok s3 (seq_ok (ifN_f t1) (ret_ok (ifE_t t2 (v5 dk4)) rfl))))) rfl
    | false =>
      refine ⟨.times k (innP (2000 / k - 1) c) (.times 0 (innP (2000 / k - 1) c) (.times 1000 .nil .nil)), dk4, ?_, q4.mono (by omega), good_small ⟨oki, oki, trivial, trivial⟩ (by simp [innP, dep]) (by simp [innP, nodes]) (by simp only [Wt]; omega)⟩
      have ad : op2 addD (eVar 5) (bindE (aCons (bindE (aCons (eC (.str "times")) (aCons (eC (.int 0)) (aCons (eVar 4) aNil))) tupOf) (aCons (bindE (aCons (eC (.str "times")) (aCons (eC (.int 1000)) (aCons (bindE aNil tupOf) aNil))) tupOf) aNil)) tupOf) ⟨[.fz .deck, .fz (floorD rs ts), .fz (nD k), .fz (callD c), .fz (planD (innP (2000 / k - 1) c)), .fz (planD (.times k (innP (2000 / k - 1) c) .nil))], dk4⟩
          = .ok (.val (planD (.times k (innP (2000 / k - 1) c) (.times 0 (innP (2000 / k - 1) c) (.times 1000 .nil .nil))))) ⟨[.fz .deck, .fz (floorD rs ts), .fz (nD k), .fz (callD c), .fz (planD (innP (2000 / k - 1) c)), .fz (planD (.times k (innP (2000 / k - 1) c) .nil))], dk4⟩ := by
        refine op2_ok (v5 dk4) (tupM (ac_cons (tupM (ac_c (ac_c (ac_cons (var_fz (i := 4) (d := planD (innP (2000 / k - 1) c)) rfl) rfl ac_nil))) b3) rfl (ac_cons (tupM (ac_c (ac_c (ac_cons (tupM ac_nil (by decide)) rfl ac_nil))) b3) rfl ac_nil)) b2) rfl rfl ?_
        exact add_tup _ _ b3
      exact run_ret (n := 6) (as := [.deck, floorD rs ts]) (b := M__law_near) (st' := ⟨[.fz .deck, .fz (floorD rs ts), .fz (nD k), .fz (callD c), .fz (planD (innP (2000 / k - 1) c)), .fz (planD (.times k (innP (2000 / k - 1) c) .nil))], dk4⟩) (seq_ok s1 (seq_ok s2 (seq_ok s3 (seq_ok (ifN_f t1) (ret_ok (ifE_f t2 ad) rfl))))) rfl
end
end Lk12

namespace Lk12
open L2 Dl PySem.Spec
open PySem hiding upTo
open PyProof.Rows hiding inR cutD
/-! ### the parts of law -/
section
variable {ns : List Int} {rs : List Nat} {ts : List Tc} {dk : Option Dk} {B : Int} {s2 s3 s4 s5 s6 s7 s8 s9 : Slot} {st : Stt}
abbrev Sw (ns : List Int) (s2 s3 s4 s5 s6 s7 s8 s9 : Slot) (dk : Option Dk) : Stt := ⟨[.fz (.scr ns), .fz .deck, s2, s3, s4, s5, s6, s7, s8, s9], dk⟩
theorem cut_plan (p : Plan) (k : Nat) : cutW (planD p) none (some (k : Int)) = some (.val (planD (pTake k p))) := by
  show some (W.val (.tup (cutD (stepsD p) none (some (k : Int))))) = some (W.val (.tup (stepsD (pTake k p))))
  have e : cutD (stepsD p) none (some (k : Int)) = stepsD (pTake k p) := by
    unfold cutD
    rw [take_D, HT.sIx_none, HT.sIx_nat, List.drop_zero, Nat.sub_zero, Nat.min_comm, List.take_eq_take_min (i := k), Nat.min_comm]
  rw [e]
theorem slice_v {i : Nat} {p : Plan} (k : Nat) {z : Int} (hz : z = (k : Int)) (h : st.ρ[i]? = some (.fz (planD p))) : sliceE (eVar i) oNone (oSome (eC (.int z))) st = .ok (.val (planD (pTake k p))) st := by
  subst hz
  unfold sliceE oNone oSome
  rw [s_bind, var_fz h]
  simp only [s_bind, s_ok, s_c, content, s_app1, cut_plan]
theorem add_plan {p q : Plan} (h : (stepsD p).length + (stepsD q).length ≤ big) : addD (planD p) (planD q) = some (.val (planD (pApp p q))) := by
  have e := add_tup (stepsD p) (stepsD q) h
  rw [← app_D] at e
  exact e
theorem steps_le (p : Plan) {n : Nat} (h : nodes p ≤ n) : (stepsD p).length ≤ n := by
  rw [stepsD_eq, List.length_map]
  exact Nat.le_trans (steps_len p) h
theorem nB2 : nB 2 = 39 := rfl
theorem wB2 : wB 2 = 2 ^ 55 := by decide +kernel
structure Pl2 (ts : List Tc) (p : Plan) : Prop where
  c : OkC ts.length p
  d : dep p ≤ 2
  n : nodes p ≤ 39
  w : Wt p ≤ 2 ^ 55
theorem Pl2.take {p : Plan} (h : Pl2 ts p) (k : Nat) : Pl2 ts (pTake k p) := by
  obtain ⟨a1, a2, a3, a4⟩ := take_sz k p
  exact ⟨a4 _ h.c, Nat.le_trans a1 h.d, Nat.le_trans a2 h.n, Nat.le_trans a3 h.w⟩
theorem Pl2.good {p : Plan} (h : Pl2 ts p) : Good ts p := good_small h.c (by have := h.d; omega) (by have := h.n; omega) (Nat.le_trans h.w (by decide +kernel))
theorem good_app {p q : Plan} (h : Pl2 ts p) (h' : Pl2 ts q) : Good ts (pApp p q) := by
  obtain ⟨a1, a2, a3, a4⟩ := app_sz p q
  refine good_small (a4 _ h.c h'.c) (by have := h.d; have := h'.d; omega) (by have := h.n; have := h'.n; omega) (Nat.le_trans a3 ?_)
  exact Nat.le_trans (Nat.add_le_add h.w h'.w) (by decide +kernel)
theorem good_times {p : Plan} {k : Nat} (h : OkC ts.length p) (hd : dep p ≤ 4) (hn : nodes p ≤ 100) (hw : Wt p ≤ 2 ^ 80) (hk : k ≤ 10 ^ 30) : Good ts (.times k p .nil) := by
  refine ⟨⟨h, trivial⟩, by simp only [dep]; omega, by simp only [nodes]; omega, ?_⟩
  have e : (k + 1) * Wt p ≤ (10 ^ 30 + 1) * 2 ^ 80 := Nat.mul_le_mul (by omega) hw
  have e2 : (10 ^ 30 + 1) * 2 ^ 80 + 1 < 2 ^ 380 := by decide +kernel
  simp only [Wt]
  omega
/-! ### the plans of a turn -/
theorem plansL (hF : FlOk rs ts) (h : Dks B dk) (hB : B < 90000000) : ∃ (p q : Plan) (dk' : Option Dk), parS [4, 5] (rCons (callE (F__law_plan 12) [0, 1, 2, 3] [] 4 (bCons (eVar 1) (bCons (eVar 3) (bCons (eC (.int 2)) (bCons (eC (.bl true)) bNil))))) (rCons (callE (F__law_plan 12) [0, 1, 2, 3] [] 4 (bCons (eVar 1) (bCons (eVar 3) (bCons (eC (.int 2)) (bCons (eC (.bl false)) bNil))))) rNil))
      (Sw ns s2 (.fz (floorD rs ts)) s4 s5 s6 s7 s8 s9 dk) = .ok .next (Sw ns s2 (.fz (floorD rs ts)) (.fz (planD p)) (.fz (planD q)) s6 s7 s8 s9 dk') ∧ Dks (B + 6400) dk' ∧ Pl2 ts p ∧ Pl2 ts q := by
  have c2 : ((cB 2 : Nat) : Int) = 3200 := rfl
  obtain ⟨p, dk1, e1, q1, h1⟩ := law_plan_ok hF true 12 2 B dk (by decide) (by decide) h (by omega)
  obtain ⟨q, dk2, e2, q2, h2⟩ := law_plan_ok hF false 12 2 _ dk1 (by decide) (by decide) q1 (by omega)
  have f : ∀ {p : Plan}, Pd ts.length 2 p → Pl2 ts p := fun h => ⟨h.c, h.dp, by have := h.n; rw [nB2] at this; exact this, by have := h.w; rw [wB2] at this; exact this⟩
  refine ⟨p, q, dk2, ?_, q2.mono (by omega), f h1, f h2⟩
  have a1 : callE (F__law_plan 12) [0, 1, 2, 3] [] 4 (bCons (eVar 1) (bCons (eVar 3) (bCons (eC (.int 2)) (bCons (eC (.bl true)) bNil)))) (Sw ns s2 (.fz (floorD rs ts)) s4 s5 s6 s7 s8 s9 dk) = .ok (.val (planD p)) (Sw ns s2 (.fz (floorD rs ts)) s4 s5 s6 s7 s8 s9 dk1) :=
    call_ok (st1 := Sw ns s2 (.fz (floorD rs ts)) s4 s5 s6 s7 s8 s9 dk) (bc_v (var_fz (i := 1) (d := .deck) rfl) (bc_v (var_fz (i := 3) (d := floorD rs ts) rfl) (bc_v rfl (bc_v rfl bc_nil)))) rfl rfl rfl e1 (noMut_plan p)
  have a2 : callE (F__law_plan 12) [0, 1, 2, 3] [] 4 (bCons (eVar 1) (bCons (eVar 3) (bCons (eC (.int 2)) (bCons (eC (.bl false)) bNil)))) (Sw ns s2 (.fz (floorD rs ts)) s4 s5 s6 s7 s8 s9 dk1) = .ok (.val (planD q)) (Sw ns s2 (.fz (floorD rs ts)) s4 s5 s6 s7 s8 s9 dk2) :=
    call_ok (st1 := Sw ns s2 (.fz (floorD rs ts)) s4 s5 s6 s7 s8 s9 dk1) (bc_v (var_fz (i := 1) (d := .deck) rfl) (bc_v (var_fz (i := 3) (d := floorD rs ts) rfl) (bc_v rfl (bc_v rfl bc_nil)))) rfl rfl rfl e2 (noMut_plan q)
  exact pars_ok (rc_cons a1 (rc_cons a2 rc_nil)) rfl rfl
theorem floorL (h : Dks B dk) (hB : B < 90000) : ∃ (rs : List Nat) (ts : List Tc) (dk' : Option Dk), setS 3 (callE F__law_floor [0, 1] [] 2 (bCons (eVar 1) (bCons (ifE (eTst truthB (op2 eqW (callE F__law_draw [0, 1] [] 2 (bCons (eVar 1) (bCons (eC (.int 4)) bNil))) (eC (.int 0)))) (eC (.int 24)) (eC (.int 9))) bNil)))
      (Sw ns s2 s3 s4 s5 s6 s7 s8 s9 dk) = .ok .next (Sw ns s2 (.fz (floorD rs ts)) s4 s5 s6 s7 s8 s9 dk') ∧ Dks (B + 101) dk' ∧ FlOk rs ts := by
  obtain ⟨b, dk1, t, q1⟩ := tst0 4 (z := 4) (ρ := [.fz (.scr ns), .fz .deck, s2, s3, s4, s5, s6, s7, s8, s9]) (i := 1) rfl rfl h (by omega) (by decide) (by decide)
  cases b with
  | true =>
    obtain ⟨rs, ts, dk2, e, q2, hF⟩ := floor_ok (M := 24) (by decide) q1 (by omega)
    refine ⟨rs, ts, dk2, ?_, q2.mono (by omega), hF⟩
    exact set_v (call_ok (st1 := Sw ns s2 s3 s4 s5 s6 s7 s8 s9 dk1) (bc_v (var_fz (i := 1) (d := .deck) rfl) (bc_v (d := nD 24) (ifE_t t rfl) bc_nil)) rfl rfl rfl e (noMut_floor rs ts))
  | false =>
    obtain ⟨rs, ts, dk2, e, q2, hF⟩ := floor_ok (M := 9) (by decide) q1 (by omega)
    refine ⟨rs, ts, dk2, ?_, q2.mono (by omega), hF⟩
    exact set_v (call_ok (st1 := Sw ns s2 s3 s4 s5 s6 s7 s8 s9 dk1) (bc_v (var_fz (i := 1) (d := .deck) rfl) (bc_v (d := nD 9) (ifE_f t rfl) bc_nil)) rfl rfl rfl e (noMut_floor rs ts))
end
end Lk12

namespace Lk12
open L2 Dl PySem.Spec
open PySem hiding upTo
open PyProof.Rows hiding inR cutD
section
variable {ns : List Int} {rs : List Nat} {ts : List Tc} {dk : Option Dk} {B : Int} {s2 s3 s4 s5 s6 s7 s8 s9 : Slot} {st : Stt} {p q : Plan} {k : Nat}
theorem pow6 : powD (.int 10) (.int 6) = some (.val (nD (10 ^ 6))) := by
  simp only [powD]
  rw [if_pos (by decide)]
  rfl
theorem pow20 : powD (.int 10) (.int 20) = some (.val (nD (10 ^ 20))) := by
  simp only [powD]
  rw [if_pos (by decide)]
  rfl
theorem pow30 : powD (.int 10) (.int 30) = some (.val (nD (10 ^ 30))) := by
  simp only [powD]
  rw [if_pos (by decide)]
  rfl
theorem ac_w {d : D} {e : Ev W} {r : Ev (List D)} {xs : List D} {st st1 st2 : Stt} (h : e st = .ok (.val d) st1) (h2 : r st1 = .ok xs st2) : aCons e r st = .ok (d :: xs) st2 := ac_cons h rfl h2
theorem kL (h : Dks B dk) (hB : B < 90000000) : ∃ (k : Nat) (dk' : Option Dk), setS 6 (callE F__law_pick [0, 1] [] 2 (bCons (eVar 1) (bCons (bindE (aCons (eC (.int 0)) (aCons (eC (.int 1)) (aCons (eC (.int 2)) (aCons (eC (.int 7)) (aCons (op2 powD (eC (.int 10)) (eC (.int 6))) (aCons (op2 powD (eC (.int 10)) (eC (.int 20))) aNil)))))) tupOf) bNil)))
      (Sw ns s2 s3 s4 s5 s6 s7 s8 s9 dk) = .ok .next (Sw ns s2 s3 s4 s5 (.fz (nD k)) s7 s8 s9 dk') ∧ Dks (B + 1) dk' ∧ k ≤ 10 ^ 20 := by
  obtain ⟨k, dk1, e, q1, hk⟩ := pickN [0, 1, 2, 7, 10 ^ 6, 10 ^ 20] h (by omega) (by simp) (by decide)
  refine ⟨k, dk1, ?_, q1, ?_⟩
  · have t : bindE (aCons (eC (.int 0)) (aCons (eC (.int 1)) (aCons (eC (.int 2)) (aCons (eC (.int 7)) (aCons (op2 powD (eC (.int 10)) (eC (.int 6))) (aCons (op2 powD (eC (.int 10)) (eC (.int 20))) aNil)))))) tupOf (Sw ns s2 s3 s4 s5 s6 s7 s8 s9 dk)
        = .ok (.val (.tup ([0, 1, 2, 7, 10 ^ 6, 10 ^ 20].map nD))) (Sw ns s2 s3 s4 s5 s6 s7 s8 s9 dk) :=
      tupM (ac_c (ac_c (ac_c (ac_c (ac_w (op2_ok rfl rfl rfl rfl pow6) (ac_w (op2_ok rfl rfl rfl rfl pow20) ac_nil)))))) (by show 6 ≤ big; decide)
    exact set_v (call_ok (st1 := Sw ns s2 s3 s4 s5 s6 s7 s8 s9 dk) (bc_v (var_fz (i := 1) (d := .deck) rfl) (bc_v t bc_nil)) rfl rfl rfl e rfl)
  · simp only [List.mem_cons, List.not_mem_nil, or_false] at hk
    omega
def deepP (k r : Nat) (q : Plan) : Plan := .times k (.times r (pTake 2 q) .nil) .nil
theorem deepL (h : Dks B dk) (hB : B < 90000000) : ∃ (r : Nat) (dk' : Option Dk), setS 7 (bindE (aCons (bindE (aCons (eC (.str "times")) (aCons (eVar 6) (aCons (bindE (aCons (bindE (aCons (eC (.str "times")) (aCons (callE F__law_draw [0, 1] [] 2 (bCons (eVar 1) (bCons (eC (.int 10)) bNil))) (aCons (sliceE (eVar 5) oNone (oSome (eC (.int 2)))) aNil))) tupOf) aNil) tupOf) aNil))) tupOf) aNil) tupOf)
      (Sw ns s2 s3 s4 (.fz (planD q)) (.fz (nD k)) s7 s8 s9 dk) = .ok .next (Sw ns s2 s3 s4 (.fz (planD q)) (.fz (nD k)) (.fz (planD (deepP k r q))) s8 s9 dk') ∧ Dks (B + 1) dk' ∧ r < 10 := by
  have b1 : (1 : Nat) ≤ big := by show 1 ≤ big; decide
  have b3 : (3 : Nat) ≤ big := by show 3 ≤ big; decide
  obtain ⟨r, dk1, e1, q1, m1⟩ := drawN (m := 10) h (by omega) (by decide) (by decide)
  have c : callE F__law_draw [0, 1] [] 2 (bCons (eVar 1) (bCons (eC (.int 10)) bNil)) (Sw ns s2 s3 s4 (.fz (planD q)) (.fz (nD k)) s7 s8 s9 dk) = .ok (.val (nD r)) (Sw ns s2 s3 s4 (.fz (planD q)) (.fz (nD k)) s7 s8 s9 dk1) :=
    call_ok (st1 := Sw ns s2 s3 s4 (.fz (planD q)) (.fz (nD k)) s7 s8 s9 dk) (bc_v (var_fz (i := 1) (d := .deck) rfl) (bc_v rfl bc_nil)) rfl rfl rfl e1 rfl
  refine ⟨r, dk1, ?_, q1, m1⟩
  exact set_v (tupM (ac_w (tupM (ac_c (ac_w (var_fz (i := 6) (d := nD k) rfl) (ac_w (tupM (ac_w (tupM (ac_c (ac_w c (ac_w (slice_v 2 rfl rfl) ac_nil))) b3) ac_nil) b1) ac_nil))) b3) ac_nil) b1)
noncomputable abbrev cntS : Ev Fl := ifS (bindE (eTst truthD (callE F__law_is_counted_right [0, 1] [] 2 (bCons (eVar 3) (bCons (eVar 8) bNil)))) fun b => okE (!b)) (retS (eC (.bl false))) (okE .next)
theorem fiveL (hF : FlOk rs ts) (hp : Pl2 ts p) (hq : Pl2 ts q) {r : Nat} (hk : k ≤ 10 ^ 20) (hr : r < 10) : ∃ s8' : Slot, forS (seqM (bindE (aCons (eVar 4) (aCons (eVar 5) (aCons (op2 addD (sliceE (eVar 4) oNone (oSome (eC (.int 2)))) (sliceE (eVar 5) oNone (oSome (eC (.int 2))))) (aCons (eVar 7) (aCons (bindE aNil tupOf) aNil))))) tupOf)) (nmG 8) cntS
      (Sw ns s2 (.fz (floorD rs ts)) (.fz (planD p)) (.fz (planD q)) s6 (.fz (planD (deepP k r q))) s8 s9 dk) = .ok .next (Sw ns s2 (.fz (floorD rs ts)) (.fz (planD p)) (.fz (planD q)) s6 (.fz (planD (deepP k r q))) s8' s9 dk) := by
  have b5 : (5 : Nat) ≤ big := by show 5 ≤ big; decide
  have m : seqM (bindE (aCons (eVar 4) (aCons (eVar 5) (aCons (op2 addD (sliceE (eVar 4) oNone (oSome (eC (.int 2)))) (sliceE (eVar 5) oNone (oSome (eC (.int 2))))) (aCons (eVar 7) (aCons (bindE aNil tupOf) aNil))))) tupOf) (Sw ns s2 (.fz (floorD rs ts)) (.fz (planD p)) (.fz (planD q)) s6 (.fz (planD (deepP k r q))) s8 s9 dk)
      = .ok ([p, q, pApp (pTake 2 p) (pTake 2 q), deepP k r q, .nil].map planD) (Sw ns s2 (.fz (floorD rs ts)) (.fz (planD p)) (.fz (planD q)) s6 (.fz (planD (deepP k r q))) s8 s9 dk) := by
    refine seqM_ok (d := .tup ([p, q, pApp (pTake 2 p) (pTake 2 q), deepP k r q, .nil].map planD)) (tupM (ac_w (var_fz (i := 4) (d := planD p) rfl) (ac_w (var_fz (i := 5) (d := planD q) rfl) (ac_w (op2_ok (slice_v 2 rfl rfl) (slice_v 2 rfl rfl) rfl rfl (add_plan ?_)) (ac_w (var_fz (i := 7) (d := planD (deepP k r q)) rfl) (ac_w (tupM ac_nil (by decide)) ac_nil))))) b5) rfl rfl
    exact Nat.le_trans (Nat.add_le_add (steps_le _ (hp.take 2).n) (steps_le _ (hq.take 2).n)) (by decide)
  have gd : Good ts (deepP k r q) := by
    have h2 := hq.take 2
    have w : Wt (.times r (pTake 2 q) .nil) ≤ 2 ^ 80 := by
      have e : (r + 1) * Wt (pTake 2 q) ≤ 10 * 2 ^ 55 := Nat.mul_le_mul (by omega) h2.w
      have e2 : 10 * 2 ^ 55 + 1 ≤ 2 ^ 80 := by decide +kernel
      simp only [Wt]
      omega
    exact good_times ⟨h2.c, trivial⟩ (by have := h2.d; simp only [dep]; omega) (by have := h2.n; simp only [nodes]; omega) w (Nat.le_trans hk (by decide +kernel))
  have gn : Good ts .nil := good_small trivial (by simp [dep]) (by simp [nodes]) (by simp only [Wt]; decide +kernel)
  obtain ⟨st', e, s8', rfl⟩ := forA (enc := planD) (g := nmG 8) (b := cntS) (fun _ st => ∃ s8 : Slot, st = Sw ns s2 (.fz (floorD rs ts)) (.fz (planD p)) (.fz (planD q)) s6 (.fz (planD (deepP k r q))) s8 s9 dk)
    (l := [p, q, pApp (pTake 2 p) (pTake 2 q), deepP k r q, .nil]) (pre := []) (st := Sw ns s2 (.fz (floorD rs ts)) (.fz (planD p)) (.fz (planD q)) s6 (.fz (planD (deepP k r q))) s8 s9 dk) (by
      rintro pre a post st hpre ⟨s8, rfl⟩
      have ga : Good ts a := by
        have hm : a ∈ [p, q, pApp (pTake 2 p) (pTake 2 q), deepP k r q, .nil] := by
          rw [List.nil_append] at hpre
          rw [hpre]
          simp
        simp only [List.mem_cons, List.not_mem_nil, or_false] at hm
        rcases hm with rfl | rfl | rfl | rfl | rfl
        · exact hp.good
        · exact hq.good
        · exact good_app (hp.take 2) (hq.take 2)
        · exact gd
        · exact gn
      have c : callE F__law_is_counted_right [0, 1] [] 2 (bCons (eVar 3) (bCons (eVar 8) bNil)) (Sw ns s2 (.fz (floorD rs ts)) (.fz (planD p)) (.fz (planD q)) s6 (.fz (planD (deepP k r q))) (.fz (planD a)) s9 dk) = .ok (.val (.bl true)) (Sw ns s2 (.fz (floorD rs ts)) (.fz (planD p)) (.fz (planD q)) s6 (.fz (planD (deepP k r q))) (.fz (planD a)) s9 dk) :=
        call_ok (st1 := Sw ns s2 (.fz (floorD rs ts)) (.fz (planD p)) (.fz (planD q)) s6 (.fz (planD (deepP k r q))) (.fz (planD a)) s9 dk) (bc_v (var_fz (i := 3) (d := floorD rs ts) rfl) (bc_v (var_fz (i := 8) (d := planD a) rfl) bc_nil)) rfl rfl rfl (counted_ok hF ga dk) rfl
      exact ⟨Sw ns s2 (.fz (floorD rs ts)) (.fz (planD p)) (.fz (planD q)) s6 (.fz (planD (deepP k r q))) (.fz (planD a)) s9 dk, _, rfl, ifN_f (not_t c rfl), _, rfl⟩) ⟨s8, rfl⟩
  exact ⟨s8', for_ok m e⟩
end
end Lk12

namespace Lk12
open L2 Dl PySem.Spec
open PySem hiding upTo
open PyProof.Rows hiding inR cutD
section
variable {ns : List Int} {rs : List Nat} {ts : List Tc} {dk : Option Dk} {B : Int} {s2 s3 s4 s5 s6 s7 s8 s9 : Slot} {st : Stt} {p q : Plan} {k : Nat}
def noneP (p q : Plan) : Plan := .times 0 (pApp (pTake 1 q) (pTake 1 p)) (.times (10 ^ 30) .nil .nil)
theorem none_good (hp : Pl2 ts p) (hq : Pl2 ts q) : Good ts (noneP p q) := by
  have g := good_app (hq.take 1) (hp.take 1)
  obtain ⟨a1, a2, a3, a4⟩ := app_sz (pTake 1 q) (pTake 1 p)
  have w : Wt (pApp (pTake 1 q) (pTake 1 p)) ≤ 2 ^ 56 := Nat.le_trans a3 (Nat.le_trans (Nat.add_le_add (hq.take 1).w (hp.take 1).w) (by decide +kernel))
  refine ⟨⟨g.c, trivial, trivial⟩, ?_, ?_, ?_⟩
  · have := (hp.take 1).d
    have := (hq.take 1).d
    simp only [noneP, dep]
    omega
  · have := (hp.take 1).n
    have := (hq.take 1).n
    simp only [noneP, nodes]
    omega
  · have e2 : 2 ^ 56 + ((10 ^ 30 + 1) + 1) < 2 ^ 380 := by decide +kernel
    simp only [noneP, Wt]
    omega
theorem noneL (hp : Pl2 ts p) (hq : Pl2 ts q) : setS 9 (bindE (aCons (bindE (aCons (eC (.str "times")) (aCons (eC (.int 0)) (aCons (op2 addD (sliceE (eVar 5) oNone (oSome (eC (.int 1)))) (sliceE (eVar 4) oNone (oSome (eC (.int 1))))) aNil))) tupOf) (aCons (bindE (aCons (eC (.str "times")) (aCons (op2 powD (eC (.int 10)) (eC (.int 30))) (aCons (bindE aNil tupOf) aNil))) tupOf) aNil)) tupOf)
    (Sw ns s2 s3 (.fz (planD p)) (.fz (planD q)) s6 s7 s8 s9 dk) = .ok .next (Sw ns s2 s3 (.fz (planD p)) (.fz (planD q)) s6 s7 s8 (.fz (planD (noneP p q))) dk) := by
  have b2 : (2 : Nat) ≤ big := by show 2 ≤ big; decide
  have b3 : (3 : Nat) ≤ big := by show 3 ≤ big; decide
  refine set_v (tupM (ac_w (tupM (ac_c (ac_c (ac_w (op2_ok (slice_v 1 rfl rfl) (slice_v 1 rfl rfl) rfl rfl (add_plan ?_)) ac_nil))) b3) (ac_w (tupM (ac_c (ac_w (op2_ok rfl rfl rfl rfl pow30) (ac_w (tupM ac_nil (by decide)) ac_nil))) b3) ac_nil)) b2)
  exact Nat.le_trans (Nat.add_le_add (steps_le _ (hq.take 1).n) (steps_le _ (hp.take 1).n)) (by decide)
/-- a call of two: floor and a plan -/
theorem callP {F : List D → Option Dk → RF} {x : D} {e : Ev W} (he : e (Sw ns s2 (.fz (floorD rs ts)) s4 s5 s6 s7 s8 s9 dk) = .ok (.val (planD p)) (Sw ns s2 (.fz (floorD rs ts)) s4 s5 s6 s7 s8 s9 dk)) (hF : F [floorD rs ts, planD p] dk = .ok x dk) (hx : noMut x = true) :
    callE F [0, 1] [] 2 (bCons (eVar 3) (bCons e bNil)) (Sw ns s2 (.fz (floorD rs ts)) s4 s5 s6 s7 s8 s9 dk) = .ok (.val x) (Sw ns s2 (.fz (floorD rs ts)) s4 s5 s6 s7 s8 s9 dk) :=
  call_ok (st1 := Sw ns s2 (.fz (floorD rs ts)) s4 s5 s6 s7 s8 s9 dk) (bc_v (var_fz (i := 3) (d := floorD rs ts) rfl) (bc_v he bc_nil)) rfl rfl rfl hF hx
theorem none_b : beats (noneP p q) = 0 := by simp [noneP, beats]
theorem none_ch : changes (noneP p q) = 0 := by simp [noneP, changes]
theorem calls_nil (p : Plan) (h : beats p = 0) : calls p = [] := by
  rw [← List.length_eq_zero_iff, beats_calls, h]
theorem rx_zero : Rx (.tup [.tup [], .int 0, .int 0]) where
  ok := by decide +kernel
  sh := by decide +kernel
  wg := by decide +kernel
  tp := by decide +kernel
theorem oneL (hF : FlOk rs ts) (g : Good ts p) (hb : beats p = 0) (hc : changes p = 0) : ifS (eTst truthB (op2 neW (bltE reprX (rCons (bindE (aCons (callE F_unrolled [0, 1] [] 2 (bCons (eVar 3) (bCons (eVar 9) bNil))) (aCons (callE F_beats_of [0, 1] [] 2 (bCons (eVar 3) (bCons (eVar 9) bNil))) (aCons (callE F_changes_of [0, 1] [] 2 (bCons (eVar 3) (bCons (eVar 9) bNil))) aNil))) tupOf) rNil)) (bltE reprX (rCons (bindE (aCons (bindE aNil tupOf) (aCons (eC (.int 0)) (aCons (eC (.int 0)) aNil))) tupOf) rNil))))
    (retS (eC (.bl false))) (okE .next) (Sw ns s2 (.fz (floorD rs ts)) s4 s5 s6 s7 s8 (.fz (planD p)) dk) = .ok .next (Sw ns s2 (.fz (floorD rs ts)) s4 s5 s6 s7 s8 (.fz (planD p)) dk) := by
  have b3 : (3 : Nat) ≤ big := by show 3 ≤ big; decide
  have u := unrolled_ok hF g (by rw [hb]; omega) dk
  rw [calls_nil p hb] at u
  have b := beats_of_ok hF g dk
  have c := changes_of_ok hF g dk
  rw [hb] at b
  rw [hc] at c
  have v : eVar 9 (Sw ns s2 (.fz (floorD rs ts)) s4 s5 s6 s7 s8 (.fz (planD p)) dk) = .ok (.val (planD p)) (Sw ns s2 (.fz (floorD rs ts)) s4 s5 s6 s7 s8 (.fz (planD p)) dk) := var_fz (i := 9) (d := planD p) rfl
  exact reprX_if rx_zero (tupM (ac_w (callP v u rfl) (ac_w (callP v b rfl) (ac_w (callP v c rfl) ac_nil))) b3) rfl (tupM (ac_w (tupM ac_nil (by decide)) (ac_c (ac_c ac_nil))) b3) rfl
theorem twoL (hF : FlOk rs ts) (hp : Pl2 ts p) (hq : Pl2 ts q) : ifS (eTst truthB (op2 neW (callE F_beats_of [0, 1] [] 2 (bCons (eVar 3) (bCons (op2 addD (sliceE (eVar 4) oNone (oSome (eC (.int 2)))) (sliceE (eVar 5) oNone (oSome (eC (.int 2))))) bNil))) (op2 addD (callE F_beats_of [0, 1] [] 2 (bCons (eVar 3) (bCons (sliceE (eVar 4) oNone (oSome (eC (.int 2)))) bNil))) (callE F_beats_of [0, 1] [] 2 (bCons (eVar 3) (bCons (sliceE (eVar 5) oNone (oSome (eC (.int 2)))) bNil))))))
    (retS (eC (.bl false))) (okE .next) (Sw ns s2 (.fz (floorD rs ts)) (.fz (planD p)) (.fz (planD q)) s6 s7 s8 s9 dk) = .ok .next (Sw ns s2 (.fz (floorD rs ts)) (.fz (planD p)) (.fz (planD q)) s6 s7 s8 s9 dk) := by
  have a := op2_ok (f := addD) (slice_v (st := Sw ns s2 (.fz (floorD rs ts)) (.fz (planD p)) (.fz (planD q)) s6 s7 s8 s9 dk) (i := 4) (p := p) 2 (z := 2) rfl rfl) (slice_v (i := 5) (p := q) 2 (z := 2) rfl rfl) rfl rfl (add_plan (Nat.le_trans (Nat.add_le_add (steps_le _ (hp.take 2).n) (steps_le _ (hq.take 2).n)) (by decide)))
  have c0 := callP a (beats_of_ok hF (good_app (hp.take 2) (hq.take 2)) dk) rfl
  have c1 := callP (slice_v (st := Sw ns s2 (.fz (floorD rs ts)) (.fz (planD p)) (.fz (planD q)) s6 s7 s8 s9 dk) (i := 4) (p := p) 2 (z := 2) rfl rfl) (beats_of_ok hF (hp.take 2).good dk) rfl
  have c2 := callP (slice_v (st := Sw ns s2 (.fz (floorD rs ts)) (.fz (planD p)) (.fz (planD q)) s6 s7 s8 s9 dk) (i := 5) (p := q) 2 (z := 2) rfl rfl) (beats_of_ok hF (hq.take 2).good dk) rfl
  refine ifN_f (tst_ok (op2_ok c0 (op2_ok c1 c2 rfl rfl (w := .val (nD (beats (pApp (pTake 2 p) (pTake 2 q))))) ?_) rfl rfl (w := .val (.bl false)) ?_) rfl rfl)
  · show some (W.val (.int ((beats (pTake 2 p) : Int) + (beats (pTake 2 q) : Int)))) = _
    rw [app_beats]
    rfl
  · show some (W.val (.bl (!((beats (pApp (pTake 2 p) (pTake 2 q)) : Int) == (beats (pApp (pTake 2 p) (pTake 2 q)) : Int))))) = _
    rw [beq_self_eq_true]
    rfl
theorem threeL (hF : FlOk rs ts) (hq : Pl2 ts q) (hk : k ≤ 10 ^ 20) : ifS (eTst truthB (op2 neW (bltE reprX (rCons (bindE (aCons (callE F_beats_of [0, 1] [] 2 (bCons (eVar 3) (bCons (bindE (aCons (bindE (aCons (eC (.str "times")) (aCons (eVar 6) (aCons (eVar 5) aNil))) tupOf) aNil) tupOf) bNil))) (aCons (callE F_changes_of [0, 1] [] 2 (bCons (eVar 3) (bCons (bindE (aCons (bindE (aCons (eC (.str "times")) (aCons (eVar 6) (aCons (eVar 5) aNil))) tupOf) aNil) tupOf) bNil))) aNil)) tupOf) rNil)) (bltE reprX (rCons (bindE (aCons (op2 mulA (eVar 6) (callE F_beats_of [0, 1] [] 2 (bCons (eVar 3) (bCons (eVar 5) bNil)))) (aCons (op2 mulA (eVar 6) (callE F_changes_of [0, 1] [] 2 (bCons (eVar 3) (bCons (eVar 5) bNil)))) aNil)) tupOf) rNil))))
    (retS (eC (.bl false))) (okE .next) (Sw ns s2 (.fz (floorD rs ts)) s4 (.fz (planD q)) (.fz (nD k)) s7 s8 s9 dk) = .ok .next (Sw ns s2 (.fz (floorD rs ts)) s4 (.fz (planD q)) (.fz (nD k)) s7 s8 s9 dk) := by
  have b1 : (1 : Nat) ≤ big := by show 1 ≤ big; decide
  have b2 : (2 : Nat) ≤ big := by show 2 ≤ big; decide
  have b3 : (3 : Nat) ≤ big := by show 3 ≤ big; decide
  have g : Good ts (.times k q .nil) := good_times hq.c (by have := hq.d; omega) (by have := hq.n; omega) (Nat.le_trans hq.w (by decide +kernel)) (Nat.le_trans hk (by decide +kernel))
  have e : bindE (aCons (bindE (aCons (eC (.str "times")) (aCons (eVar 6) (aCons (eVar 5) aNil))) tupOf) aNil) tupOf (Sw ns s2 (.fz (floorD rs ts)) s4 (.fz (planD q)) (.fz (nD k)) s7 s8 s9 dk) = .ok (.val (planD (.times k q .nil))) (Sw ns s2 (.fz (floorD rs ts)) s4 (.fz (planD q)) (.fz (nD k)) s7 s8 s9 dk) :=
    tupM (ac_w (tupM (ac_c (ac_w (var_fz (i := 6) (d := nD k) rfl) (ac_w (var_fz (i := 5) (d := planD q) rfl) ac_nil))) b3) ac_nil) b1
  have v : eVar 5 (Sw ns s2 (.fz (floorD rs ts)) s4 (.fz (planD q)) (.fz (nD k)) s7 s8 s9 dk) = .ok (.val (planD q)) (Sw ns s2 (.fz (floorD rs ts)) s4 (.fz (planD q)) (.fz (nD k)) s7 s8 s9 dk) := var_fz (i := 5) (d := planD q) rfl
  have kb : k < 2 ^ 390 := Nat.lt_of_le_of_lt hk (by decide +kernel)
  have hb : beats q < 2 ^ 390 := Nat.lt_of_le_of_lt (beats_Wt q) hq.good.w390
  have hc : changes q < 2 ^ 390 := Nat.lt_of_le_of_lt (changes_Wt q) hq.good.w390
  have tb : beats (.times k q .nil) = k * beats q := by simp [beats]
  have tc : changes (.times k q .nil) = k * changes q := by simp [changes]
  have ob : k * beats q < 2 ^ 390 := by rw [← tb]; exact Nat.lt_of_le_of_lt (beats_Wt _) g.w390
  have oc : k * changes q < 2 ^ 390 := by rw [← tc]; exact Nat.lt_of_le_of_lt (changes_Wt _) g.w390
  have r1 := beats_of_ok hF g dk
  have r2 := changes_of_ok hF g dk
  rw [tb] at r1
  rw [tc] at r2
  exact reprX_if (rx_two ob oc) (tupM (ac_w (callP e r1 rfl) (ac_w (callP e r2 rfl) ac_nil)) b2) rfl
    (tupM (ac_w (op2_ok (var_fz (i := 6) (d := nD k) rfl) (callP v (beats_of_ok hF hq.good dk) rfl) rfl rfl (mul_nat kb hb)) (ac_w (op2_ok (var_fz (i := 6) (d := nD k) rfl) (callP v (changes_of_ok hF hq.good dk) rfl) rfl rfl (mul_nat kb hc)) ac_nil)) b2) rfl
noncomputable abbrev lastS : Ev Fl := (ifS (andT (eTst truthB (op2 eqW (eVar 2) (eC (.int 0)))) (andT (eTst truthB (op2 eqW (callE F__law_draw [0, 1] [] 2 (bCons (eVar 1) (bCons (eC (.int 3)) bNil))) (eC (.int 0)))) (bindE (eTst truthD (callE F__law_is_counted_right [0, 1] [] 2 (bCons (eVar 3) (bCons (callE F__law_near [0, 1] [] 2 (bCons (eVar 1) (bCons (eVar 3) bNil))) bNil)))) fun b => okE (!b))))
    (retS (eC (.bl false)))
    (okE .next))
theorem lastL (hF : FlOk rs ts) (i : Nat) (h : Dks B dk) (hB : B < 80000000) : ∃ dk' : Option Dk, lastS (Sw ns (.fz (nD i)) (.fz (floorD rs ts)) s4 s5 s6 s7 s8 s9 dk) = .ok .next (Sw ns (.fz (nD i)) (.fz (floorD rs ts)) s4 s5 s6 s7 s8 s9 dk') ∧ Dks (B + 31) dk' := by
  have t0 : eTst truthB (op2 eqW (eVar 2) (eC (.int 0))) (Sw ns (.fz (nD i)) (.fz (floorD rs ts)) s4 s5 s6 s7 s8 s9 dk) = .ok (decide (i = 0)) (Sw ns (.fz (nD i)) (.fz (floorD rs ts)) s4 s5 s6 s7 s8 s9 dk) :=
    tst_ok (op2_ok (var_fz (i := 2) (d := nD i) rfl) rfl rfl rfl (is0 i)) rfl rfl
  by_cases h0 : i = 0
  · rw [decide_eq_true h0] at t0
    obtain ⟨b, dk1, t1, q1⟩ := tst0 3 (z := 3) (ρ := [.fz (.scr ns), .fz .deck, .fz (nD i), .fz (floorD rs ts), s4, s5, s6, s7, s8, s9]) (i := 1) rfl rfl h (by omega) (by decide) (by decide)
    cases b with
    | false => exact ⟨dk1, ifN_f (andT_t t0 (andT_f t1)), q1.mono (by omega)⟩
    | true =>
      obtain ⟨p, dk2, e, q2, g⟩ := near_ok hF q1 (by omega)
      refine ⟨dk2, ifN_f (andT_t t0 (andT_t t1 (not_t (call_ok (st1 := Sw ns (.fz (nD i)) (.fz (floorD rs ts)) s4 s5 s6 s7 s8 s9 dk2) (bc_v (var_fz (i := 3) (d := floorD rs ts) rfl) (bc_v ?_ bc_nil)) rfl rfl rfl (counted_ok hF g dk2) rfl) rfl))), q2.mono (by omega)⟩
      exact call_ok (st1 := Sw ns (.fz (nD i)) (.fz (floorD rs ts)) s4 s5 s6 s7 s8 s9 dk1) (bc_v (var_fz (i := 1) (d := .deck) rfl) (bc_v (var_fz (i := 3) (d := floorD rs ts) rfl) bc_nil)) rfl rfl rfl e (noMut_plan p)
  · rw [decide_eq_false h0] at t0
    exact ⟨dk, ifN_f (andT_f t0), h.mono (by omega)⟩
end
theorem law_true (ns : List Int) (hns : ns.length ≤ 63) : ∃ dk, F_law [.scr ns] none = .ok (.bl true) dk := by
  obtain ⟨dk0, e0, q0⟩ := deck_ok ns
  have a0 : setS 1 (callE F__law_deck [0] [] 1 (bCons (eVar 0) bNil)) ⟨[.fz (.scr ns), .un, .un, .un, .un, .un, .un, .un, .un, .un], none⟩ = .ok .next (Sw ns .un .un .un .un .un .un .un .un dk0) :=
    set_v (st1 := ⟨[.fz (.scr ns), .un, .un, .un, .un, .un, .un, .un, .un, .un], dk0⟩) (call_ok (st1 := ⟨[.fz (.scr ns), .un, .un, .un, .un, .un, .un, .un, .un, .un], none⟩) (bc_v rfl bc_nil) rfl rfl rfl e0 rfl)
  unfold F_law
  have M : ∃ (bd : Ev Fl), M_law = seqS (setS 1 (callE F__law_deck [0] [] 1 (bCons (eVar 0) bNil))) (seqS (forS (ofL rng1 (aCons (eC (.int 4)) aNil)) (nmG 2) bd) (retS (eC (.bl true)))) ∧
      ∀ (i : Nat) (s2 s3 s4 s5 s6 s7 s8 s9 : Slot) (dk : Option Dk), i ≤ 4 → Dks (10000 * i) dk → ∃ (s3' s4' s5' s6' s7' s8' s9' : Slot) (dk' : Option Dk), bd (Sw ns (.fz (nD i)) s3 s4 s5 s6 s7 s8 s9 dk) = .ok .next (Sw ns (.fz (nD i)) s3' s4' s5' s6' s7' s8' s9' dk') ∧ Dks (10000 * i + 7000) dk' := by
    refine ⟨_, rfl, ?_⟩
    intro i s2 s3 s4 s5 s6 s7 s8 s9 dk hi h
    obtain ⟨rs, ts, dk1, e1, q1, hF⟩ := floorL (ns := ns) (s2 := .fz (nD i)) (s3 := s3) (s4 := s4) (s5 := s5) (s6 := s6) (s7 := s7) (s8 := s8) (s9 := s9) h (by omega)
    obtain ⟨p, q, dk2, e2, q2, hp, hq⟩ := plansL (ns := ns) (s2 := .fz (nD i)) (s4 := s4) (s5 := s5) (s6 := s6) (s7 := s7) (s8 := s8) (s9 := s9) hF q1 (by omega)
    obtain ⟨k, dk3, e3, q3, hk⟩ := kL (ns := ns) (s2 := .fz (nD i)) (s3 := .fz (floorD rs ts)) (s4 := .fz (planD p)) (s5 := .fz (planD q)) (s6 := s6) (s7 := s7) (s8 := s8) (s9 := s9) q2 (by omega)
    obtain ⟨r, dk4, e4, q4, hr⟩ := deepL (ns := ns) (q := q) (k := k) (s2 := .fz (nD i)) (s3 := .fz (floorD rs ts)) (s4 := .fz (planD p)) (s7 := s7) (s8 := s8) (s9 := s9) q3 (by omega)
    obtain ⟨s8', e5⟩ := fiveL (ns := ns) (dk := dk4) (s2 := .fz (nD i)) (s6 := .fz (nD k)) (s8 := s8) (s9 := s9) hF hp hq hk hr
    obtain ⟨dk5, e6, q6⟩ := lastL (ns := ns) (s4 := .fz (planD p)) (s5 := .fz (planD q)) (s6 := .fz (nD k)) (s7 := .fz (planD (deepP k r q))) (s8 := s8') (s9 := .fz (planD (noneP p q))) hF i q4 (by omega)
    refine ⟨.fz (floorD rs ts), .fz (planD p), .fz (planD q), .fz (nD k), .fz (planD (deepP k r q)), s8', .fz (planD (noneP p q)), dk5, ?_, q6.mono (by omega)⟩
    exact seq_ok e1 (seq_ok e2 (seq_ok e3 (seq_ok e4 (seq_ok e5 (seq_ok (noneL hp hq) (seq_ok (oneL hF (none_good hp hq) none_b none_ch) (seq_ok (twoL hF hp hq) (seq_ok (threeL hF hq hk) e6))))))))
  obtain ⟨bd, eM, hb⟩ := M
  rw [eM]
  obtain ⟨st', e, s2, s3, s4, s5, s6, s7, s8, s9, dk', rfl, q⟩ := forL_all (g := nmG 2) (ds := upTo 0 4) (b := bd)
    (fun i st => ∃ (s2 s3 s4 s5 s6 s7 s8 s9 : Slot) (dk : Option Dk), st = Sw ns s2 s3 s4 s5 s6 s7 s8 s9 dk ∧ Dks (10000 * i) dk) (by
      rintro i d st hd ⟨s2, s3, s4, s5, s6, s7, s8, s9, dk, rfl, q⟩
      obtain ⟨hi, rfl⟩ := upTo_nGet hd
      obtain ⟨s3', s4', s5', s6', s7', s8', s9', dk', e, q'⟩ := hb i s2 s3 s4 s5 s6 s7 s8 s9 dk (by omega) q
      exact ⟨Sw ns (.fz (nD i)) s3 s4 s5 s6 s7 s8 s9 dk, _, rfl, e, _, _, _, _, _, _, _, _, _, rfl, q'.mono (by omega)⟩)
    (st := Sw ns .un .un .un .un .un .un .un .un dk0) ⟨_, _, _, _, _, _, _, _, _, rfl, by simpa using q0⟩
  exact ⟨dk', run_ret (n := 10) (as := [.scr ns]) (seq_ok a0 (seq_ok (for_ok (ofL_ok (ds := [nD 4]) rfl (rng_nat (by decide))) e) (ret_ok (w := .val (.bl true)) rfl rfl))) rfl⟩
end Lk12

namespace Lk12
open L2 Dl PySem PySem.Spec PyProof.Rows
/-! ### what the top has written -/
theorem all_mk {P : Program} {w : World} {K : PySem.W.Frag} {h : Heap} {mg : Str → Option Value} {fa : Addr} (X : K.In h) (G : h.Ns mainGlobals mg) (hfa : mg "law" = some (.ref fa))
    {f0 f1 f2 f3 f4 f5 f6 f7 f8 f9 f10 f11 f12 f13 f14 f15 f16 f17 f18 f19 f20 f21 f22 f23 f24 f25 f26 f27 f28 f29 f30 f31 f32 f33 f34 f35 f36 f37 f38 f39 f40 f41 f42 f43 f44 f45 f46 : Addr} {od0 od1 od2 od3 od4 od5 od6 od7 od8 od9 od10 od11 od12 od13 od14 od15 od16 od17 od18 od19 od20 od21 od22 od23 od24 od25 od26 od27 od28 od29 od30 od31 od32 od33 od34 od35 od36 od37 od38 od39 od40 od41 od42 od43 od44 od45 od46 an0 an1 an2 an3 an4 an5 an6 an7 an8 an9 an10 an11 an12 an13 an14 an15 an16 an17 an18 an19 an20 an21 an22 an23 an24 an25 an26 an27 an28 an29 an30 an31 an32 an33 an34 an35 an36 an37 an38 an39 an40 an41 an42 an43 an44 an45 an46 : Option Addr} {sl0 sl1 sl2 sl3 sl4 sl5 sl6 sl7 sl8 sl9 sl10 sl11 sl12 sl13 sl14 sl15 sl16 sl17 sl18 sl19 sl20 sl21 sl22 sl23 sl24 sl25 sl26 sl27 sl28 sl29 sl30 sl31 sl32 sl33 sl34 sl35 sl36 sl37 sl38 sl39 sl40 sl41 sl42 sl43 sl44 sl45 sl46 : Array (Option Value)}
    {oc0 oc1 oc2 oc3 oc4 oc5 oc6 oc7 oc8 oc9 oc10 oc11 oc12 oc13 oc14 oc15 oc16 oc17 oc18 oc19 oc20 oc21 oc22 oc23 oc24 oc25 oc26 oc27 oc28 oc29 oc30 oc31 oc32 oc33 oc34 oc35 oc36 oc37 oc38 oc39 oc40 oc41 oc42 oc43 oc44 oc45 oc46 kV0 kV1 kV2 kV3 kV4 kV5 kV6 kV7 kV8 kV9 kV10 kV11 kV12 kV13 kV14 kV15 kV16 kV17 kV18 kV19 kV20 kV21 kV22 kV23 kV24 kV25 kV26 kV27 kV28 kV29 kV30 kV31 kV32 kV33 kV34 kV35 kV36 kV37 kV38 kV39 kV40 kV41 kV42 kV43 kV44 kV45 kV46 dc0 dc1 dc2 dc3 dc4 dc5 dc6 dc7 dc8 dc9 dc10 dc11 dc12 dc13 dc14 dc15 dc16 dc17 dc18 dc19 dc20 dc21 dc22 dc23 dc24 dc25 dc26 dc27 dc28 dc29 dc30 dc31 dc32 dc33 dc34 dc35 dc36 dc37 dc38 dc39 dc40 dc41 dc42 dc43 dc44 dc45 dc46 pm0 pm1 pm2 pm3 pm4 pm5 pm6 pm7 pm8 pm9 pm10 pm11 pm12 pm13 pm14 pm15 pm16 pm17 pm18 pm19 pm20 pm21 pm22 pm23 pm24 pm25 pm26 pm27 pm28 pm29 pm30 pm31 pm32 pm33 pm34 pm35 pm36 pm37 pm38 pm39 pm40 pm41 pm42 pm43 pm44 pm45 pm46 cd0 cd1 cd2 cd3 cd4 cd5 cd6 cd7 cd8 cd9 cd10 cd11 cd12 cd13 cd14 cd15 cd16 cd17 cd18 cd19 cd20 cd21 cd22 cd23 cd24 cd25 cd26 cd27 cd28 cd29 cd30 cd31 cd32 cd33 cd34 cd35 cd36 cd37 cd38 cd39 cd40 cd41 cd42 cd43 cd44 cd45 cd46 ct0 ct1 ct2 ct3 ct4 ct5 ct6 ct7 ct8 ct9 ct10 ct11 ct12 ct13 ct14 ct15 ct16 ct17 ct18 ct19 ct20 ct21 ct22 ct23 ct24 ct25 ct26 ct27 ct28 ct29 ct30 ct31 ct32 ct33 ct34 ct35 ct36 ct37 ct38 ct39 ct40 ct41 ct42 ct43 ct44 ct45 ct46 : Value}
    {T37 : Addr} {tc37 : Value} {td37 : Option Addr} {ts37 : Array (Option Value)} {tk37 tn37 : Nat}
    (a0 : PySem.W.nsIn K mainGlobals "_law_deck" = some (some (.ref f0))) (l0 : K.lookup f0 = some ⟨oc0, od0, .func (PySem.W.fnOf "_law_deck" "_law_deck" (defArgs S__law_deck) (defBody S__law_deck) (defScope S__law_deck) .none kV0 dc0 pm0 an0 cd0 ct0), sl0⟩) (c0 : PySem.W.codeIn K cd0 "_law_deck" = true) (k0 : PySem.W.keepIn K (.ref f0) = true)
    (a1 : PySem.W.nsIn K mainGlobals "_law_spots" = some (some (.ref f1))) (l1 : K.lookup f1 = some ⟨oc1, od1, .func (PySem.W.fnOf "_law_spots" "_law_spots" (defArgs S__law_spots) (defBody S__law_spots) (defScope S__law_spots) .none kV1 dc1 pm1 an1 cd1 ct1), sl1⟩) (c1 : PySem.W.codeIn K cd1 "_law_spots" = true) (k1 : PySem.W.keepIn K (.ref f1) = true)
    (a2 : PySem.W.nsIn K mainGlobals "_law_draw" = some (some (.ref f2))) (l2 : K.lookup f2 = some ⟨oc2, od2, .func (PySem.W.fnOf "_law_draw" "_law_draw" (defArgs S__law_draw) (defBody S__law_draw) (defScope S__law_draw) .none kV2 dc2 pm2 an2 cd2 ct2), sl2⟩) (c2 : PySem.W.codeIn K cd2 "_law_draw" = true) (k2 : PySem.W.keepIn K (.ref f2) = true)
    (a3 : PySem.W.nsIn K mainGlobals "_law_pick" = some (some (.ref f3))) (l3 : K.lookup f3 = some ⟨oc3, od3, .func (PySem.W.fnOf "_law_pick" "_law_pick" (defArgs S__law_pick) (defBody S__law_pick) (defScope S__law_pick) .none kV3 dc3 pm3 an3 cd3 ct3), sl3⟩) (c3 : PySem.W.codeIn K cd3 "_law_pick" = true) (k3 : PySem.W.keepIn K (.ref f3) = true)
    (a4 : PySem.W.nsIn K mainGlobals "_law_rings" = some (some (.ref f4))) (l4 : K.lookup f4 = some ⟨oc4, od4, .func (PySem.W.fnOf "_law_rings" "_law_rings" (defArgs S__law_rings) (defBody S__law_rings) (defScope S__law_rings) .none kV4 dc4 pm4 an4 cd4 ct4), sl4⟩) (c4 : PySem.W.codeIn K cd4 "_law_rings" = true) (k4 : PySem.W.keepIn K (.ref f4) = true)
    (a5 : PySem.W.nsIn K mainGlobals "_law_order" = some (some (.ref f5))) (l5 : K.lookup f5 = some ⟨oc5, od5, .func (PySem.W.fnOf "_law_order" "_law_order" (defArgs S__law_order) (defBody S__law_order) (defScope S__law_order) .none kV5 dc5 pm5 an5 cd5 ct5), sl5⟩) (c5 : PySem.W.codeIn K cd5 "_law_order" = true) (k5 : PySem.W.keepIn K (.ref f5) = true)
    (a6 : PySem.W.nsIn K mainGlobals "_law_floor" = some (some (.ref f6))) (l6 : K.lookup f6 = some ⟨oc6, od6, .func (PySem.W.fnOf "_law_floor" "_law_floor" (defArgs S__law_floor) (defBody S__law_floor) (defScope S__law_floor) .none kV6 dc6 pm6 an6 cd6 ct6), sl6⟩) (c6 : PySem.W.codeIn K cd6 "_law_floor" = true) (k6 : PySem.W.keepIn K (.ref f6) = true)
    (a7 : PySem.W.nsIn K mainGlobals "_law_call" = some (some (.ref f7))) (l7 : K.lookup f7 = some ⟨oc7, od7, .func (PySem.W.fnOf "_law_call" "_law_call" (defArgs S__law_call) (defBody S__law_call) (defScope S__law_call) .none kV7 dc7 pm7 an7 cd7 ct7), sl7⟩) (c7 : PySem.W.codeIn K cd7 "_law_call" = true) (k7 : PySem.W.keepIn K (.ref f7) = true)
    (a8 : PySem.W.nsIn K mainGlobals "_law_plan" = some (some (.ref f8))) (l8 : K.lookup f8 = some ⟨oc8, od8, .func (PySem.W.fnOf "_law_plan" "_law_plan" (defArgs S__law_plan) (defBody S__law_plan) (defScope S__law_plan) .none kV8 dc8 pm8 an8 cd8 ct8), sl8⟩) (c8 : PySem.W.codeIn K cd8 "_law_plan" = true) (k8 : PySem.W.keepIn K (.ref f8) = true)
    (a9 : PySem.W.nsIn K mainGlobals "is_pair" = some (some (.ref f9))) (l9 : K.lookup f9 = some ⟨oc9, od9, .func (PySem.W.fnOf "is_pair" "is_pair" (defArgs S_is_pair) (defBody S_is_pair) (defScope S_is_pair) .none kV9 dc9 pm9 an9 cd9 ct9), sl9⟩) (c9 : PySem.W.codeIn K cd9 "is_pair" = true) (k9 : PySem.W.keepIn K (.ref f9) = true)
    (a10 : PySem.W.nsIn K mainGlobals "is_integer" = some (some (.ref f10))) (l10 : K.lookup f10 = some ⟨oc10, od10, .func (PySem.W.fnOf "is_integer" "is_integer" (defArgs S_is_integer) (defBody S_is_integer) (defScope S_is_integer) .none kV10 dc10 pm10 an10 cd10 ct10), sl10⟩) (c10 : PySem.W.codeIn K cd10 "is_integer" = true) (k10 : PySem.W.keepIn K (.ref f10) = true)
    (a11 : PySem.W.nsIn K mainGlobals "is_from" = some (some (.ref f11))) (l11 : K.lookup f11 = some ⟨oc11, od11, .func (PySem.W.fnOf "is_from" "is_from" (defArgs S_is_from) (defBody S_is_from) (defScope S_is_from) .none kV11 dc11 pm11 an11 cd11 ct11), sl11⟩) (c11 : PySem.W.codeIn K cd11 "is_from" = true) (k11 : PySem.W.keepIn K (.ref f11) = true)
    (a12 : PySem.W.nsIn K mainGlobals "are_rings_value" = some (some (.ref f12))) (l12 : K.lookup f12 = some ⟨oc12, od12, .func (PySem.W.fnOf "are_rings_value" "are_rings_value" (defArgs S_are_rings_value) (defBody S_are_rings_value) (defScope S_are_rings_value) .none kV12 dc12 pm12 an12 cd12 ct12), sl12⟩) (c12 : PySem.W.codeIn K cd12 "are_rings_value" = true) (k12 : PySem.W.keepIn K (.ref f12) = true)
    (a13 : PySem.W.nsIn K mainGlobals "is_between" = some (some (.ref f13))) (l13 : K.lookup f13 = some ⟨oc13, od13, .func (PySem.W.fnOf "is_between" "is_between" (defArgs S_is_between) (defBody S_is_between) (defScope S_is_between) .none kV13 dc13 pm13 an13 cd13 ct13), sl13⟩) (c13 : PySem.W.codeIn K cd13 "is_between" = true) (k13 : PySem.W.keepIn K (.ref f13) = true)
    (a14 : PySem.W.nsIn K mainGlobals "is_place_of" = some (some (.ref f14))) (l14 : K.lookup f14 = some ⟨oc14, od14, .func (PySem.W.fnOf "is_place_of" "is_place_of" (defArgs S_is_place_of) (defBody S_is_place_of) (defScope S_is_place_of) .none kV14 dc14 pm14 an14 cd14 ct14), sl14⟩) (c14 : PySem.W.codeIn K cd14 "is_place_of" = true) (k14 : PySem.W.keepIn K (.ref f14) = true)
    (a15 : PySem.W.nsIn K mainGlobals "is_touch_of" = some (some (.ref f15))) (l15 : K.lookup f15 = some ⟨oc15, od15, .func (PySem.W.fnOf "is_touch_of" "is_touch_of" (defArgs S_is_touch_of) (defBody S_is_touch_of) (defScope S_is_touch_of) .none kV15 dc15 pm15 an15 cd15 ct15), sl15⟩) (c15 : PySem.W.codeIn K cd15 "is_touch_of" = true) (k15 : PySem.W.keepIn K (.ref f15) = true)
    (a16 : PySem.W.nsIn K mainGlobals "are_touches_of" = some (some (.ref f16))) (l16 : K.lookup f16 = some ⟨oc16, od16, .func (PySem.W.fnOf "are_touches_of" "are_touches_of" (defArgs S_are_touches_of) (defBody S_are_touches_of) (defScope S_are_touches_of) .none kV16 dc16 pm16 an16 cd16 ct16), sl16⟩) (c16 : PySem.W.codeIn K cd16 "are_touches_of" = true) (k16 : PySem.W.keepIn K (.ref f16) = true)
    (a17 : PySem.W.nsIn K mainGlobals "is_floor_value" = some (some (.ref f17))) (l17 : K.lookup f17 = some ⟨oc17, od17, .func (PySem.W.fnOf "is_floor_value" "is_floor_value" (defArgs S_is_floor_value) (defBody S_is_floor_value) (defScope S_is_floor_value) .none kV17 dc17 pm17 an17 cd17 ct17), sl17⟩) (c17 : PySem.W.codeIn K cd17 "is_floor_value" = true) (k17 : PySem.W.keepIn K (.ref f17) = true)
    (a18 : PySem.W.nsIn K mainGlobals "need_floor" = some (some (.ref f18))) (l18 : K.lookup f18 = some ⟨oc18, od18, .func (PySem.W.fnOf "need_floor" "need_floor" (defArgs S_need_floor) (defBody S_need_floor) (defScope S_need_floor) .none kV18 dc18 pm18 an18 cd18 ct18), sl18⟩) (c18 : PySem.W.codeIn K cd18 "need_floor" = true) (k18 : PySem.W.keepIn K (.ref f18) = true)
    (a19 : PySem.W.nsIn K mainGlobals "is_call" = some (some (.ref f19))) (l19 : K.lookup f19 = some ⟨oc19, od19, .func (PySem.W.fnOf "is_call" "is_call" (defArgs S_is_call) (defBody S_is_call) (defScope S_is_call) .none kV19 dc19 pm19 an19 cd19 ct19), sl19⟩) (c19 : PySem.W.codeIn K cd19 "is_call" = true) (k19 : PySem.W.keepIn K (.ref f19) = true)
    (a20 : PySem.W.nsIn K mainGlobals "is_step" = some (some (.ref f20))) (l20 : K.lookup f20 = some ⟨oc20, od20, .func (PySem.W.fnOf "is_step" "is_step" (defArgs S_is_step) (defBody S_is_step) (defScope S_is_step) .none kV20 dc20 pm20 an20 cd20 ct20), sl20⟩) (c20 : PySem.W.codeIn K cd20 "is_step" = true) (k20 : PySem.W.keepIn K (.ref f20) = true)
    (a21 : PySem.W.nsIn K mainGlobals "is_plan_value" = some (some (.ref f21))) (l21 : K.lookup f21 = some ⟨oc21, od21, .func (PySem.W.fnOf "is_plan_value" "is_plan_value" (defArgs S_is_plan_value) (defBody S_is_plan_value) (defScope S_is_plan_value) .none kV21 dc21 pm21 an21 cd21 ct21), sl21⟩) (c21 : PySem.W.codeIn K cd21 "is_plan_value" = true) (k21 : PySem.W.keepIn K (.ref f21) = true)
    (a22 : PySem.W.nsIn K mainGlobals "need_plan" = some (some (.ref f22))) (l22 : K.lookup f22 = some ⟨oc22, od22, .func (PySem.W.fnOf "need_plan" "need_plan" (defArgs S_need_plan) (defBody S_need_plan) (defScope S_need_plan) .none kV22 dc22 pm22 an22 cd22 ct22), sl22⟩) (c22 : PySem.W.codeIn K cd22 "need_plan" = true) (k22 : PySem.W.keepIn K (.ref f22) = true)
    (a23 : PySem.W.nsIn K mainGlobals "beats_in" = some (some (.ref f23))) (l23 : K.lookup f23 = some ⟨oc23, od23, .func (PySem.W.fnOf "beats_in" "beats_in" (defArgs S_beats_in) (defBody S_beats_in) (defScope S_beats_in) .none kV23 dc23 pm23 an23 cd23 ct23), sl23⟩) (c23 : PySem.W.codeIn K cd23 "beats_in" = true) (k23 : PySem.W.keepIn K (.ref f23) = true)
    (a24 : PySem.W.nsIn K mainGlobals "beats_of" = some (some (.ref f24))) (l24 : K.lookup f24 = some ⟨oc24, od24, .func (PySem.W.fnOf "beats_of" "beats_of" (defArgs S_beats_of) (defBody S_beats_of) (defScope S_beats_of) .none kV24 dc24 pm24 an24 cd24 ct24), sl24⟩) (c24 : PySem.W.codeIn K cd24 "beats_of" = true) (k24 : PySem.W.keepIn K (.ref f24) = true)
    (a25 : PySem.W.nsIn K mainGlobals "calls_in" = some (some (.ref f25))) (l25 : K.lookup f25 = some ⟨oc25, od25, .func (PySem.W.fnOf "calls_in" "calls_in" (defArgs S_calls_in) (defBody S_calls_in) (defScope S_calls_in) .none kV25 dc25 pm25 an25 cd25 ct25), sl25⟩) (c25 : PySem.W.codeIn K cd25 "calls_in" = true) (k25 : PySem.W.keepIn K (.ref f25) = true)
    (a26 : PySem.W.nsIn K mainGlobals "unrolled" = some (some (.ref f26))) (l26 : K.lookup f26 = some ⟨oc26, od26, .func (PySem.W.fnOf "unrolled" "unrolled" (defArgs S_unrolled) (defBody S_unrolled) (defScope S_unrolled) .none kV26 dc26 pm26 an26 cd26 ct26), sl26⟩) (c26 : PySem.W.codeIn K cd26 "unrolled" = true) (k26 : PySem.W.keepIn K (.ref f26) = true)
    (a27 : PySem.W.nsIn K mainGlobals "_law_rolled" = some (some (.ref f27))) (l27 : K.lookup f27 = some ⟨oc27, od27, .func (PySem.W.fnOf "_law_rolled" "_law_rolled" (defArgs S__law_rolled) (defBody S__law_rolled) (defScope S__law_rolled) .none kV27 dc27 pm27 an27 cd27 ct27), sl27⟩) (c27 : PySem.W.codeIn K cd27 "_law_rolled" = true) (k27 : PySem.W.keepIn K (.ref f27) = true)
    (a28 : PySem.W.nsIn K mainGlobals "_law_length" = some (some (.ref f28))) (l28 : K.lookup f28 = some ⟨oc28, od28, .func (PySem.W.fnOf "_law_length" "_law_length" (defArgs S__law_length) (defBody S__law_length) (defScope S__law_length) .none kV28 dc28 pm28 an28 cd28 ct28), sl28⟩) (c28 : PySem.W.codeIn K cd28 "_law_length" = true) (k28 : PySem.W.keepIn K (.ref f28) = true)
    (a29 : PySem.W.nsIn K mainGlobals "_law_changes" = some (some (.ref f29))) (l29 : K.lookup f29 = some ⟨oc29, od29, .func (PySem.W.fnOf "_law_changes" "_law_changes" (defArgs S__law_changes) (defBody S__law_changes) (defScope S__law_changes) .none kV29 dc29 pm29 an29 cd29 ct29), sl29⟩) (c29 : PySem.W.codeIn K cd29 "_law_changes" = true) (k29 : PySem.W.keepIn K (.ref f29) = true)
    (a30 : PySem.W.nsIn K mainGlobals "changes_in" = some (some (.ref f30))) (l30 : K.lookup f30 = some ⟨oc30, od30, .func (PySem.W.fnOf "changes_in" "changes_in" (defArgs S_changes_in) (defBody S_changes_in) (defScope S_changes_in) .none kV30 dc30 pm30 an30 cd30 ct30), sl30⟩) (c30 : PySem.W.codeIn K cd30 "changes_in" = true) (k30 : PySem.W.keepIn K (.ref f30) = true)
    (a31 : PySem.W.nsIn K mainGlobals "changes_of" = some (some (.ref f31))) (l31 : K.lookup f31 = some ⟨oc31, od31, .func (PySem.W.fnOf "changes_of" "changes_of" (defArgs S_changes_of) (defBody S_changes_of) (defScope S_changes_of) .none kV31 dc31 pm31 an31 cd31 ct31), sl31⟩) (c31 : PySem.W.codeIn K cd31 "changes_of" = true) (k31 : PySem.W.keepIn K (.ref f31) = true)
    (a32 : PySem.W.nsIn K mainGlobals "followed" = some (some (.ref f32))) (l32 : K.lookup f32 = some ⟨oc32, od32, .func (PySem.W.fnOf "followed" "followed" (defArgs S_followed) (defBody S_followed) (defScope S_followed) .none kV32 dc32 pm32 an32 cd32 ct32), sl32⟩) (c32 : PySem.W.codeIn K cd32 "followed" = true) (k32 : PySem.W.keepIn K (.ref f32) = true)
    (a33 : PySem.W.nsIn K mainGlobals "seat_of" = some (some (.ref f33))) (l33 : K.lookup f33 = some ⟨oc33, od33, .func (PySem.W.fnOf "seat_of" "seat_of" (defArgs S_seat_of) (defBody S_seat_of) (defScope S_seat_of) .none kV33 dc33 pm33 an33 cd33 ct33), sl33⟩) (c33 : PySem.W.codeIn K cd33 "seat_of" = true) (k33 : PySem.W.keepIn K (.ref f33) = true)
    (a34 : PySem.W.nsIn K mainGlobals "seat_touches" = some (some (.ref f34))) (l34 : K.lookup f34 = some ⟨oc34, od34, .func (PySem.W.fnOf "seat_touches" "seat_touches" (defArgs S_seat_touches) (defBody S_seat_touches) (defScope S_seat_touches) .none kV34 dc34 pm34 an34 cd34 ct34), sl34⟩) (c34 : PySem.W.codeIn K cd34 "seat_touches" = true) (k34 : PySem.W.keepIn K (.ref f34) = true)
    (a35 : PySem.W.nsIn K mainGlobals "place_behind" = some (some (.ref f35))) (l35 : K.lookup f35 = some ⟨oc35, od35, .func (PySem.W.fnOf "place_behind" "place_behind" (defArgs S_place_behind) (defBody S_place_behind) (defScope S_place_behind) .none kV35 dc35 pm35 an35 cd35 ct35), sl35⟩) (c35 : PySem.W.codeIn K cd35 "place_behind" = true) (k35 : PySem.W.keepIn K (.ref f35) = true)
    (a36 : PySem.W.nsIn K mainGlobals "places_of" = some (some (.ref f36))) (l36 : K.lookup f36 = some ⟨oc36, od36, .func (PySem.W.fnOf "places_of" "places_of" (defArgs S_places_of) (defBody S_places_of) (defScope S_places_of) .none kV36 dc36 pm36 an36 cd36 ct36), sl36⟩) (c36 : PySem.W.codeIn K cd36 "places_of" = true) (k36 : PySem.W.keepIn K (.ref f36) = true)
    (a37 : PySem.W.nsIn K mainGlobals "step_seats" = some (some (.ref f37))) (l37 : K.lookup f37 = some ⟨oc37, od37, .func (PySem.W.fnOf "step_seats" "step_seats" (defArgs S_step_seats) (defBody S_step_seats) (defScope S_step_seats) (.ref T37) kV37 dc37 pm37 an37 cd37 ct37), sl37⟩) (c37 : PySem.W.codeIn K cd37 "step_seats" = true) (k37 : PySem.W.keepIn K (.ref f37) = true)
    (d37 : K.lookup T37 = some ⟨tc37, td37, .seq #[.int 1 tk37] tn37, ts37⟩)
    (a38 : PySem.W.nsIn K mainGlobals "call_map" = some (some (.ref f38))) (l38 : K.lookup f38 = some ⟨oc38, od38, .func (PySem.W.fnOf "call_map" "call_map" (defArgs S_call_map) (defBody S_call_map) (defScope S_call_map) .none kV38 dc38 pm38 an38 cd38 ct38), sl38⟩) (c38 : PySem.W.codeIn K cd38 "call_map" = true) (k38 : PySem.W.keepIn K (.ref f38) = true)
    (a39 : PySem.W.nsIn K mainGlobals "map_power" = some (some (.ref f39))) (l39 : K.lookup f39 = some ⟨oc39, od39, .func (PySem.W.fnOf "map_power" "map_power" (defArgs S_map_power) (defBody S_map_power) (defScope S_map_power) .none kV39 dc39 pm39 an39 cd39 ct39), sl39⟩) (c39 : PySem.W.codeIn K cd39 "map_power" = true) (k39 : PySem.W.keepIn K (.ref f39) = true)
    (a40 : PySem.W.nsIn K mainGlobals "map_of" = some (some (.ref f40))) (l40 : K.lookup f40 = some ⟨oc40, od40, .func (PySem.W.fnOf "map_of" "map_of" (defArgs S_map_of) (defBody S_map_of) (defScope S_map_of) .none kV40 dc40 pm40 an40 cd40 ct40), sl40⟩) (c40 : PySem.W.codeIn K cd40 "map_of" = true) (k40 : PySem.W.keepIn K (.ref f40) = true)
    (a41 : PySem.W.nsIn K mainGlobals "step_map" = some (some (.ref f41))) (l41 : K.lookup f41 = some ⟨oc41, od41, .func (PySem.W.fnOf "step_map" "step_map" (defArgs S_step_map) (defBody S_step_map) (defScope S_step_map) .none kV41 dc41 pm41 an41 cd41 ct41), sl41⟩) (c41 : PySem.W.codeIn K cd41 "step_map" = true) (k41 : PySem.W.keepIn K (.ref f41) = true)
    (a42 : PySem.W.nsIn K mainGlobals "plan_map" = some (some (.ref f42))) (l42 : K.lookup f42 = some ⟨oc42, od42, .func (PySem.W.fnOf "plan_map" "plan_map" (defArgs S_plan_map) (defBody S_plan_map) (defScope S_plan_map) .none kV42 dc42 pm42 an42 cd42 ct42), sl42⟩) (c42 : PySem.W.codeIn K cd42 "plan_map" = true) (k42 : PySem.W.keepIn K (.ref f42) = true)
    (a43 : PySem.W.nsIn K mainGlobals "_law_calls" = some (some (.ref f43))) (l43 : K.lookup f43 = some ⟨oc43, od43, .func (PySem.W.fnOf "_law_calls" "_law_calls" (defArgs S__law_calls) (defBody S__law_calls) (defScope S__law_calls) .none kV43 dc43 pm43 an43 cd43 ct43), sl43⟩) (c43 : PySem.W.codeIn K cd43 "_law_calls" = true) (k43 : PySem.W.keepIn K (.ref f43) = true)
    (a44 : PySem.W.nsIn K mainGlobals "_law_is_counted_right" = some (some (.ref f44))) (l44 : K.lookup f44 = some ⟨oc44, od44, .func (PySem.W.fnOf "_law_is_counted_right" "_law_is_counted_right" (defArgs S__law_is_counted_right) (defBody S__law_is_counted_right) (defScope S__law_is_counted_right) .none kV44 dc44 pm44 an44 cd44 ct44), sl44⟩) (c44 : PySem.W.codeIn K cd44 "_law_is_counted_right" = true) (k44 : PySem.W.keepIn K (.ref f44) = true)
    (a45 : PySem.W.nsIn K mainGlobals "_law_near" = some (some (.ref f45))) (l45 : K.lookup f45 = some ⟨oc45, od45, .func (PySem.W.fnOf "_law_near" "_law_near" (defArgs S__law_near) (defBody S__law_near) (defScope S__law_near) .none kV45 dc45 pm45 an45 cd45 ct45), sl45⟩) (c45 : PySem.W.codeIn K cd45 "_law_near" = true) (k45 : PySem.W.keepIn K (.ref f45) = true)
    (a46 : PySem.W.nsIn K mainGlobals "law" = some (some (.ref f46))) (l46 : K.lookup f46 = some ⟨oc46, od46, .func (PySem.W.fnOf "law" "law" (defArgs S_law) (defBody S_law) (defScope S_law) .none kV46 dc46 pm46 an46 cd46 ct46), sl46⟩) (c46 : PySem.W.codeIn K cd46 "law" = true) (k46 : PySem.W.keepIn K (.ref f46) = true)
    (z0 : PySem.W.nsIn K mainGlobals "all" = some none)
    (z1 : PySem.W.nsIn K mainGlobals "bool" = some none)
    (z2 : PySem.W.nsIn K mainGlobals "enumerate" = some none)
    (z3 : PySem.W.nsIn K mainGlobals "int" = some none)
    (z4 : PySem.W.nsIn K mainGlobals "isinstance" = some none)
    (z5 : PySem.W.nsIn K mainGlobals "len" = some none)
    (z6 : PySem.W.nsIn K mainGlobals "list" = some none)
    (z7 : PySem.W.nsIn K mainGlobals "max" = some none)
    (z8 : PySem.W.nsIn K mainGlobals "min" = some none)
    (z9 : PySem.W.nsIn K mainGlobals "range" = some none)
    (z10 : PySem.W.nsIn K mainGlobals "repr" = some none)
    (z11 : PySem.W.nsIn K mainGlobals "set" = some none)
    (z12 : PySem.W.nsIn K mainGlobals "sorted" = some none)
    (z13 : PySem.W.nsIn K mainGlobals "str" = some none)
    (z14 : PySem.W.nsIn K mainGlobals "sum" = some none)
    (z15 : PySem.W.nsIn K mainGlobals "tuple" = some none)
    {t0 t1 t2 t3 : Tok}
    (con0 : PySem.W.nsIn K mainGlobals "BEAT" = some (some (.str "beat" t0)))
    (con1 : PySem.W.nsIn K mainGlobals "MOST_RINGS" = some (some (.int 40 t1)))
    (con2 : PySem.W.nsIn K mainGlobals "MOST_UNROLLED" = some (some (.int 2000 t2)))
    (con3 : PySem.W.nsIn K mainGlobals "TIMES" = some (some (.str "times" t3)))
    {XB : Addr} (xB : PySem.W.nsIn K mainGlobals "FloorError" = some (some (.ref XB)))
    {C0 I0 : Addr} {xm0 xq0 : Str} {xN0 : Addr} {xb0 : List Value} {xs0 : List Str} {xu0 : List Value} {xa0 : Bool} {xc0 : Option Bool} {xd0 : Option Addr} {x00 x10 x20 x30 x50 : Option Value} {xoc0 xdc0 xpm0 xcd0 xct0 : Value} {xod0 xan0 : Option Addr} {xsl0 : Array (Option Value)}
    (XC0 : PySem.W.nsIn K mainGlobals "TooMany" = some (some (.ref C0)))
    (XL0 : K.lookup C0 = some (excClassObj xm0 xq0 C0 xN0 xb0 (.ref XB :: exTl) true xs0 xu0 xa0 xc0 xd0 x00 x10 x20 x30 x50 "Exception.__new__"))
    (XS0 : PySem.W.findIn K (.ref C0) "__setattr__" = some (some (.builtin "object.__setattr__")))
    (XG0 : PySem.W.findIn K (.ref C0) "__getattribute__" = some (some (.builtin "BaseException.__getattribute__")))
    (XH0 : PySem.W.findIn K (.ref C0) "__getattr__" = some none)
    (XF0 : PySem.W.findIn K (.ref C0) "most" = some none)
    (XI0 : PySem.W.findIn K (.ref C0) "__init__" = some (some (.ref I0)))
    (XJ0 : PySem.W.typeIn K (.ref I0) = some (.type "function"))
    (XK0 : K.lookup I0 = some ⟨xoc0, xod0, .func (PySem.W.fnOf "__init__" "TooMany.__init__" (iniA "most" ⟨14, 17, 14, 21⟩ ⟨14, 23, 14, 27⟩) (iniB "most" ⟨15, 8, 15, 12⟩ ⟨15, 8, 15, 17⟩ ⟨15, 20, 15, 24⟩ ⟨15, 8, 15, 24⟩) (iniS "most") .none .none xdc0 xpm0 xan0 xcd0 xct0), xsl0⟩)
    (XO0 : PySem.W.codeIn K xcd0 "TooMany.__init__" = true)
    (XP0 : PySem.W.keepIn K (.ref C0) = true)
    (XE0 : PySem.W.subIn K (.ref C0) (.type "BaseException") = some true)
    (XT0 : PySem.W.typeIn K (.ref C0) = some (.type "type"))
    (XD0 : PySem.W.hasDictIn K C0 = true)
    (XR0 : (PySem.W.clsIn K C0).isSome = true)
    (XU0 : PySem.W.findIn K (.ref C0) "__class__" = some (some (.builtin "object.__class__")))
    (XV0 : PySem.W.specialIn K (.builtin "object.__class__") "__get__" = some (some (.builtin "getset_descriptor.__get__")))
    (XW0 : PySem.W.takesIn K (.builtin "object.__class__") = some true)
    (XX0 : PySem.W.mroIn K C0 (.type "object") = some true)
    (XY0 : PySem.W.kitOne K (.ref C0) (.ref XB) = some true)
    (XZ0 : PySem.W.subIn K (.ref C0) (.ref C0) = some true)
    : ∃ fd : FuncData, (∀ (s : Shared) (v : Value), BindsTo s fd ⟨[v], []⟩ [("_law_script", v)]) ∧ ∀ base : Heap, K.In base → base.Ns mainGlobals mg → FnG P w K mg base 28 fa fd ["_law_script"] F_law := by
  have e := hfa.symm.trans (PySem.W.mg_of X G a46)
  cases e
  refine ⟨PySem.W.fnOf "law" "law" (defArgs S_law) (defBody S_law) (defScope S_law) .none kV46 dc46 pm46 an46 cd46 ct46, fun s v => .of_eq rfl, fun base _ _ => ?_⟩
  have T_TooMany : XT K mg "TooMany" "most" "TooMany.__init__" "FloorError" := ⟨C0, XB, I0, { gC := PySem.W.mg_of X G XC0, cls := ⟨_, _, _, _, _, _, _, _, _, _, _, _, _, _, XL0⟩, sa := XS0, ga := XG0, gg := XH0, noN := XF0, iC := XI0, tC := XJ0, kC := XP0, exC := XE0, tyC := XT0, hdC := XD0, fld := fld_most _, fn := ⟨_, _, _, _, _, _, _, _, _, _, _, _, _, _, XK0, XO0⟩ }, ⟨XR0, XG0, XH0, XE0, XU0, XV0, XW0, XX0⟩, XY0, PySem.W.mg_of X G xB, exm_own XE0 XR0 XT0 XZ0⟩
  have F0 := fun_mk (st := S__law_deck) l0 c0 k0
  have F1 := fun_mk (st := S__law_spots) l1 c1 k1
  have F2 := fun_mk (st := S__law_draw) l2 c2 k2
  have F3 := fun_mk (st := S__law_pick) l3 c3 k3
  have F4 := fun_mk (st := S__law_rings) l4 c4 k4
  have F5 := fun_mk (st := S__law_order) l5 c5 k5
  have F6 := fun_mk (st := S__law_floor) l6 c6 k6
  have F7 := fun_mk (st := S__law_call) l7 c7 k7
  have F8 := fun_mk (st := S__law_plan) l8 c8 k8
  have F9 := fun_mk (st := S_is_pair) l9 c9 k9
  have F10 := fun_mk (st := S_is_integer) l10 c10 k10
  have F11 := fun_mk (st := S_is_from) l11 c11 k11
  have F12 := fun_mk (st := S_are_rings_value) l12 c12 k12
  have F13 := fun_mk (st := S_is_between) l13 c13 k13
  have F14 := fun_mk (st := S_is_place_of) l14 c14 k14
  have F15 := fun_mk (st := S_is_touch_of) l15 c15 k15
  have F16 := fun_mk (st := S_are_touches_of) l16 c16 k16
  have F17 := fun_mk (st := S_is_floor_value) l17 c17 k17
  have F18 := fun_mk (st := S_need_floor) l18 c18 k18
  have F19 := fun_mk (st := S_is_call) l19 c19 k19
  have F20 := fun_mk (st := S_is_step) l20 c20 k20
  have F21 := fun_mk (st := S_is_plan_value) l21 c21 k21
  have F22 := fun_mk (st := S_need_plan) l22 c22 k22
  have F23 := fun_mk (st := S_beats_in) l23 c23 k23
  have F24 := fun_mk (st := S_beats_of) l24 c24 k24
  have F25 := fun_mk (st := S_calls_in) l25 c25 k25
  have F26 := fun_mk (st := S_unrolled) l26 c26 k26
  have F27 := fun_mk (st := S__law_rolled) l27 c27 k27
  have F28 := fun_mk (st := S__law_length) l28 c28 k28
  have F29 := fun_mk (st := S__law_changes) l29 c29 k29
  have F30 := fun_mk (st := S_changes_in) l30 c30 k30
  have F31 := fun_mk (st := S_changes_of) l31 c31 k31
  have F32 := fun_mk (st := S_followed) l32 c32 k32
  have F33 := fun_mk (st := S_seat_of) l33 c33 k33
  have F34 := fun_mk (st := S_seat_touches) l34 c34 k34
  have F35 := fun_mk (st := S_place_behind) l35 c35 k35
  have F36 := fun_mk (st := S_places_of) l36 c36 k36
  have F37 := funD1 l37 c37 k37 d37
  have F38 := fun_mk (st := S_call_map) l38 c38 k38
  have F39 := fun_mk (st := S_map_power) l39 c39 k39
  have F40 := fun_mk (st := S_map_of) l40 c40 k40
  have F41 := fun_mk (st := S_step_map) l41 c41 k41
  have F42 := fun_mk (st := S_plan_map) l42 c42 k42
  have F43 := fun_mk (st := S__law_calls) l43 c43 k43
  have F44 := fun_mk (st := S__law_is_counted_right) l44 c44 k44
  have F45 := fun_mk (st := S__law_near) l45 c45 k45
  have F46 := fun_mk (st := S_law) l46 c46 k46
  have h__law_deck : Cal P w K mg base 1 "_law_deck" S__law_deck ["_law_script"] F__law_deck := ⟨f0, _, F0, ok__law_deck (PySem.W.mg_none_of X G z3) (PySem.W.mg_none_of X G z6) F0, PySem.W.mg_of X G a0⟩
  have h__law_spots : Cal P w K mg base 1 "_law_spots" S__law_spots ["_law_rings_here"] F__law_spots := ⟨f1, _, F1, ok__law_spots (PySem.W.mg_none_of X G z2) (PySem.W.mg_none_of X G z9) F1, PySem.W.mg_of X G a1⟩
  have h__law_draw : Cal P w K mg base 1 "_law_draw" S__law_draw ["_law_deck_here", "_law_many"] F__law_draw := ⟨f2, _, F2, ok__law_draw (PySem.W.mg_none_of X G z3) (PySem.W.mg_none_of X G z7) F2, PySem.W.mg_of X G a2⟩
  have h__law_pick : Cal P w K mg base 2 "_law_pick" S__law_pick ["_law_deck_here", "_law_some"] F__law_pick := ⟨f3, _, F3, ok__law_pick h__law_draw (PySem.W.mg_none_of X G z5) F3, PySem.W.mg_of X G a3⟩
  have h__law_rings : Cal P w K mg base 3 "_law_rings" S__law_rings ["_law_deck_here", "_law_most"] F__law_rings := ⟨f4, _, F4, ok__law_rings h__law_pick (PySem.W.mg_none_of X G z9) (PySem.W.mg_none_of X G z15) F4, PySem.W.mg_of X G a4⟩
  have h__law_order : Cal P w K mg base 2 "_law_order" S__law_order ["_law_deck_here", "_law_n"] F__law_order := ⟨f5, _, F5, ok__law_order h__law_draw (PySem.W.mg_none_of X G z5) (PySem.W.mg_none_of X G z6) (PySem.W.mg_none_of X G z9) (PySem.W.mg_none_of X G z15) F5, PySem.W.mg_of X G a5⟩
  have h__law_floor : Cal P w K mg base 4 "_law_floor" S__law_floor ["_law_deck_here", "_law_most"] F__law_floor := ⟨f6, _, F6, ok__law_floor h__law_draw h__law_order h__law_rings h__law_spots (PySem.W.mg_none_of X G z5) (PySem.W.mg_none_of X G z8) (PySem.W.mg_none_of X G z9) (PySem.W.mg_none_of X G z12) (PySem.W.mg_none_of X G z15) F6, PySem.W.mg_of X G a6⟩
  have h__law_call : Cal P w K mg base 2 "_law_call" S__law_call ["_law_deck_here", "_law_floor_here"] F__law_call := ⟨f7, _, F7, ok__law_call h__law_draw (PySem.W.mg_none_of X G z5) (PySem.W.mg_none_of X G z9) (PySem.W.mg_none_of X G z15) F7, PySem.W.mg_of X G a7⟩
  have r_8 := ok__law_plan (P := P) (w := w) (base := base) h__law_call h__law_draw h__law_pick (PySem.W.mg_none_of X G z9) (PySem.W.mg_none_of X G z15) F8 (PySem.W.mg_of X G a8) 12
  have h__law_plan : Cal P w K mg base 14 "_law_plan" S__law_plan ["_law_deck_here", "_law_floor_here", "_law_deep", "_law_great"] (F__law_plan 12) := ⟨f8, _, F8, r_8, PySem.W.mg_of X G a8⟩
  have h_is_pair : Cal P w K mg base 1 "is_pair" S_is_pair ["thing"] F_is_pair := ⟨f9, _, F9, ok_is_pair (PySem.W.mg_none_of X G z4) (PySem.W.mg_none_of X G z5) (PySem.W.mg_none_of X G z15) F9, PySem.W.mg_of X G a9⟩
  have h_is_integer : Cal P w K mg base 1 "is_integer" S_is_integer ["thing"] F_is_integer := ⟨f10, _, F10, ok_is_integer (PySem.W.mg_none_of X G z1) (PySem.W.mg_none_of X G z3) (PySem.W.mg_none_of X G z4) F10, PySem.W.mg_of X G a10⟩
  have h_is_from : Cal P w K mg base 2 "is_from" S_is_from ["thing", "least"] F_is_from := ⟨f11, _, F11, ok_is_from h_is_integer F11, PySem.W.mg_of X G a11⟩
  have h_are_rings_value : Cal P w K mg base 3 "are_rings_value" S_are_rings_value ["thing"] F_are_rings_value := ⟨f12, _, F12, ok_are_rings_value h_is_from (PySem.W.mg_none_of X G z0) (PySem.W.mg_none_of X G z4) (PySem.W.mg_none_of X G z5) (PySem.W.mg_none_of X G z15) ⟨_, PySem.W.mg_of X G con1, ⟨_, rfl⟩⟩ F12, PySem.W.mg_of X G a12⟩
  have h_is_between : Cal P w K mg base 2 "is_between" S_is_between ["thing", "least", "most"] F_is_between := ⟨f13, _, F13, ok_is_between h_is_integer F13, PySem.W.mg_of X G a13⟩
  have h_is_place_of : Cal P w K mg base 3 "is_place_of" S_is_place_of ["rings", "thing"] F_is_place_of := ⟨f14, _, F14, ok_is_place_of h_is_between h_is_pair (PySem.W.mg_none_of X G z5) F14, PySem.W.mg_of X G a14⟩
  have h_is_touch_of : Cal P w K mg base 4 "is_touch_of" S_is_touch_of ["rings", "thing"] F_is_touch_of := ⟨f15, _, F15, ok_is_touch_of h_is_pair h_is_place_of F15, PySem.W.mg_of X G a15⟩
  have h_are_touches_of : Cal P w K mg base 5 "are_touches_of" S_are_touches_of ["rings", "thing"] F_are_touches_of := ⟨f16, _, F16, ok_are_touches_of h_is_touch_of (PySem.W.mg_none_of X G z0) (PySem.W.mg_none_of X G z4) (PySem.W.mg_none_of X G z5) (PySem.W.mg_none_of X G z6) (PySem.W.mg_none_of X G z11) (PySem.W.mg_none_of X G z12) (PySem.W.mg_none_of X G z15) F16, PySem.W.mg_of X G a16⟩
  have h_is_floor_value : Cal P w K mg base 6 "is_floor_value" S_is_floor_value ["thing"] F_is_floor_value := ⟨f17, _, F17, ok_is_floor_value h_are_rings_value h_are_touches_of h_is_pair F17, PySem.W.mg_of X G a17⟩
  have h_need_floor : Cal P w K mg base 7 "need_floor" S_need_floor ["floor"] F_need_floor := ⟨f18, _, F18, ok_need_floor h_is_floor_value F18, PySem.W.mg_of X G a18⟩
  have h_is_call : Cal P w K mg base 3 "is_call" S_is_call ["floor", "thing"] F_is_call := ⟨f19, _, F19, ok_is_call h_is_between (PySem.W.mg_none_of X G z0) (PySem.W.mg_none_of X G z4) (PySem.W.mg_none_of X G z5) (PySem.W.mg_none_of X G z6) (PySem.W.mg_none_of X G z11) (PySem.W.mg_none_of X G z12) (PySem.W.mg_none_of X G z15) F19, PySem.W.mg_of X G a19⟩
  have h_is_step : Cal P w K mg base 4 "is_step" S_is_step ["floor", "thing"] F_is_step := ⟨f20, _, F20, ok_is_step h_is_call h_is_from (PySem.W.mg_none_of X G z4) (PySem.W.mg_none_of X G z5) (PySem.W.mg_none_of X G z13) (PySem.W.mg_none_of X G z15) ⟨_, PySem.W.mg_of X G con0, ⟨_, rfl⟩⟩ ⟨_, PySem.W.mg_of X G con3, ⟨_, rfl⟩⟩ F20, PySem.W.mg_of X G a20⟩
  have h_is_plan_value : Cal P w K mg base 5 "is_plan_value" S_is_plan_value ["floor", "thing"] F_is_plan_value := ⟨f21, _, F21, ok_is_plan_value h_is_step (PySem.W.mg_none_of X G z0) (PySem.W.mg_none_of X G z4) (PySem.W.mg_none_of X G z15) ⟨_, PySem.W.mg_of X G con3, ⟨_, rfl⟩⟩ F21, PySem.W.mg_of X G a21⟩
  have h_need_plan : Cal P w K mg base 8 "need_plan" S_need_plan ["floor", "plan"] F_need_plan := ⟨f22, _, F22, ok_need_plan h_is_plan_value h_need_floor F22, PySem.W.mg_of X G a22⟩
  have r_23 := ok_beats_in (P := P) (w := w) (base := base) (PySem.W.mg_none_of X G z14) ⟨_, PySem.W.mg_of X G con0, ⟨_, rfl⟩⟩ F23 (PySem.W.mg_of X G a23) 12
  have h_beats_in : Cal P w K mg base 12 "beats_in" S_beats_in ["plan"] (F_beats_in 12) := ⟨f23, _, F23, r_23, PySem.W.mg_of X G a23⟩
  have h_beats_of : Cal P w K mg base 13 "beats_of" S_beats_of ["floor", "plan"] F_beats_of := ⟨f24, _, F24, ok_beats_of h_beats_in h_need_plan F24, PySem.W.mg_of X G a24⟩
  have r_25 := ok_calls_in (P := P) (w := w) (base := base) h_beats_in ⟨_, PySem.W.mg_of X G con0, ⟨_, rfl⟩⟩ F25 (PySem.W.mg_of X G a25) 12
  have h_calls_in : Cal P w K mg base 24 "calls_in" S_calls_in ["plan"] (F_calls_in 12) := ⟨f25, _, F25, r_25, PySem.W.mg_of X G a25⟩
  have h_unrolled : Cal P w K mg base 25 "unrolled" S_unrolled ["floor", "plan"] F_unrolled := ⟨f26, _, F26, ok_unrolled h_beats_in h_calls_in h_need_plan (PySem.W.mg_none_of X G z15) ⟨_, PySem.W.mg_of X G con2, ⟨_, rfl⟩⟩ T_TooMany F26, PySem.W.mg_of X G a26⟩
  have h__law_rolled : Cal P w K mg base 26 "_law_rolled" S__law_rolled ["_law_floor_here", "_law_plan_here"] F__law_rolled := ⟨f27, _, F27, ok__law_rolled h_unrolled (PySem.W.mg_none_of X G z4) T_TooMany F27, PySem.W.mg_of X G a27⟩
  have r_28 := ok__law_length (P := P) (w := w) (base := base) (PySem.W.mg_none_of X G z14) F28 (PySem.W.mg_of X G a28) 12
  have h__law_length : Cal P w K mg base 12 "_law_length" S__law_length ["_law_plan_here"] (F__law_length 12) := ⟨f28, _, F28, r_28, PySem.W.mg_of X G a28⟩
  have r_29 := ok__law_changes (P := P) (w := w) (base := base) (PySem.W.mg_none_of X G z5) (PySem.W.mg_none_of X G z14) F29 (PySem.W.mg_of X G a29) 12
  have h__law_changes : Cal P w K mg base 12 "_law_changes" S__law_changes ["_law_plan_here"] (F__law_changes 12) := ⟨f29, _, F29, r_29, PySem.W.mg_of X G a29⟩
  have r_30 := ok_changes_in (P := P) (w := w) (base := base) (PySem.W.mg_none_of X G z5) (PySem.W.mg_none_of X G z14) ⟨_, PySem.W.mg_of X G con0, ⟨_, rfl⟩⟩ F30 (PySem.W.mg_of X G a30) 12
  have h_changes_in : Cal P w K mg base 12 "changes_in" S_changes_in ["plan"] (F_changes_in 12) := ⟨f30, _, F30, r_30, PySem.W.mg_of X G a30⟩
  have h_changes_of : Cal P w K mg base 13 "changes_of" S_changes_of ["floor", "plan"] F_changes_of := ⟨f31, _, F31, ok_changes_of h_changes_in h_need_plan F31, PySem.W.mg_of X G a31⟩
  have h_followed : Cal P w K mg base 1 "followed" S_followed ["first", "second"] F_followed := ⟨f32, _, F32, ok_followed F32, PySem.W.mg_of X G a32⟩
  have h_seat_of : Cal P w K mg base 1 "seat_of" S_seat_of ["rings", "place"] F_seat_of := ⟨f33, _, F33, ok_seat_of (PySem.W.mg_none_of X G z14) F33, PySem.W.mg_of X G a33⟩
  have h_seat_touches : Cal P w K mg base 2 "seat_touches" S_seat_touches ["floor"] F_seat_touches := ⟨f34, _, F34, ok_seat_touches h_seat_of F34, PySem.W.mg_of X G a34⟩
  have h_place_behind : Cal P w K mg base 1 "place_behind" S_place_behind ["rings", "place", "k"] F_place_behind := ⟨f35, _, F35, ok_place_behind F35, PySem.W.mg_of X G a35⟩
  have h_places_of : Cal P w K mg base 1 "places_of" S_places_of ["rings"] F_places_of := ⟨f36, _, F36, ok_places_of (PySem.W.mg_none_of X G z2) (PySem.W.mg_none_of X G z9) F36, PySem.W.mg_of X G a36⟩
  have h_step_seats : CalD P w K mg base 2 "step_seats" S_step_seats [V.int 1] ["rings", "k"] F_step_seats := ⟨f37, _, F37, ok_step_seats h_place_behind h_places_of h_seat_of F37, PySem.W.mg_of X G a37⟩
  have h_call_map : Cal P w K mg base 3 "call_map" S_call_map ["floor", "call"] F_call_map := ⟨f38, _, F38, ok_call_map h_seat_touches h_step_seats F38, PySem.W.mg_of X G a38⟩
  have h_map_power : Cal P w K mg base 2 "map_power" S_map_power ["lead", "k"] F_map_power := ⟨f39, _, F39, ok_map_power h_followed (PySem.W.mg_none_of X G z5) (PySem.W.mg_none_of X G z6) (PySem.W.mg_none_of X G z9) F39, PySem.W.mg_of X G a39⟩
  have r_40 := ok_map_of_step_map (P := P) (w := w) (base := base) h_call_map h_followed h_map_power (PySem.W.mg_none_of X G z6) (PySem.W.mg_none_of X G z9) (PySem.W.mg_none_of X G z14) ⟨_, PySem.W.mg_of X G con0, ⟨_, rfl⟩⟩ F40 (PySem.W.mg_of X G a40) F41 (PySem.W.mg_of X G a41) 12
  have h_map_of : Cal P w K mg base 15 "map_of" S_map_of ["floor", "plan"] (F_map_of 12) := ⟨f40, _, F40, r_40.1, PySem.W.mg_of X G a40⟩
  have h_step_map : Cal P w K mg base 15 "step_map" S_step_map ["floor", "step"] (F_step_map 12) := ⟨f41, _, F41, r_40.2, PySem.W.mg_of X G a41⟩
  have h_plan_map : Cal P w K mg base 16 "plan_map" S_plan_map ["floor", "plan"] F_plan_map := ⟨f42, _, F42, ok_plan_map h_map_of h_need_plan (PySem.W.mg_none_of X G z15) F42, PySem.W.mg_of X G a42⟩
  have r_43 := ok__law_calls (P := P) (w := w) (base := base) h__law_length F43 (PySem.W.mg_of X G a43) 12
  have h__law_calls : Cal P w K mg base 24 "_law_calls" S__law_calls ["_law_plan_here"] (F__law_calls 12) := ⟨f43, _, F43, r_43, PySem.W.mg_of X G a43⟩
  have h__law_is_counted_right : Cal P w K mg base 27 "_law_is_counted_right" S__law_is_counted_right ["_law_floor_here", "_law_plan_here"] F__law_is_counted_right := ⟨f44, _, F44, ok__law_is_counted_right h__law_calls h__law_changes h__law_length h__law_rolled h_beats_of h_changes_of h_plan_map h_unrolled (PySem.W.mg_none_of X G z10) (PySem.W.mg_none_of X G z15) F44, PySem.W.mg_of X G a44⟩
  have h__law_near : Cal P w K mg base 3 "_law_near" S__law_near ["_law_deck_here", "_law_floor_here"] F__law_near := ⟨f45, _, F45, ok__law_near h__law_call h__law_draw h__law_pick F45, PySem.W.mg_of X G a45⟩
  exact ok_law h__law_deck h__law_draw h__law_floor h__law_is_counted_right h__law_near h__law_pick h__law_plan h_beats_of h_changes_of h_unrolled (PySem.W.mg_none_of X G z9) (PySem.W.mg_none_of X G z10) F46
end Lk12
open PySem PySem.W PyProof.Rows
set_option maxHeartbeats 0 in
theorem PySem.Challenge.cw_touchrings_k12_beats_and_changes_counted_holds : PySem.Challenge.rw_touchrings_k12_beats_and_changes_counted.Holds := by
  w_on; o_law; k_head; (case hw => w_witness2)
  k_fill
  refine Dl.walk_g (l := PySem.Challenge.rw_touchrings_k12_beats_and_changes_counted) (n := 63) (k := 28) (x := "_law_script") (Fm := Lk12.F_law) rfl (by decide) rfl ⟨⟨rfl, by decide, by decide⟩, rfl⟩ (fun w h Y => PySem.W.kIn_of Y) ?F Lk12.law_true
  case F =>
    intro w mg fa h KX G hmg
    refine' Lk12.all_mk KX G hmg ?a0 ?l0 ?c0 ?k0 ?a1 ?l1 ?c1 ?k1 ?a2 ?l2 ?c2 ?k2 ?a3 ?l3 ?c3 ?k3 ?a4 ?l4 ?c4 ?k4 ?a5 ?l5 ?c5 ?k5 ?a6 ?l6 ?c6 ?k6 ?a7 ?l7 ?c7 ?k7 ?a8 ?l8 ?c8 ?k8 ?a9 ?l9 ?c9 ?k9 ?a10 ?l10 ?c10 ?k10 ?a11 ?l11 ?c11 ?k11 ?a12 ?l12 ?c12 ?k12 ?a13 ?l13 ?c13 ?k13 ?a14 ?l14 ?c14 ?k14 ?a15 ?l15 ?c15 ?k15 ?a16 ?l16 ?c16 ?k16 ?a17 ?l17 ?c17 ?k17 ?a18 ?l18 ?c18 ?k18 ?a19 ?l19 ?c19 ?k19 ?a20 ?l20 ?c20 ?k20 ?a21 ?l21 ?c21 ?k21 ?a22 ?l22 ?c22 ?k22 ?a23 ?l23 ?c23 ?k23 ?a24 ?l24 ?c24 ?k24 ?a25 ?l25 ?c25 ?k25 ?a26 ?l26 ?c26 ?k26 ?a27 ?l27 ?c27 ?k27 ?a28 ?l28 ?c28 ?k28 ?a29 ?l29 ?c29 ?k29 ?a30 ?l30 ?c30 ?k30 ?a31 ?l31 ?c31 ?k31 ?a32 ?l32 ?c32 ?k32 ?a33 ?l33 ?c33 ?k33 ?a34 ?l34 ?c34 ?k34 ?a35 ?l35 ?c35 ?k35 ?a36 ?l36 ?c36 ?k36 ?a37 ?l37 ?c37 ?k37 ?d37 ?a38 ?l38 ?c38 ?k38 ?a39 ?l39 ?c39 ?k39 ?a40 ?l40 ?c40 ?k40 ?a41 ?l41 ?c41 ?k41 ?a42 ?l42 ?c42 ?k42 ?a43 ?l43 ?c43 ?k43 ?a44 ?l44 ?c44 ?k44 ?a45 ?l45 ?c45 ?k45 ?a46 ?l46 ?c46 ?k46 ?z0 ?z1 ?z2 ?z3 ?z4 ?z5 ?z6 ?z7 ?z8 ?z9 ?z10 ?z11 ?z12 ?z13 ?z14 ?z15 ?con0 ?con1 ?con2 ?con3 ?xB ?XC0 ?XL0 ?XS0 ?XG0 ?XH0 ?XF0 ?XI0 ?XJ0 ?XK0 ?XO0 ?XP0 ?XE0 ?XT0 ?XD0 ?XR0 ?XU0 ?XV0 ?XW0 ?XX0 ?XY0 ?XZ0
    (case a0 => k_is); (case l0 => k_is); (case c0 => k_is); (case k0 => k_is); (case a1 => k_is); (case l1 => k_is); (case c1 => k_is); (case k1 => k_is); (case a2 => k_is); (case l2 => k_is); (case c2 => k_is); (case k2 => k_is); (case a3 => k_is); (case l3 => k_is); (case c3 => k_is); (case k3 => k_is); (case a4 => k_is); (case l4 => k_is); (case c4 => k_is); (case k4 => k_is); (case a5 => k_is); (case l5 => k_is); (case c5 => k_is); (case k5 => k_is); (case a6 => k_is); (case l6 => k_is); (case c6 => k_is); (case k6 => k_is); (case a7 => k_is); (case l7 => k_is); (case c7 => k_is); (case k7 => k_is); (case a8 => k_is); (case l8 => k_is); (case c8 => k_is); (case k8 => k_is); (case a9 => k_is); (case l9 => k_is); (case c9 => k_is); (case k9 => k_is); (case a10 => k_is); (case l10 => k_is); (case c10 => k_is); (case k10 => k_is); (case a11 => k_is); (case l11 => k_is); (case c11 => k_is); (case k11 => k_is); (case a12 => k_is); (case l12 => k_is); (case c12 => k_is); (case k12 => k_is); (case a13 => k_is); (case l13 => k_is); (case c13 => k_is); (case k13 => k_is); (case a14 => k_is); (case l14 => k_is); (case c14 => k_is); (case k14 => k_is); (case a15 => k_is); (case l15 => k_is); (case c15 => k_is); (case k15 => k_is); (case a16 => k_is); (case l16 => k_is); (case c16 => k_is); (case k16 => k_is); (case a17 => k_is); (case l17 => k_is); (case c17 => k_is); (case k17 => k_is); (case a18 => k_is); (case l18 => k_is); (case c18 => k_is); (case k18 => k_is); (case a19 => k_is); (case l19 => k_is); (case c19 => k_is); (case k19 => k_is); (case a20 => k_is); (case l20 => k_is); (case c20 => k_is); (case k20 => k_is); (case a21 => k_is); (case l21 => k_is); (case c21 => k_is); (case k21 => k_is); (case a22 => k_is); (case l22 => k_is); (case c22 => k_is); (case k22 => k_is); (case a23 => k_is); (case l23 => k_is); (case c23 => k_is); (case k23 => k_is); (case a24 => k_is); (case l24 => k_is); (case c24 => k_is); (case k24 => k_is); (case a25 => k_is); (case l25 => k_is); (case c25 => k_is); (case k25 => k_is); (case a26 => k_is); (case l26 => k_is); (case c26 => k_is); (case k26 => k_is); (case a27 => k_is); (case l27 => k_is); (case c27 => k_is); (case k27 => k_is); (case a28 => k_is); (case l28 => k_is); (case c28 => k_is); (case k28 => k_is); (case a29 => k_is); (case l29 => k_is); (case c29 => k_is); (case k29 => k_is); (case a30 => k_is); (case l30 => k_is); (case c30 => k_is); (case k30 => k_is); (case a31 => k_is); (case l31 => k_is); (case c31 => k_is); (case k31 => k_is); (case a32 => k_is); (case l32 => k_is); (case c32 => k_is); (case k32 => k_is); (case a33 => k_is); (case l33 => k_is); (case c33 => k_is); (case k33 => k_is); (case a34 => k_is); (case l34 => k_is); (case c34 => k_is); (case k34 => k_is); (case a35 => k_is); (case l35 => k_is); (case c35 => k_is); (case k35 => k_is); (case a36 => k_is); (case l36 => k_is); (case c36 => k_is); (case k36 => k_is); (case a37 => k_is); (case l37 => k_is); (case c37 => k_is); (case k37 => k_is); (case d37 => k_is); (case a38 => k_is); (case l38 => k_is); (case c38 => k_is); (case k38 => k_is); (case a39 => k_is); (case l39 => k_is); (case c39 => k_is); (case k39 => k_is); (case a40 => k_is); (case l40 => k_is); (case c40 => k_is); (case k40 => k_is); (case a41 => k_is); (case l41 => k_is); (case c41 => k_is); (case k41 => k_is); (case a42 => k_is); (case l42 => k_is); (case c42 => k_is); (case k42 => k_is); (case a43 => k_is); (case l43 => k_is); (case c43 => k_is); (case k43 => k_is); (case a44 => k_is); (case l44 => k_is); (case c44 => k_is); (case k44 => k_is); (case a45 => k_is); (case l45 => k_is); (case c45 => k_is); (case k45 => k_is); (case a46 => k_is); (case l46 => k_is); (case c46 => k_is); (case k46 => k_is); (case z0 => k_is); (case z1 => k_is); (case z2 => k_is); (case z3 => k_is); (case z4 => k_is); (case z5 => k_is); (case z6 => k_is); (case z7 => k_is); (case z8 => k_is); (case z9 => k_is); (case z10 => k_is); (case z11 => k_is); (case z12 => k_is); (case z13 => k_is); (case z14 => k_is); (case z15 => k_is); (case con0 => k_is); (case con1 => k_is); (case con2 => k_is); (case con3 => k_is); (case xB => k_is); (case XC0 => first | k_is | rfl); (case XL0 => first | k_is | rfl); (case XS0 => first | k_is | rfl); (case XG0 => first | k_is | rfl); (case XH0 => first | k_is | rfl); (case XF0 => first | k_is | rfl); (case XI0 => first | k_is | rfl); (case XJ0 => first | k_is | rfl); (case XK0 => first | k_is | rfl); (case XO0 => first | k_is | rfl); (case XP0 => first | k_is | rfl); (case XE0 => first | k_is | rfl); (case XT0 => first | k_is | rfl); (case XD0 => first | k_is | rfl); (case XR0 => first | k_is | rfl); (case XU0 => first | k_is | rfl); (case XV0 => first | k_is | rfl); (case XW0 => first | k_is | rfl); (case XX0 => first | k_is | rfl); (case XY0 => first | k_is | rfl); (case XZ0 => first | k_is | rfl)

