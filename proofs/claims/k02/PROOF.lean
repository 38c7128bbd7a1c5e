import PyProof.Rows.All
import Wide.All
import OpenK.AllK
import Wide.FinOn
import HandS.ForMost
import HandS.ForExc
import HandS.Flow
import HandS.IsInst
import HandS.Deep
import HandS.Wide
import PyProof.ReprReads
import HandS.TupAny
import HandS.WordsDict
import HandS.SortOrd
import HandS.Zip
import PyProof.ReprRoads
import HandS.Ends
import HandS.Text
import PyProof.StrLawsRepr
import PySem.Challenge.RW_halfbuilt_k02_names_judged
set_option Elab.async false
set_option linter.all false
set_option autoImplicit false
set_option maxRecDepth 100000
set_option maxHeartbeats 4000000
/-! Data as trees over the hand layer: what a value denotes, steps of the heap, judgements. -/
namespace HB
open PySem L2

inductive D where
  | non | bl (b : Bool) | int (i : Int) | str (x : Str)
  | lst (xs : List D) | tup (xs : List D) | dct (kvs : List (Key × D)) | dtt (kvs : List (List Key × D)) | obj (k : Nat) (fs : List D) | scr (ns : List Int)

/-- the written part, and the own classes by number -/
structure Gam where
  K : PySem.W.Frag
  cls : Nat → Addr
  fld : Nat → List Str

def keyD : Key → D
  | .inl i => .int i
  | .inr x => .str x

/-- a tuple of the call's own -/
def TupAt (K : PySem.W.Frag) (S : Hp) (a : Addr) (xs : List V) : Prop := S a = some (.tup xs)
theorem TupAt.seqT {K : PySem.W.Frag} {S : Hp} {a : Addr} {xs : List V} (h : TupAt K S a xs) : SqT K S a xs := .inl (.inl h)
mutual
inductive Dn (G : Gam) (S : Hp) : V → D → Prop
  | non : Dn G S .non .non
  | bl (b : Bool) : Dn G S (.bl b) (.bl b)
  | int (i : Int) : Dn G S (.int i) (.int i)
  | str (x : Str) : Dn G S (.str x) (.str x)
  | lst {a : Addr} {vs : List V} {ds : List D} : S a = some (.lst vs) → Dns G S vs ds → Dn G S (.ref a) (.lst ds)
  | tup {a : Addr} {vs : List V} {ds : List D} : TupAt G.K S a vs → Dns G S vs ds → Dn G S (.ref a) (.tup ds)
  | dct {a : Addr} {ks : List (Key × V)} {ds : List (Key × D)} : Rd S a (.dK ks) → Dks G S ks ds → Dn G S (.ref a) (.dct ds)
  | dcT {a : Addr} {ks : List (List Key × V)} {ds : List (List Key × D)} : Rd S a (.dT ks) → Dts G S ks ds → Dn G S (.ref a) (.dtt ds)
  /-- the script, perhaps held fast -/
  | scr {a : Addr} {ns : List Int} : SqL G.K S a (ns.map V.int) → Dn G S (.ref a) (.scr ns)
  | obj {a dx : Addr} {vs : List V} {ds : List D} {k : Nat} : S a = some (.ins (G.cls k) dx ((G.fld k).zip vs)) → vs.length = (G.fld k).length → Dns G S vs ds → Dn G S (.ref a) (.obj k ds)
inductive Dns (G : Gam) (S : Hp) : List V → List D → Prop
  | nil : Dns G S [] []
  | cons {v : V} {vs : List V} {d : D} {ds : List D} : Dn G S v d → Dns G S vs ds → Dns G S (v :: vs) (d :: ds)
inductive Dks (G : Gam) (S : Hp) : List (Key × V) → List (Key × D) → Prop
  | nil : Dks G S [] []
  | cons {k : Key} {v : V} {ks : List (Key × V)} {d : D} {ds : List (Key × D)} : Dn G S v d → Dks G S ks ds → Dks G S ((k, v) :: ks) ((k, d) :: ds)
inductive Dts (G : Gam) (S : Hp) : List (List Key × V) → List (List Key × D) → Prop
  | nil : Dts G S [] []
  | cons {k : List Key} {v : V} {ks : List (List Key × V)} {d : D} {ds : List (List Key × D)} : Dn G S v d → Dts G S ks ds → Dts G S ((k, v) :: ks) ((k, d) :: ds)
end

def isDk : HO → Bool
  | .dK _ => true
  | .dT _ => true
  | _ => false
/-- a dict's own description, locked or not -/
def core : HO → HO
  | .frz o u => if isDk u = true then u else .frz o u
  | u => u
/-- all that stands in S stands in T, a dict perhaps locked or unlocked -/
def Mon (S T : Hp) : Prop := ∀ a u, S a = some u → ∃ u', T a = some u' ∧ core u = core u' ∧ (isDk (core u) = false → u = u')
theorem Mon.refl (S : Hp) : Mon S S := fun _ u h => ⟨u, h, rfl, fun _ => rfl⟩
theorem Mon.of {S T : Hp} (h : ∀ a u, S a = some u → T a = some u) : Mon S T := fun a u e => ⟨u, h a u e, rfl, fun _ => rfl⟩
theorem Mon.trans {S T U : Hp} (a : Mon S T) (b : Mon T U) : Mon S U := fun x u e => by
  obtain ⟨u1, e1, c1, n1⟩ := a x u e
  obtain ⟨u2, e2, c2, n2⟩ := b x u1 e1
  refine ⟨u2, e2, c1.trans c2, fun h => ?_⟩
  have h1 := n1 h
  subst h1
  exact n2 h
theorem Mon.get {S T : Hp} (m : Mon S T) {a : Addr} {u : HO} (e : S a = some u) (h : isDk (core u) = false) : T a = some u := by
  obtain ⟨u', e', _, n⟩ := m a u e
  rw [n h]
  exact e'
theorem Mon.lst {S T : Hp} (m : Mon S T) {a : Addr} {xs : List V} (e : S a = some (.lst xs)) : T a = some (.lst xs) := m.get e rfl
theorem Mon.tup {S T : Hp} (m : Mon S T) {a : Addr} {xs : List V} (e : S a = some (.tup xs)) : T a = some (.tup xs) := m.get e rfl
theorem Mon.ins {S T : Hp} (m : Mon S T) {a C dx : Addr} {fs : List (Str × V)} (e : S a = some (.ins C dx fs)) : T a = some (.ins C dx fs) := m.get e rfl
theorem Mon.free {S T : Hp} (m : Mon S T) {a : Addr} (e : T a = none) : S a = none := by
  cases h : S a with
  | none => rfl
  | some u =>
    obtain ⟨u', e', _⟩ := m a u h
    rw [e] at e'
    cases e'
theorem core_dk {o : Obj} {u : HO} (h : isDk u = true) : core (.frz o u) = u := by
  simp [core, h]
theorem core_of {u : HO} {ks : HO} (hk : isDk ks = true) (h : core u = ks) : u = ks ∨ ∃ o, u = .frz o ks := by
  cases u with
  | frz o w =>
    by_cases hw : isDk w = true
    · rw [core_dk hw] at h
      exact .inr ⟨o, by rw [h]⟩
    · exfalso
      have : core (.frz o w) = .frz o w := by simp [core, hw]
      rw [this] at h
      rw [← h] at hk
      cases hk
  | _ => exact .inl h
theorem core_self {ks : HO} (hk : isDk ks = true) : core ks = ks := by
  cases ks <;> first | rfl | cases hk
theorem Mon.rd {S T : Hp} (m : Mon S T) {a : Addr} {ks : HO} (hk : isDk ks = true) (r : Rd S a ks) : Rd T a ks := by
  have key : ∀ u, S a = some u → core u = ks → Rd T a ks := fun u e c => by
    obtain ⟨u', e', c', _⟩ := m a u e
    rcases core_of hk (c'.symm.trans c) with h | ⟨o, h⟩
    · exact .inl (by rw [e', h])
    · exact .inr ⟨o, by rw [e', h]⟩
  rcases r with r | ⟨o, r⟩
  · exact key _ r (core_self hk)
  · exact key _ r (core_dk hk)
theorem Mon.seqL {K : PySem.W.Frag} {S T : Hp} (m : Mon S T) {a : Addr} {xs : List V} (h : SqL K S a xs) : SqL K T a xs := by
  rcases h with (h | ⟨o, h⟩) | h
  · exact .inl (.inl (m.get h rfl))
  · exact .inl (.inr ⟨o, m.get h rfl⟩)
  · exact .inr h
theorem Mon.seqT {K : PySem.W.Frag} {S T : Hp} (m : Mon S T) {a : Addr} {xs : List V} (h : TupAt K S a xs) : TupAt K T a xs := m.tup h

section
variable {G : Gam} {S T : Hp}
mutual
theorem Dn.mono (m : Mon S T) : ∀ {v : V} {d : D}, Dn G S v d → Dn G T v d
  | _, _, .non => .non
  | _, _, .bl b => .bl b
  | _, _, .int i => .int i
  | _, _, .str x => .str x
  | _, _, .lst h hs => .lst (m.lst h) (Dns.mono m hs)
  | _, _, .tup h hs => .tup (m.seqT h) (Dns.mono m hs)
  | _, _, .dct h hs => .dct (m.rd rfl h) (Dks.mono m hs)
  | _, _, .dcT h hs => .dcT (m.rd rfl h) (Dts.mono m hs)
  | _, _, .scr h => .scr (m.seqL h)
  | _, _, .obj h hl hs => .obj (m.ins h) hl (Dns.mono m hs)
theorem Dns.mono (m : Mon S T) : ∀ {vs : List V} {ds : List D}, Dns G S vs ds → Dns G T vs ds
  | _, _, .nil => .nil
  | _, _, .cons h hs => .cons (Dn.mono m h) (Dns.mono m hs)
theorem Dks.mono (m : Mon S T) : ∀ {vs : List (Key × V)} {ds : List (Key × D)}, Dks G S vs ds → Dks G T vs ds
  | _, _, .nil => .nil
  | _, _, .cons h hs => .cons (Dn.mono m h) (Dks.mono m hs)
theorem Dts.mono (m : Mon S T) : ∀ {vs : List (List Key × V)} {ds : List (List Key × D)}, Dts G S vs ds → Dts G T vs ds
  | _, _, .nil => .nil
  | _, _, .cons h hs => .cons (Dn.mono m h) (Dts.mono m hs)
end

theorem Dns.len : ∀ {vs : List V} {ds : List D}, Dns G S vs ds → vs.length = ds.length
  | _, _, .nil => rfl
  | _, _, .cons _ h => congrArg (· + 1) (Dns.len h)
theorem Dns.get : ∀ {vs : List V} {ds : List D} {i : Nat} {d : D}, Dns G S vs ds → ds[i]? = some d → ∃ v, vs[i]? = some v ∧ Dn G S v d
  | _, _, _, _, .nil, e => by simp at e
  | _, _, 0, _, .cons h _, e => by
    simp at e
    subst e
    exact ⟨_, rfl, h⟩
  | _, _, i + 1, d, .cons _ hs, e => by
    obtain ⟨v, h1, h2⟩ := Dns.get (i := i) (d := d) hs (by simpa using e)
    exact ⟨v, by simpa using h1, h2⟩
theorem Dns.getV : ∀ {vs : List V} {ds : List D} {i : Nat} {v : V}, Dns G S vs ds → vs[i]? = some v → ∃ d, ds[i]? = some d ∧ Dn G S v d
  | _, _, _, _, .nil, e => by simp at e
  | _, _, 0, _, .cons h _, e => by
    simp at e
    subst e
    exact ⟨_, rfl, h⟩
  | _, _, i + 1, d, .cons _ hs, e => by
    obtain ⟨v, h1, h2⟩ := Dns.getV (i := i) (v := d) hs (by simpa using e)
    exact ⟨v, by simpa using h1, h2⟩
theorem Dns.append : ∀ {vs ws : List V} {ds es : List D}, Dns G S vs ds → Dns G S ws es → Dns G S (vs ++ ws) (ds ++ es)
  | _, _, _, _, .nil, h => h
  | _, _, _, _, .cons h hs, h2 => .cons h (Dns.append hs h2)
theorem Dns.take : ∀ {vs : List V} {ds : List D} (n : Nat), Dns G S vs ds → Dns G S (vs.take n) (ds.take n)
  | _, _, 0, _ => .nil
  | _, _, _ + 1, .nil => .nil
  | _, _, n + 1, .cons h hs => .cons h (Dns.take n hs)
theorem Dns.drop : ∀ {vs : List V} {ds : List D} (n : Nat), Dns G S vs ds → Dns G S (vs.drop n) (ds.drop n)
  | _, _, 0, h => h
  | _, _, _ + 1, .nil => .nil
  | _, _, n + 1, .cons _ hs => Dns.drop n hs
theorem Dns.one {v : V} {d : D} (h : Dn G S v d) : Dns G S [v] [d] := .cons h .nil
theorem Dns.rev : ∀ {vs : List V} {ds : List D}, Dns G S vs ds → Dns G S vs.reverse ds.reverse
  | _, _, .nil => .nil
  | _, _, .cons h hs => by
    rw [List.reverse_cons, List.reverse_cons]
    exact (Dns.rev hs).append (Dns.one h)
end

/-! ### effects, steps -/
/-- what may change besides what is new: the things at F, of which J holds -/
structure Eff where
  F : Addr → Prop
  J : Hp → Prop
  loc : ∀ H T, (∀ a, F a → T a = H a) → J H → J T
  dom : ∀ H, J H → ∀ a, F a → H a ≠ none
def eff0 : Eff := ⟨fun _ => False, fun _ => True, fun _ _ _ _ => trivial, fun _ _ _ h => h.elim⟩

/-- from the still heap S within H to S' within H' -/
structure Step (M : Eff) (S H S' H' : Hp) : Prop where
  mono : Mon S S'
  sub : Mon S' H'
  j : M.J H'
  keep : ∀ a u, ¬ M.F a → H a = some u → H' a = some u
  fresh : ∀ a u, S' a = some u → (∃ u', S a = some u') ∨ H a = none
  nof : ∀ a u, S' a = some u → ¬ M.F a
  there : ∀ a, H a ≠ none → H' a ≠ none
theorem Step.trans {M : Eff} {S H S1 H1 S2 H2 : Hp} (a : Step M S H S1 H1) (b : Step M S1 H1 S2 H2) : Step M S H S2 H2 where
  mono := a.mono.trans b.mono
  sub := b.sub
  j := b.j
  keep := fun x u n e => b.keep x u n (a.keep x u n e)
  fresh := fun x u e => by
    rcases b.fresh x u e with ⟨u', h⟩ | h
    · exact a.fresh x u' h
    · refine .inr ?_
      cases q : H x with
      | none => rfl
      | some z => exact absurd h (a.there x (by rw [q]; simp))
  nof := b.nof
  there := fun x e => b.there x (a.there x e)

/-- one slot of the data's environment -/
inductive EV where
  | no
  /-- still data -/
  | dat (d : D)
  /-- a list or dict of one's own, that nothing else knows -/
  | own (d : D)
  /-- a known value -/
  | fix (v : V)

/-- a list or dict at l that may change, what is in it still -/
def OwnAt (G : Gam) (S H : Hp) (l : Addr) : D → Prop
  | .lst ds => ∃ vs, H l = some (.lst vs) ∧ Dns G S vs ds
  | .dct ds => ∃ ks, H l = some (.dK ks) ∧ Dks G S ks ds
  | .dtt ds => ∃ ks, H l = some (.dT ks) ∧ Dts G S ks ds
  | _ => False
def EvOk (G : Gam) (M : Eff) (S H : Hp) (o : Option (Option V)) : EV → Prop
  | .no => True
  | .dat d => ∃ v, o = some (some v) ∧ Dn G S v d
  | .own d => ∃ l, o = some (some (.ref l)) ∧ S l = none ∧ ¬ M.F l ∧ OwnAt G S H l d
  | .fix v => o = some (some v)
abbrev Rho := List EV
structure Ok (G : Gam) (M : Eff) (ρ : Rho) (σ : L2.St) (S H : Hp) : Prop where
  len : σ.length = ρ.length
  ev : ∀ (i : Nat) x, ρ[i]? = some x → EvOk G M S H σ[i]? x
  dist : ∀ (i j : Nat) d e l, ρ[i]? = some (.own d) → ρ[j]? = some (.own e) → σ[i]? = some (some (.ref l)) → σ[j]? = some (some (.ref l)) → i = j
  sub : Mon S H
  j : M.J H
  nof : ∀ a u, S a = some u → ¬ M.F a
section
variable {G : Gam} {M : Eff} {ρ : Rho} {σ : L2.St} {S H S' H' : Hp}
theorem OwnAt.mono {l : Addr} {d : D} (m : Mon S S') (e : ∀ u, H l = some u → H' l = some u) (h : OwnAt G S H l d) : OwnAt G S' H' l d := by
  cases d with
  | lst ds =>
    obtain ⟨vs, h1, h2⟩ := h
    exact ⟨vs, e _ h1, h2.mono m⟩
  | dct ds =>
    obtain ⟨vs, h1, h2⟩ := h
    exact ⟨vs, e _ h1, h2.mono m⟩
  | dtt ds =>
    obtain ⟨vs, h1, h2⟩ := h
    exact ⟨vs, e _ h1, h2.mono m⟩
  | _ => exact h.elim
theorem OwnAt.there {l : Addr} {d : D} (h : OwnAt G S H l d) : H l ≠ none := by
  cases d with
  | lst ds =>
    obtain ⟨vs, h1, h2⟩ := h
    rw [h1]; simp
  | dct ds =>
    obtain ⟨vs, h1, h2⟩ := h
    rw [h1]; simp
  | dtt ds =>
    obtain ⟨vs, h1, h2⟩ := h
    rw [h1]; simp
  | _ => exact h.elim
theorem EvOk.step {o : Option (Option V)} {x : EV} (t : Step M S H S' H') (h : EvOk G M S H o x) : EvOk G M S' H' o x := by
  cases x with
  | no => trivial
  | dat d =>
    obtain ⟨v, e, h⟩ := h
    exact ⟨v, e, h.mono t.mono⟩
  | own d =>
    obtain ⟨l, e, n, f, h⟩ := h
    refine ⟨l, e, ?_, f, h.mono t.mono fun u q => t.keep l u f q⟩
    cases q : S' l with
    | none => rfl
    | some u =>
      rcases t.fresh l u q with ⟨u', z⟩ | z
      · rw [n] at z
        cases z
      · exact absurd z h.there
  | fix v => exact h
theorem Ok.step (o : Ok G M ρ σ S H) (t : Step M S H S' H') : Ok G M ρ σ S' H' :=
  ⟨o.len, fun i x e => (o.ev i x e).step t, o.dist, t.sub, t.j, t.nof⟩
theorem Ok.refl (o : Ok G M ρ σ S H) : Step M S H S H :=
  ⟨Mon.refl S, o.sub, o.j, fun _ _ _ e => e, fun a u e => .inl ⟨u, e⟩, o.nof, fun _ e => e⟩
/-- a new thing is laid, and is still from then on -/
theorem Ok.laid (o : Ok G M ρ σ S H) {p : Addr} (hp : H p = none) (u : HO) : Step M S H (upd S p u) (upd H p u) := by
  have sp : S p = none := o.sub.free hp
  have nf : ¬ M.F p := fun f => M.dom H o.j p f hp
  have ne : ∀ a, M.F a → a ≠ p := fun a f e => nf (e ▸ f)
  refine ⟨Mon.of fun a w e => ?_, fun a w e => ?_, M.loc H _ (fun a f => upd_ne (ne a f)) o.j, fun a w _ e => ?_, fun a w e => ?_, fun a w e => ?_, fun a e => ?_⟩
  · rw [upd_ne (ne_of_none e sp)]
    exact e
  · by_cases q : a = p
    · subst q
      rw [upd_same] at e ⊢
      exact ⟨w, e, rfl, fun _ => rfl⟩
    · rw [upd_ne q] at e ⊢
      exact o.sub a w e
  · rw [upd_ne (ne_of_none e hp)]
    exact e
  · by_cases q : a = p
    · subst q
      exact .inr hp
    · rw [upd_ne q] at e
      exact .inl ⟨w, e⟩
  · by_cases q : a = p
    · subst q
      exact nf
    · rw [upd_ne q] at e
      exact o.nof a w e
  · by_cases q : a = p
    · subst q
      rw [upd_same]
      simp
    · rw [upd_ne q]
      exact e
/-- a new thing is laid that may change -/
theorem Ok.laidO (o : Ok G M ρ σ S H) {p : Addr} (hp : H p = none) (u : HO) : Step M S H S (upd H p u) := by
  have sp : S p = none := o.sub.free hp
  have nf : ¬ M.F p := fun f => M.dom H o.j p f hp
  have ne : ∀ a, M.F a → a ≠ p := fun a f e => nf (e ▸ f)
  refine ⟨Mon.refl S, fun a w e => ?_, M.loc H _ (fun a f => upd_ne (ne a f)) o.j, fun a w _ e => ?_, fun a w e => .inl ⟨w, e⟩, o.nof, fun a e => ?_⟩
  · have q : a ≠ p := ne_of_none e sp
    rw [upd_ne q]
    exact o.sub a w e
  · rw [upd_ne (ne_of_none e hp)]
    exact e
  · by_cases q : a = p
    · subst q
      rw [upd_same]
      simp
    · rw [upd_ne q]
      exact e
end
end HB
namespace HB
open PySem L2

abbrev WE := Eff → Rho → (D → Prop) → Prop
abbrev WT := Eff → Rho → (Bool → Prop) → Prop
abbrev WA := Eff → Rho → (List D → Prop) → Prop
/-- what is wanted behind a statement, of the data -/
structure NE where
  nx : Rho → Prop
  rt : D → Prop
  bk : Rho → Prop := fun _ => False
  ct : Rho → Prop := fun _ => False
abbrev WS := Eff → NE → Rho → Prop

/-- still, or one of our own -/
def Cur (G : Gam) (ρ : Rho) (σ : L2.St) (S : Hp) (v : V) (d : D) : Prop := Dn G S v d ∨ ∃ i : Nat, ρ[i]? = some (.own d) ∧ σ[i]? = some (some v)
section
variable {G : Gam} {M : Eff} {ρ : Rho} {σ : L2.St} {S H S' H' : Hp} {v : V}
theorem Cur.step {d : D} (c : Cur G ρ σ S v d) (t : Step M S H S' H') : Cur G ρ σ S' v d := c.elim (fun h => .inl (h.mono t.mono)) .inr
theorem Cur.lst {ds : List D} (o : Ok G M ρ σ S H) (c : Cur G ρ σ S v (.lst ds)) : ∃ a vs, v = .ref a ∧ H a = some (.lst vs) ∧ Dns G S vs ds := by
  rcases c with h | ⟨i, h1, h2⟩
  · cases h with
    | lst h hs => exact ⟨_, _, rfl, o.sub.lst h, hs⟩
  · obtain ⟨l, e, _, _, vs, hv, hs⟩ := o.ev i _ h1
    rw [h2] at e
    cases e
    exact ⟨l, vs, rfl, hv, hs⟩
theorem Cur.tup {ds : List D} (o : Ok G M ρ σ S H) (c : Cur G ρ σ S v (.tup ds)) : ∃ a vs, v = .ref a ∧ TupAt G.K H a vs ∧ Dns G S vs ds := by
  rcases c with h | ⟨i, h1, h2⟩
  · cases h with
    | tup h hs => exact ⟨_, _, rfl, o.sub.seqT h, hs⟩
  · obtain ⟨l, e, _, _, h⟩ := o.ev i _ h1
    exact h.elim
theorem Cur.dct {ds : List (Key × D)} (o : Ok G M ρ σ S H) (c : Cur G ρ σ S v (.dct ds)) : ∃ a, v = .ref a ∧ ∃ ks, Rd H a (.dK ks) ∧ Dks G S ks ds := by
  rcases c with h | ⟨i, h1, h2⟩
  · cases h with
    | dct h hs => exact ⟨_, rfl, _, o.sub.rd rfl h, hs⟩
  · obtain ⟨l, e, _, _, ks, h, hs⟩ := o.ev i _ h1
    rw [h2] at e
    cases e
    exact ⟨l, rfl, ks, .inl h, hs⟩
theorem Cur.dtt {ds : List (List Key × D)} (o : Ok G M ρ σ S H) (c : Cur G ρ σ S v (.dtt ds)) : ∃ a, v = .ref a ∧ ∃ ks, Rd H a (.dT ks) ∧ Dts G S ks ds := by
  rcases c with h | ⟨i, h1, h2⟩
  · cases h with
    | dcT h hs => exact ⟨_, rfl, _, o.sub.rd rfl h, hs⟩
  · obtain ⟨l, e, _, _, ks, h, hs⟩ := o.ev i _ h1
    rw [h2] at e
    cases e
    exact ⟨l, rfl, ks, .inl h, hs⟩
theorem Cur.int {i : Int} (o : Ok G M ρ σ S H) (c : Cur G ρ σ S v (.int i)) : v = .int i := by
  rcases c with h | ⟨i, h1, h2⟩
  · cases h
    rfl
  · obtain ⟨l, e, _, _, h⟩ := o.ev i _ h1
    exact h.elim
theorem Cur.bl {i : Bool} (o : Ok G M ρ σ S H) (c : Cur G ρ σ S v (.bl i)) : v = .bl i := by
  rcases c with h | ⟨i, h1, h2⟩
  · cases h
    rfl
  · obtain ⟨l, e, _, _, h⟩ := o.ev i _ h1
    exact h.elim
theorem Cur.str {i : Str} (o : Ok G M ρ σ S H) (c : Cur G ρ σ S v (.str i)) : v = .str i := by
  rcases c with h | ⟨i, h1, h2⟩
  · cases h
    rfl
  · obtain ⟨l, e, _, _, h⟩ := o.ev i _ h1
    exact h.elim
theorem Cur.scr {ns : List Int} (o : Ok G M ρ σ S H) (c : Cur G ρ σ S v (.scr ns)) : ∃ a, v = .ref a ∧ SqL G.K H a (ns.map V.int) := by
  rcases c with h | ⟨i, h1, h2⟩
  · cases h with
    | scr h => exact ⟨_, rfl, o.sub.seqL h⟩
  · obtain ⟨l, e, _, _, h⟩ := o.ev i _ h1
    exact h.elim
theorem Cur.non (o : Ok G M ρ σ S H) (c : Cur G ρ σ S v .non) : v = .non := by
  rcases c with h | ⟨i, h1, h2⟩
  · cases h
    rfl
  · obtain ⟨l, e, _, _, h⟩ := o.ev i _ h1
    exact h.elim
theorem Cur.obj {k : Nat} {ds : List D} (o : Ok G M ρ σ S H) (c : Cur G ρ σ S v (.obj k ds)) : ∃ a dx vs, v = .ref a ∧ H a = some (.ins (G.cls k) dx ((G.fld k).zip vs)) ∧ vs.length = (G.fld k).length ∧ Dns G S vs ds := by
  rcases c with h | ⟨i, h1, h2⟩
  · cases h with
    | obj h hl hs => exact ⟨_, _, _, rfl, o.sub.ins h, hl, hs⟩
  · obtain ⟨l, e, _, _, h⟩ := o.ev i _ h1
    exact h.elim
end

/-! ### what the readings mean for data -/
def SE (G : Gam) (t : TE) (W : WE) : Prop := ∀ (M : Eff) (ρ : Rho) (σ : L2.St) (S H : Hp) (R : D → Prop) (Q : VK), Ok G M ρ σ S H → W M ρ R →
  (∀ d v S' H', R d → Dn G S' v d → Step M S H S' H' → Q v H') → t σ H Q
def SC (G : Gam) (t : TE) (W : WE) : Prop := ∀ (M : Eff) (ρ : Rho) (σ : L2.St) (S H : Hp) (R : D → Prop) (Q : VK), Ok G M ρ σ S H → W M ρ R →
  (∀ d v S' H', R d → Cur G ρ σ S' v d → Step M S H S' H' → Q v H') → t σ H Q
/-- a new list or dict that nothing else knows -/
def SN (G : Gam) (t : TE) (W : WE) : Prop := ∀ (M : Eff) (ρ : Rho) (σ : L2.St) (S H : Hp) (R : D → Prop) (Q : VK), Ok G M ρ σ S H → W M ρ R →
  (∀ d l S' H', R d → H l = none → S' l = none → OwnAt G S' H' l d → Step M S H S' H' → Q (.ref l) H') → t σ H Q
def ST (G : Gam) (t : TT) (W : WT) : Prop := ∀ (M : Eff) (ρ : Rho) (σ : L2.St) (S H : Hp) (R : Bool → Prop) (Q : Bool → Hp → Prop), Ok G M ρ σ S H → W M ρ R →
  (∀ b S' H', R b → Step M S H S' H' → Q b H') → t σ H Q
def SA (G : Gam) (t : TA) (W : WA) : Prop := ∀ (M : Eff) (ρ : Rho) (σ : L2.St) (S H : Hp) (R : List D → Prop) (Q : List V → Hp → Prop), Ok G M ρ σ S H → W M ρ R →
  (∀ ds vs S' H', R ds → Dns G S' vs ds → Step M S H S' H' → Q vs H') → t σ H Q

/-- a statement's state: S0, H0 the entry's, Sb what is known to stay; own things are younger than H0 -/
structure Stt (G : Gam) (M : Eff) (S0 H0 Sb : Hp) (ρ : Rho) (σ : L2.St) (S H : Hp) : Prop where
  ok : Ok G M ρ σ S H
  st : Step M S0 H0 S H
  yg : ∀ (i : Nat) d l, ρ[i]? = some (.own d) → σ[i]? = some (some (.ref l)) → H0 l = none
  mo : Mon Sb S
/-- the data's end of a statement and the reading's -/
structure Link (G : Gam) (M : Eff) (S0 H0 Sb : Hp) (D : Ends) (N : NE) : Prop where
  nx : ∀ ρ σ S H, Stt G M S0 H0 Sb ρ σ S H → N.nx ρ → D.nx σ H
  rt : ∀ ρ σ S H v d, Stt G M S0 H0 Sb ρ σ S H → Cur G ρ σ S v d → N.rt d → D.rt v H
  bk : ∀ ρ σ S H, Stt G M S0 H0 Sb ρ σ S H → N.bk ρ → D.bk σ H
  ct : ∀ ρ σ S H, Stt G M S0 H0 Sb ρ σ S H → N.ct ρ → D.ct σ H
def SS (G : Gam) (t : TS) (W : WS) : Prop := ∀ (M : Eff) (S0 H0 Sb : Hp) (ρ : Rho) (σ : L2.St) (S H : Hp) (D : Ends) (N : NE), Stt G M S0 H0 Sb ρ σ S H → Link G M S0 H0 Sb D N → W M N ρ → t D σ H

structure DE (X : Cx) (G : Gam) (e : Expr) (t : TE) (W : WE) : Prop where
  pe : PE X e t
  se : SE G t W
structure DC (X : Cx) (G : Gam) (e : Expr) (t : TE) (W : WE) : Prop where
  pe : PE X e t
  sc : SC G t W
structure DN (X : Cx) (G : Gam) (e : Expr) (t : TE) (W : WE) : Prop where
  pe : PE X e t
  sn : SN G t W
structure DT (X : Cx) (G : Gam) (e : Expr) (t : TT) (W : WT) : Prop where
  pt : PT X e t
  st : ST G t W
structure DW (X : Cx) (G : Gam) (e : Expr) (t : TT) (W : WT) : Prop where
  pw : PW X e t
  st : ST G t W
structure DA (X : Cx) (G : Gam) (es : List Expr) (t : TA) (W : WA) : Prop where
  pa : PA X es t
  sa : SA G t W
structure DS (X : Cx) (G : Gam) (st : Stmt) (t : TS) (W : WS) : Prop where
  ps : PS X st t
  ss : SS G t W
structure DSs (X : Cx) (G : Gam) (st : List Stmt) (t : TS) (W : WS) : Prop where
  ps : PSs X st t
  ss : SS G t W
theorem SE.c {G : Gam} {t : TE} {W : WE} (h : SE G t W) : SC G t W := fun M ρ σ S H R Q o w k => h M ρ σ S H R Q o w fun d v S' H' r c => k d v S' H' r (.inl c)
theorem DE.c {X : Cx} {G : Gam} {e : Expr} {t : TE} {W : WE} (h : DE X G e t W) : DC X G e t W := ⟨h.pe, h.se.c⟩
/-- a new list is left as it is -/
theorem OwnAt.dn {G : Gam} {M : Eff} {S H S' H' : Hp} {l : Addr} {d : D} (hl : H l = none) (hs : S' l = none) (hf : ¬ M.F l) (o : OwnAt G S' H' l d) (t : Step M S H S' H') : ∃ T, Dn G T (.ref l) d ∧ Step M S H T H' := by
  have mk : ∀ u, H' l = some u → Mon S' (upd S' l u) ∧ Step M S H (upd S' l u) H' := fun u e => by
    have m : Mon S' (upd S' l u) := Mon.of fun a w z => by
      rw [upd_ne (ne_of_none z hs)]
      exact z
    refine ⟨m, t.mono.trans m, fun a w z => ?_, t.j, t.keep, fun a w z => ?_, fun a w z => ?_, t.there⟩
    · by_cases q : a = l
      · subst q
        rw [upd_same] at z
        cases z
        exact ⟨_, e, rfl, fun _ => rfl⟩
      · rw [upd_ne q] at z
        exact t.sub a w z
    · by_cases q : a = l
      · subst q
        exact .inr hl
      · rw [upd_ne q] at z
        exact t.fresh a w z
    · by_cases q : a = l
      · subst q
        exact hf
      · rw [upd_ne q] at z
        exact t.nof a w z
  cases d with
  | lst ds =>
    obtain ⟨vs, h1, h2⟩ := o
    obtain ⟨m, s⟩ := mk _ h1
    exact ⟨_, .lst upd_same (h2.mono m), s⟩
  | dct ds =>
    obtain ⟨vs, h1, h2⟩ := o
    obtain ⟨m, s⟩ := mk _ h1
    exact ⟨_, .dct (.inl upd_same) (h2.mono m), s⟩
  | dtt ds =>
    obtain ⟨vs, h1, h2⟩ := o
    obtain ⟨m, s⟩ := mk _ h1
    exact ⟨_, .dcT (.inl upd_same) (h2.mono m), s⟩
  | _ => exact o.elim
theorem SN.e {G : Gam} {t : TE} {W : WE} (h : SN G t W) : SE G t W := fun M ρ σ S H R Q o w k => h M ρ σ S H R Q o w fun d l S' H' r hl hs ow st => by
  have hf : ¬ M.F l := fun f => M.dom H o.j l f hl
  obtain ⟨T, dn, s⟩ := ow.dn hl hs hf st
  exact k d _ T H' r dn s
theorem DN.e {X : Cx} {G : Gam} {e : Expr} {t : TE} {W : WE} (h : DN X G e t W) : DE X G e t W := ⟨h.pe, h.sn.e⟩

/-! ### names, constants -/
def wNm (i : Nat) : WE := fun _ ρ R => match ρ[i]? with
  | some (.dat d) => R d
  | _ => False
def wOwn (i : Nat) : WE := fun _ ρ R => match ρ[i]? with
  | some (.own d) => R d
  | _ => False
def wC (d : D) : WE := fun _ _ R => R d
section
variable {X : Cx} {G : Gam}
theorem se_nm (i : Nat) : SE G (tVar i) (wNm i) := fun M ρ σ S H R Q o w k => by
  unfold wNm at w
  split at w
  · rename_i d e
    obtain ⟨v, hv, dn⟩ := o.ev i _ e
    exact ⟨v, hv, k d v S H w dn o.refl⟩
  · exact w.elim
theorem sc_own (i : Nat) : SC G (tVar i) (wOwn i) := fun M ρ σ S H R Q o w k => by
  unfold wOwn at w
  split at w
  · rename_i d e
    obtain ⟨l, hv, _⟩ := o.ev i _ e
    exact ⟨_, hv, k d _ S H w (.inr ⟨i, e, hv⟩) o.refl⟩
  · exact w.elim
theorem d_nm (i : Nat) {x : Str} {pos : Pos} (hN : X.N[i]? = some x := by rfl) (hv : Vis X.env.scope x := by first | exact Or.inl rfl | exact Or.inr (Or.inl rfl) | exact Or.inr (Or.inr rfl)) (hd : (x == ("__debug__" : Str)) = false := by decide)
    (hcd : (x == ("__classdict__" : Str)) = false := by decide) : DE X G (.Name x pos) (tVar i) (wNm i) := ⟨pe_var hN hv hd hcd, se_nm i⟩
theorem d_own (i : Nat) {x : Str} {pos : Pos} (hN : X.N[i]? = some x := by rfl) (hv : Vis X.env.scope x := by first | exact Or.inl rfl | exact Or.inr (Or.inl rfl) | exact Or.inr (Or.inr rfl)) (hd : (x == ("__debug__" : Str)) = false := by decide)
    (hcd : (x == ("__classdict__" : Str)) = false := by decide) : DC X G (.Name x pos) (tVar i) (wOwn i) := ⟨pe_var hN hv hd hcd, sc_own i⟩
theorem se_c {v : V} {d : D} (h : ∀ S, Dn G S v d) : SE G (tC v) (wC d) := fun M ρ σ S H R Q o w k => k d v S H w (h S) o.refl
theorem d_int {i : Int} {j pos} : DE X G (.Constant (.int i) j pos) (tC (.int i)) (wC (.int i)) := ⟨pe_int, se_c fun _ => .int i⟩
theorem d_bl {b : Bool} {j pos} : DE X G (.Constant (.bool b) j pos) (tC (.bl b)) (wC (.bl b)) := ⟨pe_bl, se_c fun _ => .bl b⟩
theorem d_non {j pos} : DE X G (.Constant .none j pos) (tC .non) (wC .non) := ⟨pe_non, se_c fun _ => .non⟩
theorem d_str {x : Str} {j pos} : DE X G (.Constant (.str x) j pos) (tC (.str x)) (wC (.str x)) := ⟨pe_str, se_c fun _ => .str x⟩
/-- a module's constant -/
theorem d_gl {x : Str} {v : V} {u : Value} {pos : Pos} {d : D} (hm : X.mg x = some u) (r : RelV v u) (h : ∀ S, Dn G S v d) (hg : Gl X x := by rfl) (hd : (x == ("__debug__" : Str)) = false := by decide) : DE X G (.Name x pos) (tC v) (wC d) := ⟨pe_glob hg hm r hd, se_c h⟩
end

/-! ### two operands -/
section
variable {X : Cx} {G : Gam} {a b c : Expr} {ta tb tc : TE} {wa wb wc : WE} {pos : Pos}
/-- a rule of two values, of the data -/
def RB (G : Gam) (r : R2) (WB : D → D → (D → Prop) → Prop) : Prop := ∀ (M : Eff) (ρ : Rho) (σ : L2.St) (S H : Hp) (R : D → Prop) (Q : VK) (x y : V) (d e : D), Ok G M ρ σ S H → Cur G ρ σ S x d → Cur G ρ σ S y e → WB d e R →
  (∀ f v S' H', R f → Dn G S' v f → Step M S H S' H' → Q v H') → r x y H Q
def wBin (WB : D → D → (D → Prop) → Prop) (wa wb : WE) : WE := fun M ρ R => wa M ρ fun d => wb M ρ fun e => WB d e R
theorem se_bin {r : R2} {WB : D → D → (D → Prop) → Prop} (hr : RB G r WB) (ha : SC G ta wa) (hb : SC G tb wb) : SE G (tOp r ta tb) (wBin WB wa wb) := fun M ρ σ S H R Q o w k =>
  ha M ρ σ S H _ _ o w fun d x S1 H1 w1 c1 t1 => hb M ρ σ S1 H1 _ _ (o.step t1) w1 fun e y S2 H2 w2 c2 t2 =>
    hr M ρ σ S2 H2 R Q x y d e ((o.step t1).step t2) (c1.step t2) c2 w2 fun f v S' H' rf df t3 => k f v S' H' rf df ((t1.trans t2).trans t3)
theorem d_bin {op : Operator} {r : R2} {WB : D → D → (D → Prop) → Prop} (ho : OpR X (binaryOp op) r) (hr : RB G r WB) (ha : DC X G a ta wa) (hb : DC X G b tb wb) : DE X G (.BinOp a op b pos) (tOp r ta tb) (wBin WB wa wb) :=
  ⟨pe_op ho ha.pe hb.pe, se_bin hr ha.sc hb.sc⟩
theorem RB.or {r r' : R2} {WB WB' : D → D → (D → Prop) → Prop} (h : RB G r WB) (h' : RB G r' WB') : RB G (fun x y H Q => r x y H Q ∨ r' x y H Q) (fun d e R => WB d e R ∨ WB' d e R) :=
  fun M ρ σ S H R Q x y d e o c1 c2 w k => w.elim (fun w => .inl (h M ρ σ S H R Q x y d e o c1 c2 w k)) fun w => .inr (h' M ρ σ S H R Q x y d e o c1 c2 w k)

/-- of two ints, of the whole -/
def intW (C : Int → Int → Prop) (g : Int → Int → D) (d e : D) (R : D → Prop) : Prop := match d, e with
  | .int i, .int j => C i j ∧ R (g i j)
  | _, _ => False
theorem rb_int {C : Int → Int → Prop} {g : Int → Int → V} {g' : Int → Int → D} (hg : ∀ i j S, Dn G S (g i j) (g' i j)) : RB G (rI C g) (intW C g') := fun M ρ σ S H R Q x y d e o c1 c2 w k => by
  unfold intW at w
  split at w
  · rename_i i j
    exact ⟨i, j, c1.int o, c2.int o, w.1, k _ _ S H w.2 (hg i j S) o.refl⟩
  · exact w.elim
theorem rb_int0 {g : Int → Int → V} {g' : Int → Int → D} (hg : ∀ i j S, Dn G S (g i j) (g' i j)) : RB G (rI0 g) (intW (fun _ _ => True) g') := fun M ρ σ S H R Q x y d e o c1 c2 w k => by
  unfold intW at w
  split at w
  · rename_i i j
    exact ⟨i, j, c1.int o, c2.int o, k _ _ S H w.2 (hg i j S) o.refl⟩
  · exact w.elim
/-- lengths below this fit everywhere -/
abbrev LIM : Nat := 1000000
theorem lim {n : Nat} (h : n ≤ LIM) : n ≤ sizeLine := Nat.le_trans h (by decide)
theorem lim1 {n : Nat} (h : n < LIM) : n < sizeLine := Nat.lt_of_lt_of_le h (by decide)
def addW (d e : D) (R : D → Prop) : Prop := match d, e with
  | .int i, .int j => R (.int (i + j))
  | .str x, .str y => x.length + y.length ≤ LIM ∧ R (.str (x ++ y))
  | .lst xs, .lst ys => xs.length + ys.length ≤ LIM ∧ R (.lst (xs ++ ys))
  | .tup xs, .tup ys => xs ≠ [] ∧ xs.length + ys.length ≤ LIM ∧ R (.tup (xs ++ ys))
  | _, _ => False
def rAddA (K : PySem.W.Frag) : R2 := fun x y H Q => (∃ i j, x = .int i ∧ y = .int j ∧ Q (.int (i + j)) H) ∨ (∃ i j, x = .str i ∧ y = .str j ∧ i.length + j.length ≤ sizeLine ∧ Q (.str (i ++ j)) H) ∨ rCat x y H Q ∨ rCatT K x y H Q
theorem op_addA : OpR X (binaryOp .Add) (rAddA X.K) := op_add.or (op_add_str.or (op_cat.or op_catT))
theorem rb_add : RB G (rAddA G.K) addW := fun M ρ σ S H R Q x y d e o c1 c2 w k => by
  unfold addW at w
  split at w
  · rename_i i j
    exact .inl ⟨i, j, c1.int o, c2.int o, k _ _ S H w (.int _) o.refl⟩
  · rename_i i j
    exact .inr (.inl ⟨i, j, c1.str o, c2.str o, lim w.1, k _ _ S H w.2 (.str _) o.refl⟩)
  · rename_i xs ys
    obtain ⟨l, vs, rfl, h1, q1⟩ := c1.lst o
    obtain ⟨l2, ws, rfl, h2, q2⟩ := c2.lst o
    refine .inr (.inr (.inl ⟨l, l2, vs, ws, rfl, rfl, h1, h2, ?_, fun p hp => ?_⟩))
    · rw [q1.len, q2.len]
      exact lim w.1
    · have st := o.laid hp (.lst (vs ++ ws))
      exact k _ _ _ _ w.2 (.lst upd_same ((q1.append q2).mono st.mono)) st
  · rename_i xs ys
    obtain ⟨l, vs, rfl, h1, q1⟩ := c1.tup o
    obtain ⟨l2, ws, rfl, h2, q2⟩ := c2.tup o
    refine .inr (.inr (.inr ⟨l, l2, vs, ws, rfl, rfl, h1.seqT, h2.seqT, fun e => ?_, ?_, fun e => ?_, fun e p hp => ?_⟩))
    · subst e
      cases q1
      exact w.1 rfl
    · rw [q1.len, q2.len]
      exact lim w.2.1
    · subst e
      cases q2
      rcases c1 with c1 | ⟨i, g1, g2⟩
      · exact k _ _ S H (by simpa using w.2.2) c1 o.refl
      · obtain ⟨_, _, _, _, z⟩ := o.ev i _ g1
        exact z.elim
    · have st := o.laid hp (.tup (vs ++ ws))
      exact k _ _ _ _ w.2.2 (.tup upd_same ((q1.append q2).mono st.mono)) st
  · exact w.elim
theorem d_add (hK : X.K = G.K) (ha : DC X G a ta wa) (hb : DC X G b tb wb) : DE X G (.BinOp a .Add b pos) (tOp (rAddA G.K) ta tb) (wBin addW wa wb) := d_bin (hK ▸ op_addA) rb_add ha hb
theorem d_sub (ha : DC X G a ta wa) (hb : DC X G b tb wb) : DE X G (.BinOp a .Sub b pos) (tOp (rI0 fun i j => .int (i - j)) ta tb) (wBin (intW (fun _ _ => True) fun i j => .int (i - j)) wa wb) := d_bin op_sub (rb_int0 fun _ _ _ => .int _) ha hb
theorem d_mul (ha : DC X G a ta wa) (hb : DC X G b tb wb) : DE X G (.BinOp a .Mult b pos) (tOp (rI CMul fun i j => .int (i * j)) ta tb) (wBin (intW CMul fun i j => .int (i * j)) wa wb) := d_bin op_mul (rb_int fun _ _ _ => .int _) ha hb
theorem d_fdiv (ha : DC X G a ta wa) (hb : DC X G b tb wb) : DE X G (.BinOp a .FloorDiv b pos) (tOp (rI CDivW fun i j => .int (i / j)) ta tb) (wBin (intW CDivW fun i j => .int (i / j)) wa wb) := d_bin op_fdivW (rb_int fun _ _ _ => .int _) ha hb
theorem d_mod (ha : DC X G a ta wa) (hb : DC X G b tb wb) : DE X G (.BinOp a .Mod b pos) (tOp (rI (fun _ j => 0 < j) fun i j => .int (i % j)) ta tb) (wBin (intW (fun _ j => 0 < j) fun i j => .int (i % j)) wa wb) := d_bin op_mod (rb_int fun _ _ _ => .int _) ha hb
theorem d_pow (ha : DC X G a ta wa) (hb : DC X G b tb wb) : DE X G (.BinOp a .Pow b pos) (tOp (rI CPow fun i j => .int (i ^ j.toNat)) ta tb) (wBin (intW CPow fun i j => .int (i ^ j.toNat)) wa wb) := d_bin op_pow (rb_int fun _ _ _ => .int _) ha hb
/-- a text again and again -/
def wNeg (wx : WE) : WE := fun M ρ R => wx M ρ fun d => match d with | .int i => R (.int (-i)) | _ => False
theorem d_neg {x : Expr} {tx : TE} {wx : WE} (ha : DC X G x tx wx) : DE X G (.UnaryOp .USub x pos) (tUn (rU fun i => .int (-i)) tx) (wNeg wx) :=
  ⟨pe_un un_neg ha.pe, fun M ρ σ S H R Q o w k => ha.sc M ρ σ S H _ _ o w fun d x S1 H1 w1 c1 t1 => by
    split at w1
    · rename_i i
      exact ⟨i, c1.int (o.step t1), k _ _ S1 H1 w1 (.int _) t1⟩
    · exact w1.elim⟩
end
end HB
namespace HB
open PySem L2

/-! ### data as the library's own -/
def keyP : Key → PyData
  | .inl i => .int i
  | .inr x => .str x
mutual
def D.py : D → PyData
  | .non => .none
  | .bl b => .bool b
  | .int i => .int i
  | .str x => .str x
  | .lst xs => .list (D.pys xs)
  | .tup xs => .tuple (D.pys xs)
  | .dct kvs => .dict (D.pyk kvs)
  | .dtt kvs => .dict (D.pyt kvs)
  | .obj _ _ => .dict []
  | .scr _ => .dict []
def D.pys : List D → List PyData
  | [] => []
  | d :: ds => d.py :: D.pys ds
def D.pyk : List (Key × D) → List (PyData × PyData)
  | [] => []
  | (k, v) :: r => (keyP k, v.py) :: D.pyk r
def D.pyt : List (List Key × D) → List (PyData × PyData)
  | [] => []
  | (k, v) :: r => (.tuple (k.map keyP), v.py) :: D.pyt r
end
theorem D.pys_map : ∀ ds : List D, D.pys ds = ds.map D.py
  | [] => by simp [D.pys]
  | d :: ds => by simp [D.pys, D.pys_map ds]
section
variable {G : Gam} {S T : Hp}
theorem TupAt.t {K : PySem.W.Frag} {a : Addr} {vs : List V} (h : TupAt K S a vs) : SqT K S a vs := h.seqT
mutual
theorem Dn.dp (m : Mon S T) : ∀ {v : V} {d : D}, Dn G S v d → d.py.canLay0 = true → Dp G.K T v d.py
  | _, _, .non, _ => by simp only [D.py]; exact .non
  | _, _, .bl b, _ => by simp only [D.py]; exact .bl b
  | _, _, .int i, _ => by simp only [D.py]; exact .int i
  | _, _, .str x, _ => by simp only [D.py]; exact .str x
  | _, _, .lst h hs, c => by
    simp only [D.py] at c ⊢
    exact .lst (SqL.of (m.lst h)) (Dns.dp m hs (by simpa [PyData.canLay0] using c))
  | _, _, .tup h hs, c => by
    simp only [D.py] at c ⊢
    exact .tup (m.seqT h).t (Dns.dp m hs (by simpa [PyData.canLay0] using c))
  | _, _, .dct h hs, c => by simp [D.py, PyData.canLay0] at c
  | _, _, .dcT h hs, c => by simp [D.py, PyData.canLay0] at c
  | _, _, .obj h hl hs, c => by simp [D.py, PyData.canLay0] at c
  | _, _, .scr h, c => by simp [D.py, PyData.canLay0] at c
theorem Dns.dp (m : Mon S T) : ∀ {vs : List V} {ds : List D}, Dns G S vs ds → PyData.canLayAll0 (D.pys ds) = true → DpAll G.K T vs (D.pys ds)
  | _, _, .nil, _ => by simp only [D.pys]; exact .nil
  | _, _, .cons h hs, c => by
    simp only [D.pys] at c ⊢
    have c' := c
    simp only [PyData.canLayAll0, Bool.and_eq_true] at c'
    exact .cons (Dn.dp m h c'.1) (Dns.dp m hs c'.2)
end
theorem Cur.dp {M : Eff} {ρ : Rho} {σ : L2.St} {H : Hp} {v : V} {d : D} (o : Ok G M ρ σ S H) (c : Cur G ρ σ S v d) (h : d.py.canLay0 = true) : Dp G.K H v d.py := by
  rcases c with c | ⟨i, h1, h2⟩
  · exact c.dp o.sub h
  · obtain ⟨l, e, _, _, ow⟩ := o.ev i _ h1
    rw [h2] at e
    cases e
    cases d with
    | lst ds =>
      obtain ⟨vs, hv, hs⟩ := ow
      simp only [D.py] at h ⊢
      exact .lst (SqL.of hv) (hs.dp o.sub (by simpa [PyData.canLay0] using h))
    | dct ds => simp [D.py, PyData.canLay0] at h
    | dtt ds => simp [D.py, PyData.canLay0] at h
    | _ => exact ow.elim
end
/-- of data without dicts and objects, not too deep -/
def D.ok (d : D) : Bool := SeqAt.shaped d.py
theorem D.ok.lay {d : D} (h : d.ok = true) : d.py.canLay0 = true := SeqAt.canLay_of_shaped h
def D.eqv (d e : D) : Bool := PyData.eqv d.py e.py

/-! ### comparisons -/
section
variable {X : Cx} {G : Gam} {a b c : Expr} {ta tb tc : TE} {wa wb wc : WE} {pos : Pos}
def eqW (d e : D) (R : D → Prop) : Prop := match d, e with
  | .str x, .str y => R (.bl (x == y))
  | d, e => (d.ok = true ∧ e.ok = true) ∧ R (.bl (d.eqv e))
def neW (d e : D) (R : D → Prop) : Prop := match d, e with
  | .str x, .str y => R (.bl (!(x == y)))
  | d, e => (d.ok = true ∧ e.ok = true) ∧ R (.bl (!d.eqv e))
def rEqA (K : PySem.W.Frag) : R2 := fun x y H Q => rEq x y H Q ∨ rEqD K x y H Q
def rNeA (K : PySem.W.Frag) : R2 := fun x y H Q => rNe x y H Q ∨ rNeD K x y H Q
theorem op_eqA (hu : X.A.units + 64 < cLine) : OpR X (compareOp .Eq) (rEqA X.K) := op_eq.or (op_eqD hu)
theorem op_neA (hu : X.A.units + 64 < cLine) : OpR X (compareOp .NotEq) (rNeA X.K) := op_ne.or (op_neD hu)
theorem dec_strB (x y : Str) : decide (V.str x = V.str y) = (x == y) := by
  rw [Bool.eq_iff_iff]
  simp
theorem rb_eq : RB G (rEqA G.K) eqW := fun M ρ σ S H R Q x y d e o c1 c2 w k => by
  unfold eqW at w
  split at w
  · rw [c1.str o, c2.str o]
    refine .inl ⟨rfl, ?_⟩
    rw [dec_strB]
    exact k _ _ S H w (.bl _) o.refl
  · exact .inr ⟨_, _, c1.dp o (D.ok.lay w.1.1), c2.dp o (D.ok.lay w.1.2), w.1.1, w.1.2, k _ _ S H w.2 (.bl _) o.refl⟩
theorem rb_ne : RB G (rNeA G.K) neW := fun M ρ σ S H R Q x y d e o c1 c2 w k => by
  unfold neW at w
  split at w
  · rw [c1.str o, c2.str o]
    refine .inl ⟨rfl, ?_⟩
    rw [dec_strB]
    exact k _ _ S H w (.bl _) o.refl
  · exact .inr ⟨_, _, c1.dp o (D.ok.lay w.1.1), c2.dp o (D.ok.lay w.1.2), w.1.1, w.1.2, k _ _ S H w.2 (.bl _) o.refl⟩
def strLt (x y : Str) : Bool := decide (x.cps.toList < y.cps.toList)
def strLe (x y : Str) : Bool := decide (x.cps.toList ≤ y.cps.toList)
def ordW (f : Int → Int → Bool) (g : Str → Str → Bool) (d e : D) (R : D → Prop) : Prop := match d, e with
  | .int i, .int j => R (.bl (f i j))
  | .str x, .str y => R (.bl (g x y))
  | _, _ => False
theorem rb_ord {f : Int → Int → Bool} {g : Str → Str → Bool} {r r' : R2} (hr : r = rI0 fun i j => .bl (f i j)) (hr' : r' = fun x y H Q => ∃ i j, x = .str i ∧ y = .str j ∧ Q (.bl (g i j)) H) :
    RB G (fun x y H Q => r x y H Q ∨ r' x y H Q) (ordW f g) := fun M ρ σ S H R Q x y d e o c1 c2 w k => by
  subst hr hr'
  unfold ordW at w
  split at w
  · rename_i i j
    exact .inl ⟨i, j, c1.int o, c2.int o, k _ _ S H w (.bl _) o.refl⟩
  · rename_i i j
    exact .inr ⟨i, j, c1.str o, c2.str o, k _ _ S H w (.bl _) o.refl⟩
  · exact w.elim
def rOrd (f : Int → Int → Bool) (g : Str → Str → Bool) : R2 := fun x y H Q => rI0 (fun i j => .bl (f i j)) x y H Q ∨ ∃ i j, x = .str i ∧ y = .str j ∧ Q (.bl (g i j)) H
theorem op_ltA : OpR X (compareOp .Lt) (rOrd (fun i j => decide (i < j)) fun x y => decide (x.cps.toList < y.cps.toList)) := op_lt.or op_lt_str
theorem op_leA : OpR X (compareOp .LtE) (rOrd (fun i j => decide (i ≤ j)) fun x y => !decide (y.cps.toList < x.cps.toList)) := op_le.or op_le_str
theorem op_gtA : OpR X (compareOp .Gt) (rOrd (fun i j => decide (j < i)) fun x y => decide (y.cps.toList < x.cps.toList)) := op_gt.or op_gt_str
theorem op_geA : OpR X (compareOp .GtE) (rOrd (fun i j => decide (j ≤ i)) fun x y => !decide (x.cps.toList < y.cps.toList)) := op_ge.or op_ge_str
theorem rb_rOrd {f : Int → Int → Bool} {g : Str → Str → Bool} : RB G (rOrd f g) (ordW f g) := rb_ord rfl rfl

/-! ### in -/
def look {κ : Type} [DecidableEq κ] (ds : List (κ × D)) (k : κ) : Option D := (ds.find? fun p => decide (p.1 = k)).map (·.2)
theorem Dks.look {S : Hp} {k : Key} : ∀ {ks : List (Key × V)} {ds : List (Key × D)}, Dks G S ks ds → (valV ks k = none ∧ HB.look ds k = none) ∨ ∃ v d, valV ks k = some v ∧ HB.look ds k = some d ∧ Dn G S v d
  | _, _, .nil => .inl ⟨rfl, rfl⟩
  | _, _, .cons (k := k') (v := v) (d := d) h hs => by
    by_cases e : k' = k
    · exact .inr ⟨v, d, by simp [valV, e], by simp [HB.look, e], h⟩
    · rcases Dks.look (k := k) hs with ⟨h1, h2⟩ | ⟨v', d', h1, h2, h3⟩
      · exact .inl ⟨by simpa [valV, e] using h1, by simpa [HB.look, e] using h2⟩
      · exact .inr ⟨v', d', by simpa [valV, e] using h1, by simpa [HB.look, e] using h2, h3⟩
theorem Dts.look {S : Hp} {k : List Key} : ∀ {ks : List (List Key × V)} {ds : List (List Key × D)}, Dts G S ks ds → (valV ks k = none ∧ HB.look ds k = none) ∨ ∃ v d, valV ks k = some v ∧ HB.look ds k = some d ∧ Dn G S v d
  | _, _, .nil => .inl ⟨rfl, rfl⟩
  | _, _, .cons (k := k') (v := v) (d := d) h hs => by
    by_cases e : k' = k
    · exact .inr ⟨v, d, by simp [valV, e], by simp [HB.look, e], h⟩
    · rcases Dts.look (k := k) hs with ⟨h1, h2⟩ | ⟨v', d', h1, h2, h3⟩
      · exact .inl ⟨by simpa [valV, e] using h1, by simpa [HB.look, e] using h2⟩
      · exact .inr ⟨v', d', by simpa [valV, e] using h1, by simpa [HB.look, e] using h2, h3⟩
/-- data as keys -/
def keysOf : List D → Option (List Key)
  | [] => some []
  | .int i :: r => (keysOf r).map (.inl i :: ·)
  | .str x :: r => (keysOf r).map (.inr x :: ·)
  | _ :: _ => none
theorem keysOf_dn {S : Hp} : ∀ {ds : List D} {vs : List V} {ks : List Key}, keysOf ds = some ks → Dns G S vs ds → vs = ks.map kV
  | [], _, ks, e, .nil => by simp [keysOf] at e; subst e; rfl
  | .int i :: r, _, ks, e, .cons h hs => by
    simp only [keysOf, Option.map_eq_some_iff] at e
    obtain ⟨ks', e1, rfl⟩ := e
    cases h
    rw [keysOf_dn e1 hs]
    rfl
  | .str i :: r, _, ks, e, .cons h hs => by
    simp only [keysOf, Option.map_eq_some_iff] at e
    obtain ⟨ks', e1, rfl⟩ := e
    cases h
    rw [keysOf_dn e1 hs]
    rfl
def isSign (x : Str) (f : Nat → Prop) : Prop := match x.cps.toList with
  | [c] => f c
  | _ => False
theorem isSign_of {x : Str} {f : Nat → Prop} (h : isSign x f) : ∃ c, x = ⟨#[c]⟩ ∧ f c := by
  unfold isSign at h
  split at h
  · rename_i c e
    exact ⟨c, by cases x; simp only at e; congr; exact Array.ext' e, h⟩
  · exact h.elim
def inL (ds : List D) (d : D) : Bool := ds.any fun z => z.eqv d
def D.flat : D → Bool
  | .non => true
  | .bl _ => true
  | .int _ => true
  | .str _ => true
  | _ => false
/-- x in y: a sign in a text, an item in a list (any data) or tuple (flat data), a key in a dict -/
def inW (ng : Bool) (d e : D) (R : D → Prop) : Prop := match d, e with
  | .str x, .str y => isSign x fun c => R (.bl (if ng = true then !decide (c ∈ y.cps.toList) else decide (c ∈ y.cps.toList)))
  | d, .lst ds => (d.ok = true ∧ (D.lst ds).ok = true) ∧ R (.bl (if ng = true then !inL ds d else inL ds d))
  | d, .tup ds => (d.flat = true ∧ ds.all D.flat = true) ∧ R (.bl (if ng = true then !inL ds d else inL ds d))
  | .int i, .dct ds => R (.bl (if ng = true then !(look ds (.inl i)).isSome else (look ds (.inl i)).isSome))
  | .str i, .dct ds => R (.bl (if ng = true then !(look ds (.inr i)).isSome else (look ds (.inr i)).isSome))
  | .tup ts, .dtt ds => ∃ ks, keysOf ts = some ks ∧ R (.bl (if ng = true then !(look ds ks).isSome else (look ds ks).isSome))
  | _, _ => False
def rInA (K : PySem.W.Frag) (ng : Bool) : R2 := fun x y H Q =>
  (∃ (c : Nat) (z : Str), x = .str ⟨#[c]⟩ ∧ y = .str z ∧ Q (.bl (if ng = true then !decide (c ∈ z.cps.toList) else decide (c ∈ z.cps.toList))) H) ∨
  (∃ d ds, Dp K H x d ∧ Dp K H y (.list ds) ∧ SeqAt.shaped d = true ∧ SeqAt.shaped (.list ds) = true ∧ Q (.bl (if ng = true then !ds.any (fun z => PyData.eqv z d) else ds.any fun z => PyData.eqv z d)) H) ∨
  rIn K ng x y H Q ∨ (∃ a o, y = .ref a ∧ DGet H a x o ∧ Q (.bl (if ng = true then !o.isSome else o.isSome)) H)
theorem op_inA (hu : X.A.units + 65 < cLine) : OpR X (compareOp .In) (rInA X.K false) := by
  refine op_in_sign.or ((op_inD hu).or (op_in_seq.or ?_))
  intro pins s σ H x y v u Q I rx ry h
  obtain ⟨a, o, rfl, g, q⟩ := h
  cases ry
  exact d_in (by omega) I g rx fun s' I' => ⟨.bl o.isSome, H, I', rfl, q⟩
theorem op_notInA (hu : X.A.units + 65 < cLine) : OpR X (compareOp .NotIn) (rInA X.K true) := by
  refine op_notIn_sign.or ((op_notInD hu).or (op_notIn_seq.or ?_))
  intro pins s σ H x y v u Q I rx ry h
  obtain ⟨a, o, rfl, g, q⟩ := h
  cases ry
  exact d_notIn (by omega) I g rx fun s' I' => ⟨.bl (!o.isSome), H, I', rfl, q⟩
theorem flatV_of {S : Hp} {v : V} {d : D} (h : Dn G S v d) (f : d.flat = true) : flatV v = true := by
  cases h <;> first | rfl | cases f
theorem eqV_of {S : Hp} {v w : V} {d e : D} (h : Dn G S v d) (k : Dn G S w e) (f : d.flat = true) (g : e.flat = true) : eqV v w = d.eqv e := by
  cases h <;> (try cases f) <;> cases k <;> (try cases g) <;> simp [eqV, D.eqv, D.py, PyData.eqv]
theorem Dns.flat {S : Hp} : ∀ {vs : List V} {ds : List D}, Dns G S vs ds → ds.all D.flat = true → vs.all flatV = true
  | _, _, .nil, _ => rfl
  | _, _, .cons h hs, f => by
    rw [List.all_cons, Bool.and_eq_true] at f ⊢
    exact ⟨flatV_of h f.1, Dns.flat hs f.2⟩
theorem inV_of {S : Hp} {v : V} {d : D} (h : Dn G S v d) (f : d.flat = true) : ∀ {vs : List V} {ds : List D}, Dns G S vs ds → ds.all D.flat = true → inV v vs = inL ds d
  | _, _, .nil, _ => rfl
  | _, _, .cons k ks, g => by
    rw [List.all_cons, Bool.and_eq_true] at g
    have ih := inV_of h f ks g.2
    unfold inV inL at ih ⊢
    rw [List.any_cons, List.any_cons, ih, eqV_of k h g.1 f]
theorem Cur.dnf {M : Eff} {ρ : Rho} {σ : L2.St} {S H : Hp} {v : V} {d : D} (o : Ok G M ρ σ S H) (c : Cur G ρ σ S v d) (f : d.flat = true) : Dn G S v d := by
  rcases c with c | ⟨i, h1, h2⟩
  · exact c
  · obtain ⟨l, e, _, _, ow⟩ := o.ev i _ h1
    cases d <;> first | exact ow.elim | cases f
theorem inL_py (ds : List D) (d : D) : (D.pys ds).any (fun z => PyData.eqv z d.py) = inL ds d := by
  unfold inL
  rw [D.pys_map, List.any_map]
  rfl
theorem rb_in {ng : Bool} : RB G (rInA G.K ng) (inW ng) := fun M ρ σ S H R Q x y d e o c1 c2 w k => by
  unfold inW at w
  split at w
  · rename_i i j
    obtain ⟨c, rfl, w⟩ := isSign_of w
    exact .inl ⟨c, j, c1.str o, c2.str o, k _ _ S H w (.bl _) o.refl⟩
  · rename_i ds
    refine .inr (.inl ⟨d.py, D.pys ds, c1.dp o (D.ok.lay w.1.1), by simpa only [D.py] using c2.dp o (D.ok.lay w.1.2), w.1.1, by simpa only [D.ok, D.py] using w.1.2, ?_⟩)
    rw [inL_py]
    exact k _ _ S H w.2 (.bl _) o.refl
  · rename_i ds
    obtain ⟨a, vs, rfl, ha, hv⟩ := c2.tup o
    have hx := c1.dnf o w.1.1
    refine .inr (.inr (.inl ⟨a, vs, rfl, .inr ha.seqT, flatV_of hx w.1.1, hv.flat w.1.2, ?_⟩))
    rw [inV_of hx w.1.1 hv w.1.2]
    exact k _ _ S H w.2 (.bl _) o.refl
  · rename_i i ds
    obtain ⟨a, rfl, ks, h, hs⟩ := c2.dct o
    cases c1.int o
    refine .inr (.inr (.inr ⟨a, _, rfl, .inl ⟨ks, .inl i, h, rfl, rfl⟩, ?_⟩))
    rcases hs.look (k := Sum.inl i) with ⟨h1, h2⟩ | ⟨v, d, h1, h2, _⟩ <;> (rw [h1]; rw [h2] at w; exact k _ _ S H w (.bl _) o.refl)
  · rename_i i ds
    obtain ⟨a, rfl, ks, h, hs⟩ := c2.dct o
    cases c1.str o
    refine .inr (.inr (.inr ⟨a, _, rfl, .inl ⟨ks, .inr i, h, rfl, rfl⟩, ?_⟩))
    rcases hs.look (k := Sum.inr i) with ⟨h1, h2⟩ | ⟨v, d, h1, h2, _⟩ <;> (rw [h1]; rw [h2] at w; exact k _ _ S H w (.bl _) o.refl)
  · rename_i ts ds
    obtain ⟨ks, e, w⟩ := w
    obtain ⟨b, vs, rfl, hb, hv⟩ := c1.tup o
    obtain ⟨a, rfl, kk, h, hs⟩ := c2.dtt o
    have hb' : H b = some (.tup (ks.map kV)) := by rw [← keysOf_dn e hv]; exact hb
    refine .inr (.inr (.inr ⟨a, _, rfl, .inr ⟨kk, ks, b, h, rfl, hb', rfl⟩, ?_⟩))
    rcases hs.look (k := ks) with ⟨h1, h2⟩ | ⟨v, d, h1, h2, _⟩ <;> (rw [h1]; rw [h2] at w; exact k _ _ S H w (.bl _) o.refl)
  · exact w.elim
end
end HB
namespace HB
open PySem L2

/-! ### comparisons as values and tests -/
section
variable {X : Cx} {G : Gam} {a b c : Expr} {ta tb tc : TE} {wa wb wc : WE} {pos : Pos}
theorem d_cmp {op : CmpOp} {r : R2} {WB : D → D → (D → Prop) → Prop} (ho : OpR X (compareOp op) r) (hr : RB G r WB) (ha : DC X G a ta wa) (hb : DC X G b tb wb) (hm : behindInMarks op b = false) : DE X G (.Compare a [op] [b] pos) (tOp r ta tb) (wBin WB wa wb) :=
  ⟨pe_cmpR ho ha.pe hb.pe hm, se_bin hr ha.sc hb.sc⟩
def wTst (W : WE) : WT := fun M ρ R => W M ρ fun d => match d with
  | .bl b => R b
  | _ => False
theorem st_tst {t : TE} {W : WE} (h : SC G t W) : ST G (tTest t) (wTst W) := fun M ρ σ S H R Q o w k => h M ρ σ S H _ _ o w fun d v S' H' r c s => by
  split at r
  · rename_i b
    exact ⟨b, c.bl (o.step s), k b S' H' r s⟩
  · exact r.elim
theorem t_cmp {op : CmpOp} {r : R2} {WB : D → D → (D → Prop) → Prop} (ho : OpR X (compareOp op) r) (hr : RB G r WB) (ha : DC X G a ta wa) (hb : DC X G b tb wb) (hm : behindInMarks op b = false) : DT X G (.Compare a [op] [b] pos) (tTest (tOp r ta tb)) (wTst (wBin WB wa wb)) :=
  ⟨pt_cmpR ho ha.pe hb.pe hm, st_tst (se_bin hr ha.sc hb.sc).c⟩
/-- one under the other -/
def wChn (WB WB' : D → D → (D → Prop) → Prop) (wa wb wc : WE) : WE := fun M ρ R => wa M ρ fun d => wb M ρ fun e => WB d e fun z => match z with
  | .bl k => if k = true then wc M ρ fun f => WB' e f R else R (.bl false)
  | _ => False
theorem se_chn {r r' : R2} {WB WB' : D → D → (D → Prop) → Prop} (hr : RB G r WB) (hr' : RB G r' WB') (ha : SC G ta wa) (hb : SC G tb wb) (hc : SC G tc wc) : SE G (tChain r r' ta tb tc) (wChn WB WB' wa wb wc) := fun M ρ σ S H R Q o w k =>
  ha M ρ σ S H _ _ o w fun d x S1 H1 w1 c1 t1 => hb M ρ σ S1 H1 _ _ (o.step t1) w1 fun e y S2 H2 w2 c2 t2 =>
    hr M ρ σ S2 H2 _ _ x y d e ((o.step t1).step t2) (c1.step t2) c2 w2 fun f v S3 H3 rf df t3 => by
      have t123 := (t1.trans t2).trans t3
      split at rf
      · rename_i kk
        cases df
        refine ⟨kk, rfl, ?_⟩
        cases kk with
        | true =>
          rw [if_pos rfl] at rf ⊢
          exact hc M ρ σ S3 H3 _ _ (o.step t123) rf fun g z S4 H4 w4 c4 t4 => hr' M ρ σ S4 H4 R Q y z e g (o.step (t123.trans t4)) (c2.step (t3.trans t4)) c4 w4 fun f v S5 H5 rf df t5 => k f v S5 H5 rf df ((t123.trans t4).trans t5)
        | false =>
          rw [if_neg (by simp)] at rf ⊢
          exact k _ _ S3 H3 rf (.bl false) t123
      · exact rf.elim
theorem d_chn {op op' : CmpOp} {r r' : R2} {WB WB' : D → D → (D → Prop) → Prop} (ho : OpR X (compareOp op) r) (hr : RB G r WB) (ho' : OpR X (compareOp op') r') (hr' : RB G r' WB') (ha : DC X G a ta wa) (hb : DC X G b tb wb) (hc : DC X G c tc wc)
    (hm : lastMarks [op, op'] [b, c] = false := by with_unfolding_all rfl) : DE X G (.Compare a [op, op'] [b, c] pos) (tChain r r' ta tb tc) (wChn WB WB' wa wb wc) := ⟨pe_chain ho ho' ha.pe hb.pe hc.pe hm, se_chn hr hr' ha.sc hb.sc hc.sc⟩
theorem t_chn {op op' : CmpOp} {r r' : R2} {WB WB' : D → D → (D → Prop) → Prop} (ho : OpR X (compareOp op) r) (hr : RB G r WB) (ho' : OpR X (compareOp op') r') (hr' : RB G r' WB') (ha : DC X G a ta wa) (hb : DC X G b tb wb) (hc : DC X G c tc wc)
    (hm : lastMarks [op, op'] [b, c] = false := by with_unfolding_all rfl) : DT X G (.Compare a [op, op'] [b, c] pos) (tTest (tChain r r' ta tb tc)) (wTst (wChn WB WB' wa wb wc)) := ⟨pt_chain ho ho' ha.pe hb.pe hc.pe hm, st_tst (se_chn hr hr' ha.sc hb.sc hc.sc).c⟩
/-- is None -/
def D.isN : D → Bool
  | .non => true
  | _ => false
def isNW (ng : Bool) (d e : D) (R : D → Prop) : Prop := match e with
  | .non => R (.bl (if ng = true then !d.isN else d.isN))
  | _ => False
theorem Cur.isN {M : Eff} {ρ : Rho} {σ : L2.St} {S H : Hp} {v : V} {d : D} (o : Ok G M ρ σ S H) (c : Cur G ρ σ S v d) : decide (v = .non) = d.isN := by
  rcases c with c | ⟨i, h1, h2⟩
  · cases c <;> simp [D.isN]
  · obtain ⟨l, e, _, _, ow⟩ := o.ev i _ h1
    rw [h2] at e
    cases e
    cases d <;> first | exact ow.elim | simp [D.isN]
theorem rb_isN : RB G (fun x y H Q => y = .non ∧ Q (.bl (decide (x = .non))) H) (isNW false) := fun M ρ σ S H R Q x y d e o c1 c2 w k => by
  unfold isNW at w
  split at w
  · refine ⟨c2.non o, ?_⟩
    rw [c1.isN o]
    exact k _ _ S H w (.bl _) o.refl
  · exact w.elim
theorem rb_notN : RB G (fun x y H Q => y = .non ∧ Q (.bl (!decide (x = .non))) H) (isNW true) := fun M ρ σ S H R Q x y d e o c1 c2 w k => by
  unfold isNW at w
  split at w
  · refine ⟨c2.non o, ?_⟩
    rw [c1.isN o]
    exact k _ _ S H w (.bl _) o.refl
  · exact w.elim

/-! ### truth -/
def truW (d : D) (R : Bool → Prop) : Prop := match d with
  | .non => R false
  | .bl b => R b
  | .int i => R (i != 0)
  | .str x => x.length ≤ LIM ∧ R ((x.length : Int) != 0)
  | .lst ds => R (!ds.isEmpty)
  | .tup ds => R (!ds.isEmpty)
  | _ => False
theorem Dns.emp {S : Hp} {vs : List V} {ds : List D} (h : Dns G S vs ds) : vs.isEmpty = ds.isEmpty := by
  cases h <;> rfl
theorem Cur.tru {M : Eff} {ρ : Rho} {σ : L2.St} {S H : Hp} {v : V} {d : D} {R : Bool → Prop} (o : Ok G M ρ σ S H) (c : Cur G ρ σ S v d) (w : truW d R) : ∃ k, TruV G.K v H k ∧ R k := by
  unfold truW at w
  split at w
  · rw [c.non o]; exact ⟨_, rfl, w⟩
  · rw [c.bl o]; exact ⟨_, rfl, w⟩
  · rw [c.int o]; exact ⟨_, rfl, w⟩
  · rw [c.str o]; exact ⟨_, ⟨lim w.1, rfl⟩, w.2⟩
  · obtain ⟨a, vs, rfl, h, hs⟩ := c.lst o
    exact ⟨_, .inl ⟨vs, SqL.of h, rfl⟩, by rw [hs.emp]; exact w⟩
  · obtain ⟨a, vs, rfl, h, hs⟩ := c.tup o
    exact ⟨_, .inr (.inl ⟨vs, h.seqT, rfl⟩), by rw [hs.emp]; exact w⟩
  · exact w.elim
def wTru (W : WE) : WT := fun M ρ R => W M ρ fun d => truW d R
theorem t_tru (hK : X.K = G.K) (ha : DC X G a ta wa) (he : ∀ whole, isTrue a X.env whole = (do let v ← whole; standAt a.pos; holding [v] (truthy v)) := by intro _; rfl) : DT X G a (fun σ H Q => ta σ H fun x H' => ∃ k, TruV G.K x H' k ∧ Q k H') (wTru wa) :=
  ⟨hK ▸ pt_truth ha.pe he, fun M ρ σ S H R Q o w k => ha.sc M ρ σ S H _ _ o w fun d v S' H' r c s => by
    obtain ⟨kk, h, r⟩ := c.tru (o.step s) r
    exact ⟨kk, h, k kk S' H' r s⟩⟩
/-- a bool as a test -/
theorem t_val (ha : DC X G a ta wa) (he : ∀ whole, isTrue a X.env whole = (do let v ← whole; standAt a.pos; holding [v] (truthy v)) := by intro _; rfl) : DT X G a (tB ta) (wTst wa) := ⟨pt_val ha.pe he, fun M ρ σ S H R Q o w k => st_tst ha.sc M ρ σ S H R Q o w k⟩

/-! ### and, or, not, if -/
variable {p q : Expr} {tp tq : TT} {wp wq : WT} {rest : List Expr}
def wAnd (wp wq : WT) : WT := fun M ρ R => wp M ρ fun k => if k = true then wq M ρ R else R false
def wOr (wp wq : WT) : WT := fun M ρ R => wp M ρ fun k => if k = true then R true else wq M ρ R
def wNot (wp : WT) : WT := fun M ρ R => wp M ρ fun k => R (!k)
theorem st_and (hp : ST G tp wp) (hq : ST G tq wq) : ST G (tAnd tp tq) (wAnd wp wq) := fun M ρ σ S H R Q o w k => hp M ρ σ S H _ _ o w fun b S' H' r s => by
  cases b with
  | true =>
    rw [if_pos rfl] at r ⊢
    exact hq M ρ σ S' H' R Q (o.step s) r fun b2 S2 H2 r2 s2 => k b2 S2 H2 r2 (s.trans s2)
  | false =>
    rw [if_neg (by simp)] at r ⊢
    exact k _ S' H' r s
theorem st_or (hp : ST G tp wp) (hq : ST G tq wq) : ST G (tOr tp tq) (wOr wp wq) := fun M ρ σ S H R Q o w k => hp M ρ σ S H _ _ o w fun b S' H' r s => by
  cases b with
  | true =>
    rw [if_pos rfl] at r ⊢
    exact k _ S' H' r s
  | false =>
    rw [if_neg (by simp)] at r ⊢
    exact hq M ρ σ S' H' R Q (o.step s) r fun b2 S2 H2 r2 s2 => k b2 S2 H2 r2 (s.trans s2)
theorem w_and1 (h : DT X G p tp wp) : DW X G (.BoolOp .And [p] pos) tp wp := ⟨pw_and1 h.pt, h.st⟩
theorem w_or1 (h : DT X G p tp wp) : DW X G (.BoolOp .Or [p] pos) tp wp := ⟨pw_or1 h.pt, h.st⟩
theorem w_and (h : DT X G p tp wp) (h' : DW X G (.BoolOp .And (q :: rest) pos) tq wq) : DW X G (.BoolOp .And (p :: q :: rest) pos) (tAnd tp tq) (wAnd wp wq) := ⟨pw_and h.pt h'.pw, st_and h.st h'.st⟩
theorem w_or (h : DT X G p tp wp) (h' : DW X G (.BoolOp .Or (q :: rest) pos) tq wq) : DW X G (.BoolOp .Or (p :: q :: rest) pos) (tOr tp tq) (wOr wp wq) := ⟨pw_or h.pt h'.pw, st_or h.st h'.st⟩
theorem DW.t {e : Expr} (h : DW X G e tp wp) : DT X G e tp wp := ⟨h.pw.pt, h.st⟩
theorem t_not (h : DT X G p tp wp) : DT X G (.UnaryOp .Not p pos) (tNot tp) (wNot wp) := ⟨pt_not h.pt, fun M ρ σ S H R Q o w k => h.st M ρ σ S H _ _ o w fun b S' H' r s => k (!b) S' H' r s⟩
/-- as values, by truth -/
def wAndV (wa wb : WE) : WE := fun M ρ R => wa M ρ fun d => truW d fun k => if k = true then wb M ρ R else R d
def wOrV (wa wb : WE) : WE := fun M ρ R => wa M ρ fun d => truW d fun k => if k = true then R d else wb M ρ R
theorem d_one {op} (h : DE X G a ta wa) : DE X G (.BoolOp op [a] pos) ta wa := ⟨pe_one h.pe, h.se⟩
theorem d_and (hK : X.K = G.K) (ha : DE X G a ta wa) (hb : DE X G (.BoolOp .And (b :: rest) pos) tb wb) : DE X G (.BoolOp .And (a :: b :: rest) pos) (tAndT G.K ta tb) (wAndV wa wb) :=
  ⟨hK ▸ pe_andT ha.pe hb.pe, fun M ρ σ S H R Q o w k => ha.se M ρ σ S H _ _ o w fun d v S' H' r c s => by
    obtain ⟨kk, h, r⟩ := Cur.tru (o.step s) (.inl c) r
    refine ⟨kk, h, ?_⟩
    cases kk with
    | true =>
      rw [if_pos rfl] at r ⊢
      exact hb.se M ρ σ S' H' R Q (o.step s) r fun d2 v2 S2 H2 r2 c2 s2 => k d2 v2 S2 H2 r2 c2 (s.trans s2)
    | false =>
      rw [if_neg (by simp)] at r ⊢
      exact k _ _ S' H' r c s⟩
theorem d_or (hK : X.K = G.K) (ha : DE X G a ta wa) (hb : DE X G (.BoolOp .Or (b :: rest) pos) tb wb) : DE X G (.BoolOp .Or (a :: b :: rest) pos) (tOrT G.K ta tb) (wOrV wa wb) :=
  ⟨hK ▸ pe_orT ha.pe hb.pe, fun M ρ σ S H R Q o w k => ha.se M ρ σ S H _ _ o w fun d v S' H' r c s => by
    obtain ⟨kk, h, r⟩ := Cur.tru (o.step s) (.inl c) r
    refine ⟨kk, h, ?_⟩
    cases kk with
    | true =>
      rw [if_pos rfl] at r ⊢
      exact k _ _ S' H' r c s
    | false =>
      rw [if_neg (by simp)] at r ⊢
      exact hb.se M ρ σ S' H' R Q (o.step s) r fun d2 v2 S2 H2 r2 c2 s2 => k d2 v2 S2 H2 r2 c2 (s.trans s2)⟩
def wNotV (wa : WE) : WE := fun M ρ R => wa M ρ fun d => truW d fun k => R (.bl (!k))
theorem d_not (hK : X.K = G.K) (ha : DC X G a ta wa) : DE X G (.UnaryOp .Not a pos) (tNotT G.K ta) (wNotV wa) :=
  ⟨hK ▸ pe_notT ha.pe, fun M ρ σ S H R Q o w k => ha.sc M ρ σ S H _ _ o w fun d v S' H' r c s => by
    obtain ⟨kk, h, r⟩ := c.tru (o.step s) r
    exact ⟨kk, h, k _ _ S' H' r (.bl _) s⟩⟩
def wIf (wp : WT) (wa wb : WE) : WE := fun M ρ R => wp M ρ fun k => if k = true then wa M ρ R else wb M ρ R
theorem d_if (hp : DT X G p tp wp) (ha : DE X G a ta wa) (hb : DE X G b tb wb) : DE X G (.IfExp p a b pos) (tIf tp ta tb) (wIf wp wa wb) :=
  ⟨pe_ifExp hp.pt ha.pe hb.pe, fun M ρ σ S H R Q o w k => hp.st M ρ σ S H _ _ o w fun kk S' H' r s => by
    cases kk with
    | true =>
      rw [if_pos rfl] at r ⊢
      exact ha.se M ρ σ S' H' R Q (o.step s) r fun d2 v2 S2 H2 r2 c2 s2 => k d2 v2 S2 H2 r2 c2 (s.trans s2)
    | false =>
      rw [if_neg (by simp)] at r ⊢
      exact hb.se M ρ σ S' H' R Q (o.step s) r fun d2 v2 S2 H2 r2 c2 s2 => k d2 v2 S2 H2 r2 c2 (s.trans s2)⟩

/-! ### lists of parts, displays -/
variable {e : Expr} {es : List Expr} {te : TE} {we : WE} {t : TA} {W : WA}
def wNil : WA := fun _ _ R => R []
def wCons (we : WE) (W : WA) : WA := fun M ρ R => we M ρ fun d => W M ρ fun ds => R (d :: ds)
theorem a_nil : DA X G [] tNil wNil := ⟨pa_nil, fun M ρ σ S H R Q o w k => k [] [] S H w .nil o.refl⟩
theorem a_cons (he : DE X G e te we) (hr : DA X G es t W) (hs : starEach (e :: es) X.env = (false, eval e X.env) :: starEach es X.env := by rfl) : DA X G (e :: es) (tCons te t) (wCons we W) :=
  ⟨pa_cons he.pe hr.pa hs, fun M ρ σ S H R Q o w k => he.se M ρ σ S H _ _ o w fun d v S1 H1 r1 c1 s1 => hr.sa M ρ σ S1 H1 _ _ (o.step s1) r1 fun ds vs S2 H2 r2 c2 s2 =>
    k (d :: ds) (v :: vs) S2 H2 r2 (.cons (c1.mono s2.mono) c2) (s1.trans s2)⟩
def wTup (W : WA) : WE := fun M ρ R => W M ρ fun ds => ds.length ≤ LIM ∧ R (.tup ds)
def wLst (W : WA) : WE := fun M ρ R => W M ρ fun ds => ds.length ≤ LIM ∧ R (.lst ds)
theorem d_tup {x1} (h : DA X G es t W) : DE X G (.Tuple es x1 pos) (tTup t) (wTup W) :=
  ⟨pe_tup h.pa, fun M ρ σ S H R Q o w k => h.sa M ρ σ S H _ _ o w fun ds vs S1 H1 r c s => ⟨by rw [c.len]; exact lim r.1, fun p hp => by
    have st := (o.step s).laid hp (.tup vs)
    exact k _ _ _ _ r.2 (.tup upd_same (c.mono st.mono)) (s.trans st)⟩⟩
theorem d_lst (h : DA X G es t W) : DN X G (.List es pos) (tLst t) (wLst W) :=
  ⟨pe_lst h.pa, fun M ρ σ S H R Q o w k => h.sa M ρ σ S H _ _ o w fun ds vs S1 H1 r c s => ⟨by rw [c.len]; exact lim r.1, fun p hp => by
    have o1 := o.step s
    have st := o1.laidO hp (.lst vs)
    refine k _ _ _ _ r.2 ?_ (o1.sub.free hp) ⟨vs, upd_same, c⟩ (s.trans st)
    cases q : H p with
    | none => rfl
    | some u => exact absurd hp (s.there p (by rw [q]; simp))⟩⟩
/-- {} -/
theorem d_dnew : DN X G (.Dict [] [] pos) tDNewK (wC (.dct [])) := ⟨pe_dnewK, fun M ρ σ S H R Q o w k => fun p hp => k _ _ S _ w hp (o.sub.free hp) ⟨[], upd_same, .nil⟩ (o.laidO hp _)⟩
theorem d_tnew : DN X G (.Dict [] [] pos) tDNewT (wC (.dtt [])) := ⟨pe_dnewT, fun M ρ σ S H R Q o w k => fun p hp => k _ _ S _ w hp (o.sub.free hp) ⟨[], upd_same, .nil⟩ (o.laidO hp _)⟩

/-! ### items, slices -/
def ixW (d e : D) (R : D → Prop) : Prop := match d, e with
  | .lst ds, .int i => ∃ x, atI ds i = some x ∧ R x
  | .tup ds, .int i => ∃ x, atI ds i = some x ∧ R x
  | .str z, .int i => z.length ≤ LIM ∧ ∃ c, atI z.cps.toList i = some c ∧ R (.str ⟨#[c]⟩)
  | .dct ds, .int i => ∃ x, look ds (.inl i) = some x ∧ R x
  | .dct ds, .str i => ∃ x, look ds (.inr i) = some x ∧ R x
  | .dtt ds, .tup ts => ∃ ks x, keysOf ts = some ks ∧ look ds ks = some x ∧ R x
  | _, _ => False
def rIxA (K : PySem.W.Frag) : R2 := fun x y H Q => rIx K x y H Q ∨ ∃ a v, x = .ref a ∧ DGet H a y (some v) ∧ Q v H
theorem ix_any (hu : X.A.units + 1 < cLine) : IxR X (rIxA X.K) := by
  refine ix_seq.or ?_
  intro value slice pins s σ H x y v u Q I rx ry h hs
  obtain ⟨a, z, rfl, g, q⟩ := h
  cases rx
  exact PyProof.Rows.tail_any (dict_typeIs I g) PySem.F.slot_dict_getitem.lookup (d_getItem hu I g ry fun w' s' I' rw' => ⟨z, H, I', rw', q⟩) hs
theorem Dns.atI {S : Hp} {vs : List V} {ds : List D} {i : Int} {d : D} (h : Dns G S vs ds) (e : atI ds i = some d) : ∃ v, L2.atI vs i = some v ∧ Dn G S v d := by
  unfold L2.atI at e ⊢
  rw [h.len]
  cases q : ixN ds.length i with
  | none => rw [q] at e; cases e
  | some j =>
    rw [q] at e
    exact h.get e
theorem rb_ix : RB G (rIxA G.K) ixW := fun M ρ σ S H R Q x y d e o c1 c2 w k => by
  unfold ixW at w
  split at w
  · rename_i ds i
    obtain ⟨z, e, w⟩ := w
    obtain ⟨a, vs, rfl, h, hs⟩ := c1.lst o
    obtain ⟨v, e2, dn⟩ := hs.atI e
    exact .inl (.inl ⟨a, vs, i, v, rfl, c2.int o, SqL.of h, e2, k _ _ S H w dn o.refl⟩)
  · rename_i ds i
    obtain ⟨z, e, w⟩ := w
    obtain ⟨a, vs, rfl, h, hs⟩ := c1.tup o
    obtain ⟨v, e2, dn⟩ := hs.atI e
    exact .inl (.inr (.inl ⟨a, vs, i, v, rfl, c2.int o, h.seqT, e2, k _ _ S H w dn o.refl⟩))
  · rename_i z i
    obtain ⟨hl, c, e, w⟩ := w
    exact .inl (.inr (.inr ⟨z, i, c, c1.str o, c2.int o, lim hl, e, k _ _ S H w (.str _) o.refl⟩))
  · rename_i ds i
    obtain ⟨z, e, w⟩ := w
    obtain ⟨a, rfl, ks, h, hs⟩ := c1.dct o
    rcases hs.look (k := Sum.inl i) with ⟨_, h2⟩ | ⟨v, d', h1, h2, dn⟩
    · rw [e] at h2; cases h2
    · rw [e] at h2; cases h2
      exact .inr ⟨a, v, rfl, .inl ⟨ks, .inl i, h, c2.int o, h1.symm⟩, k _ _ S H w dn o.refl⟩
  · rename_i ds i
    obtain ⟨z, e, w⟩ := w
    obtain ⟨a, rfl, ks, h, hs⟩ := c1.dct o
    rcases hs.look (k := Sum.inr i) with ⟨_, h2⟩ | ⟨v, d', h1, h2, dn⟩
    · rw [e] at h2; cases h2
    · rw [e] at h2; cases h2
      exact .inr ⟨a, v, rfl, .inl ⟨ks, .inr i, h, c2.str o, h1.symm⟩, k _ _ S H w dn o.refl⟩
  · rename_i ds ts
    obtain ⟨kk, z, ek, e, w⟩ := w
    obtain ⟨a, rfl, ks, h, hs⟩ := c1.dtt o
    obtain ⟨b, vs, rfl, hb, hv⟩ := c2.tup o
    have hb' : H b = some (.tup (kk.map kV)) := by rw [← keysOf_dn ek hv]; exact hb
    rcases hs.look (k := kk) with ⟨_, h2⟩ | ⟨v, d', h1, h2, dn⟩
    · rw [e] at h2; cases h2
    · rw [e] at h2; cases h2
      exact .inr ⟨a, v, rfl, .inr ⟨ks, kk, b, h, rfl, hb', h1.symm⟩, k _ _ S H w dn o.refl⟩
  · exact w.elim
theorem d_ix (hK : X.K = G.K) (hu : X.A.units + 1 < cLine) (ha : DC X G a ta wa) (hb : DC X G b tb wb) (hs : PlainIx b := by intro _ _; rfl) : DE X G (.Subscript a b pos) (tOp (rIxA G.K) ta tb) (wBin ixW wa wb) := ⟨pe_ix (hK ▸ ix_any hu) ha.pe hb.pe hs, se_bin rb_ix ha.sc hb.sc⟩
end
end HB
namespace HB
open PySem L2

section
variable {X : Cx} {G : Gam} {a b c : Expr} {ta tb tc : TE} {wa wb wc : WE} {pos : Pos}
/-! ### slices -/
structure DP (X : Cx) (G : Gam) (e : Option Expr) (t : TO) (W : Eff → Rho → (Option Int → Prop) → Prop) : Prop where
  po : PO X e t
  so : ∀ (M : Eff) (ρ : Rho) (σ : L2.St) (S H : Hp) (R : Option Int → Prop) (Q : Option Int → Hp → Prop), Ok G M ρ σ S H → W M ρ R → (∀ i S' H', R i → Step M S H S' H' → Q i H') → t σ H Q
def wPn : Eff → Rho → (Option Int → Prop) → Prop := fun _ _ R => R none
def wPs (wa : WE) : Eff → Rho → (Option Int → Prop) → Prop := fun M ρ R => wa M ρ fun d => match d with | .int i => R (some i) | _ => False
theorem p_none : DP X G none tNoPart wPn := ⟨po_none, fun M ρ σ S H R Q o w k => k none S H w o.refl⟩
theorem p_some (h : DC X G a ta wa) : DP X G (some a) (tPart ta) (wPs wa) :=
  ⟨po_some h.pe, fun M ρ σ S H R Q o w k => h.sc M ρ σ S H _ _ o w fun d v S' H' r c s => by
    split at r
    · rename_i i
      exact ⟨i, c.int (o.step s), k _ S' H' r s⟩
    · exact r.elim⟩
def cut {α : Type} (xs : List α) (lo hi : Option Int) : List α := (xs.drop (HT.sIx xs.length 0 lo)).take (HT.sIx xs.length xs.length hi - HT.sIx xs.length 0 lo)
theorem Dns.cut {S : Hp} {vs : List V} {ds : List D} (h : Dns G S vs ds) (lo hi : Option Int) : Dns G S (cutV vs lo hi) (HB.cut ds lo hi) := by
  unfold cutV HB.cut
  rw [h.len]
  exact (h.drop _).take _
theorem dns_ints {S : Hp} : ∀ ns : List Int, Dns G S (ns.map V.int) (ns.map D.int)
  | [] => .nil
  | n :: ns => .cons (.int n) (dns_ints ns)
def slW (d : D) (lo hi : Option Int) (R : D → Prop) : Prop := match d with
  | .lst ds => R (.lst (cut ds lo hi))
  | .tup ds => R (.tup (cut ds lo hi))
  | .str z => z.length ≤ LIM ∧ R (.str (cutS z lo hi))
  | .scr ns => R (.lst (cut (ns.map .int) lo hi))
  | _ => False
def rSlD (K : PySem.W.Frag) : V → Option Int → Option Int → Hp → VK → Prop := fun x lo hi H Q => rSlL K x lo hi H Q ∨ rSlA K x lo hi H Q ∨ rSlS x lo hi H Q
theorem sl_any : SlR X (rSlD X.K) := sl_list.or (sl_tupA.or sl_str)
theorem cut_whole {α : Type} (xs : List α) (lo hi : Option Int) (h : HT.sIx xs.length 0 lo = 0 ∧ HT.sIx xs.length xs.length hi = xs.length) : cut xs lo hi = xs := by
  unfold cut
  rw [h.1, h.2, List.drop_zero, Nat.sub_zero, List.take_length]
def wSl (wa : WE) (W1 W2 : Eff → Rho → (Option Int → Prop) → Prop) : WE := fun M ρ R => wa M ρ fun d => W1 M ρ fun i => W2 M ρ fun j => slW d i j R
theorem d_slice {lo hi : Option Expr} {tl th : TO} {W1 W2 : Eff → Rho → (Option Int → Prop) → Prop} {p2 : Pos} (hK : X.K = G.K) (ha : DC X G a ta wa) (hl : DP X G lo tl W1) (hh : DP X G hi th W2) :
    DE X G (.Subscript a (.Slice lo hi none p2) pos) (tSl (rSlD G.K) ta tl th) (wSl wa W1 W2) :=
  ⟨hK ▸ pe_slice sl_any ha.pe hl.po hh.po, fun M ρ σ S H R Q o w k => ha.sc M ρ σ S H _ _ o w fun d v S1 H1 r1 c1 s1 => hl.so M ρ σ S1 H1 _ _ (o.step s1) r1 fun i S2 H2 r2 s2 => hh.so M ρ σ S2 H2 _ _ (o.step (s1.trans s2)) r2 fun j S3 H3 r3 s3 => by
    have s := (s1.trans s2).trans s3
    have o3 := o.step s
    have c3 := c1.step (s2.trans s3)
    unfold slW at r3
    split at r3
    · obtain ⟨a, vs, rfl, h, hs⟩ := c3.lst o3
      exact .inl ⟨a, vs, rfl, SqL.of h, fun p hp => k _ _ _ _ r3 (.lst upd_same ((hs.cut i j).mono (o3.laid hp _).mono)) (s.trans (o3.laid hp _))⟩
    · rename_i ds
      obtain ⟨a, vs, rfl, h, hs⟩ := c3.tup o3
      refine .inr (.inl ⟨a, vs, rfl, h.seqT, fun e => ?_, fun e p hp => k _ _ _ _ r3 (.tup upd_same ((hs.cut i j).mono (o3.laid hp _).mono)) (s.trans (o3.laid hp _))⟩)
      rw [hs.len] at e
      rw [cut_whole ds i j e] at r3
      rcases c3 with c3 | ⟨n, g1, g2⟩
      · exact k _ _ _ _ r3 c3 s
      · obtain ⟨_, _, _, _, z⟩ := o3.ev n _ g1
        exact z.elim
    · exact .inr (.inr ⟨_, c3.str o3, lim r3.1, k _ _ _ _ r3.2 (.str _) s⟩)
    · obtain ⟨a, rfl, h⟩ := c3.scr o3
      exact .inl ⟨a, _, rfl, h, fun p hp => k _ _ _ _ r3 (.lst upd_same (((dns_ints (S := S3) _).cut i j).mono (o3.laid hp _).mono)) (s.trans (o3.laid hp _))⟩
    · exact r3.elim⟩

/-! ### built-ins of one argument -/
def RC (G : Gam) (r : List V → Hp → VK → Prop) (WB : D → (D → Prop) → Prop) : Prop := ∀ (M : Eff) (ρ : Rho) (σ : L2.St) (S H : Hp) (R : D → Prop) (Q : VK) (x : V) (d : D), Ok G M ρ σ S H → Cur G ρ σ S x d → WB d R →
  (∀ f v S' H', R f → Dn G S' v f → Step M S H S' H' → Q v H') → r [x] H Q
/-- .. that give a new list -/
def RCN (G : Gam) (r : List V → Hp → VK → Prop) (WB : D → (D → Prop) → Prop) : Prop := ∀ (M : Eff) (ρ : Rho) (σ : L2.St) (S H : Hp) (R : D → Prop) (Q : VK) (x : V) (d : D), Ok G M ρ σ S H → Cur G ρ σ S x d → WB d R →
  (∀ f p vs, R (.lst f) → H p = none → Dns G S vs f → Q (.ref p) (upd H p (.lst vs))) → r [x] H Q
def wOne (WB : D → (D → Prop) → Prop) (wa : WE) : WE := fun M ρ R => wa M ρ fun d => WB d R
theorem se_b1 {r : List V → Hp → VK → Prop} {WB : D → (D → Prop) → Prop} (hr : RC G r WB) (ha : SC G ta wa) : SE G (tCB r (tCons ta tNil)) (wOne WB wa) := fun M ρ σ S H R Q o w k =>
  ha M ρ σ S H _ _ o w fun d v S1 H1 r1 c1 s1 => hr M ρ σ S1 H1 R Q v d (o.step s1) c1 r1 fun f v S2 H2 rf df s2 => k f v S2 H2 rf df (s1.trans s2)
theorem sn_b1 {r : List V → Hp → VK → Prop} {WB : D → (D → Prop) → Prop} (hr : RCN G r WB) (ha : SC G ta wa) (hl : ∀ d R, WB d R → WB d (fun e => R e ∧ ∃ ds, e = .lst ds)) : SN G (tCB r (tCons ta tNil)) (wOne WB wa) := fun M ρ σ S H R Q o w k =>
  ha M ρ σ S H _ _ o w fun d v S1 H1 r1 c1 s1 => hr M ρ σ S1 H1 R Q v d (o.step s1) c1 r1 fun f p vs rf hp dn => by
    have o1 := o.step s1
    refine k _ _ _ _ rf ?_ (o1.sub.free hp) ⟨vs, upd_same, dn⟩ (s1.trans (o1.laidO hp _))
    cases q : H p with
    | none => rfl
    | some u => exact absurd hp (s1.there p (by rw [q]; simp))
theorem d_b1 {x : Str} {id : String} {r : List V → Hp → VK → Prop} {WB : D → (D → Prop) → Prop} {p : Pos} (hc : CallR X (.builtin id) r) (hr : RC G r WB) (hm : X.mg x = none) (hv : bootBuiltins x = some (.builtin id)) (ha : DC X G a ta wa) (hg : Gl X x := by rfl) (hn : x ≠ "__name__" := by decide) (hdb : (x == ("__debug__" : Str)) = false := by decide)
    (hs : starEach [a] X.env = (false, eval a X.env) :: starEach [] X.env := by rfl) (hpl : (backTo pos (starEach [] X.env)).any (·.1) = false := by rfl) : DE X G (.Call (.Name x p) [a] [] pos) (tCB r (tCons ta tNil)) (wOne WB wa) :=
  ⟨pe_callB hc hg hm hv (pa_cons ha.pe pa_nil hs) hn hdb hs hpl, se_b1 hr ha.sc⟩
theorem d_b1n {x : Str} {id : String} {r : List V → Hp → VK → Prop} {WB : D → (D → Prop) → Prop} {p : Pos} (hc : CallR X (.builtin id) r) (hr : RCN G r WB) (hl : ∀ d R, WB d R → WB d (fun e => R e ∧ ∃ ds, e = .lst ds)) (hm : X.mg x = none) (hv : bootBuiltins x = some (.builtin id)) (ha : DC X G a ta wa) (hg : Gl X x := by rfl) (hn : x ≠ "__name__" := by decide) (hdb : (x == ("__debug__" : Str)) = false := by decide)
    (hs : starEach [a] X.env = (false, eval a X.env) :: starEach [] X.env := by rfl) (hpl : (backTo pos (starEach [] X.env)).any (·.1) = false := by rfl) : DN X G (.Call (.Name x p) [a] [] pos) (tCB r (tCons ta tNil)) (wOne WB wa) :=
  ⟨pe_callB hc hg hm hv (pa_cons ha.pe pa_nil hs) hn hdb hs hpl, sn_b1 hr ha.sc hl⟩
theorem d_t1 {x : Str} {T : String} {r : List V → Hp → VK → Prop} {WB : D → (D → Prop) → Prop} {p : Pos} (hc : CallR X (.type T) r) (hr : RC G r WB) (hm : X.mg x = none) (hv : bootBuiltins x = some (.type T)) (ha : DC X G a ta wa) (hg : Gl X x := by rfl) (hn : x ≠ "__name__" := by decide) (hdb : (x == ("__debug__" : Str)) = false := by decide)
    (hs : starEach [a] X.env = (false, eval a X.env) :: starEach [] X.env := by rfl) (hpl : (backTo pos (starEach [] X.env)).any (·.1) = false := by rfl) : DE X G (.Call (.Name x p) [a] [] pos) (tCB r (tCons ta tNil)) (wOne WB wa) :=
  ⟨pe_callTy hc hg hm hv (pa_cons ha.pe pa_nil hs) hn hdb hs hpl, se_b1 hr ha.sc⟩
theorem d_t1n {x : Str} {T : String} {r : List V → Hp → VK → Prop} {WB : D → (D → Prop) → Prop} {p : Pos} (hc : CallR X (.type T) r) (hr : RCN G r WB) (hl : ∀ d R, WB d R → WB d (fun e => R e ∧ ∃ ds, e = .lst ds)) (hm : X.mg x = none) (hv : bootBuiltins x = some (.type T)) (ha : DC X G a ta wa) (hg : Gl X x := by rfl) (hn : x ≠ "__name__" := by decide) (hdb : (x == ("__debug__" : Str)) = false := by decide)
    (hs : starEach [a] X.env = (false, eval a X.env) :: starEach [] X.env := by rfl) (hpl : (backTo pos (starEach [] X.env)).any (·.1) = false := by rfl) : DN X G (.Call (.Name x p) [a] [] pos) (tCB r (tCons ta tNil)) (wOne WB wa) :=
  ⟨pe_callTy hc hg hm hv (pa_cons ha.pe pa_nil hs) hn hdb hs hpl, sn_b1 hr ha.sc hl⟩

/-- len -/
def lenW (d : D) (R : D → Prop) : Prop := match d with
  | .str x => x.length ≤ LIM ∧ R (.int x.length)
  | .lst ds => R (.int ds.length)
  | .tup ds => R (.int ds.length)
  | .dct ds => R (.int ds.length)
  | .scr ns => R (.int ns.length)
  | _ => False
def rLen (K : PySem.W.Frag) : List V → Hp → VK → Prop := fun xs H Q => (∃ x n, xs = [x] ∧ LenV K x H n ∧ Q (.int n) H) ∨ ∃ a kvs, xs = [.ref a] ∧ Rd H a (.dK kvs) ∧ Q (.int kvs.length) H
theorem call_lenR : CallR X (.builtin "len") (fun xs H Q => ∃ a kvs, xs = [.ref a] ∧ Rd H a (.dK kvs) ∧ Q (.int kvs.length) H) := by
  intro pins s σ H xs us Q I r h
  obtain ⟨a, kvs, rfl, ha, q⟩ := h
  obtain ⟨u, rfl, ru⟩ := vals1 r
  cases ru
  exact d_len I ha fun t s' I' => ⟨.int kvs.length, H, I', ⟨t, rfl⟩, q⟩
theorem call_lenA : CallR X (.builtin "len") (rLen X.K) := call_len.or call_lenR
theorem Dks.len {S : Hp} : ∀ {ks : List (Key × V)} {ds : List (Key × D)}, Dks G S ks ds → ks.length = ds.length
  | _, _, .nil => rfl
  | _, _, .cons _ h => congrArg (· + 1) (Dks.len h)
theorem rc_len : RC G (rLen G.K) lenW := fun M ρ σ S H R Q x d o c w k => by
  unfold lenW at w
  split at w
  · rename_i z
    cases c.str o
    exact .inl ⟨_, _, rfl, ⟨lim w.1, rfl⟩, k _ _ _ _ w.2 (.int _) o.refl⟩
  · obtain ⟨a, vs, rfl, h, hs⟩ := c.lst o
    exact .inl ⟨_, _, rfl, .inl ⟨vs, SqL.of h, rfl⟩, by rw [hs.len]; exact k _ _ _ _ w (.int _) o.refl⟩
  · obtain ⟨a, vs, rfl, h, hs⟩ := c.tup o
    exact .inl ⟨_, _, rfl, .inr ⟨vs, h.seqT, rfl⟩, by rw [hs.len]; exact k _ _ _ _ w (.int _) o.refl⟩
  · obtain ⟨a, rfl, ks, h, hs⟩ := c.dct o
    exact .inr ⟨a, ks, rfl, h, by rw [hs.len]; exact k _ _ _ _ w (.int _) o.refl⟩
  · obtain ⟨a, rfl, h⟩ := c.scr o
    exact .inl ⟨_, _, rfl, .inl ⟨_, h, rfl⟩, by rw [List.length_map]; exact k _ _ _ _ w (.int _) o.refl⟩
  · exact w.elim
theorem bb_len : bootBuiltins "len" = some (.builtin "len") := by decide +kernel
theorem d_len (hK : X.K = G.K) (hm : X.mg "len" = none) {p : Pos} (ha : DC X G a ta wa) (hg : Gl X "len" := by rfl) (hs : starEach [a] X.env = (false, eval a X.env) :: starEach [] X.env := by rfl) (hpl : (backTo pos (starEach [] X.env)).any (·.1) = false := by rfl) :
    DE X G (.Call (.Name "len" p) [a] [] pos) (tCB (rLen G.K) (tCons ta tNil)) (wOne lenW wa) := d_b1 (hK ▸ call_lenA) rc_len hm bb_len ha hg (by decide) (by decide) hs hpl

/-- all, any -/
def boolsOf : List D → Option (List Bool)
  | [] => some []
  | .bl b :: r => (boolsOf r).map (b :: ·)
  | _ :: _ => none
theorem boolsOf_dn {S : Hp} : ∀ {ds : List D} {vs : List V} {bs : List Bool}, boolsOf ds = some bs → Dns G S vs ds → vs = bs.map V.bl
  | [], _, ks, e, .nil => by simp [boolsOf] at e; subst e; rfl
  | .bl i :: r, _, ks, e, .cons h hs => by
    simp only [boolsOf, Option.map_eq_some_iff] at e
    obtain ⟨ks', e1, rfl⟩ := e
    cases h
    rw [boolsOf_dn e1 hs]
    rfl
theorem boolsOf_map (bs : List Bool) : boolsOf (bs.map D.bl) = some bs := by
  induction bs with
  | nil => rfl
  | cons b r ih => simp [boolsOf, ih]
def allW (f : List Bool → Bool) (d : D) (R : D → Prop) : Prop := match d with
  | .lst ds => ∃ bs, boolsOf ds = some bs ∧ R (.bl (f bs))
  | _ => False
theorem rc_all {f : List Bool → Bool} : RC G (fun vs H Q => ∃ (a : Addr) (bs : List Bool), vs = [V.ref a] ∧ SqL G.K H a (bs.map V.bl) ∧ Q (.bl (f bs)) H) (allW f) := fun M ρ σ S H R Q x d o c w k => by
  unfold allW at w
  split at w
  · obtain ⟨bs, e, w⟩ := w
    obtain ⟨a, vs, rfl, h, hs⟩ := c.lst o
    exact ⟨a, bs, rfl, SqL.of (by rw [← boolsOf_dn e hs]; exact h), k _ _ _ _ w (.bl _) o.refl⟩
  · exact w.elim
theorem bb_all : bootBuiltins "all" = some (.builtin "all") := by decide +kernel
theorem bb_any : bootBuiltins "any" = some (.builtin "any") := by decide +kernel
theorem d_all (hK : X.K = G.K) (hc : X.calm = true) (hm : X.mg "all" = none) {p : Pos} (ha : DC X G a ta wa) (hg : Gl X "all" := by rfl) (hs : starEach [a] X.env = (false, eval a X.env) :: starEach [] X.env := by rfl) (hpl : (backTo pos (starEach [] X.env)).any (·.1) = false := by rfl) :
    DE X G (.Call (.Name "all" p) [a] [] pos) (tCB (rAll G.K) (tCons ta tNil)) (wOne (allW fun bs => bs.all id) wa) := d_b1 (hK ▸ cr_all hc) rc_all hm bb_all ha hg (by decide) (by decide) hs hpl
theorem d_any (hK : X.K = G.K) (hc : X.calm = true) (hm : X.mg "any" = none) {p : Pos} (ha : DC X G a ta wa) (hg : Gl X "any" := by rfl) (hs : starEach [a] X.env = (false, eval a X.env) :: starEach [] X.env := by rfl) (hpl : (backTo pos (starEach [] X.env)).any (·.1) = false := by rfl) :
    DE X G (.Call (.Name "any" p) [a] [] pos) (tCB (rAny G.K) (tCons ta tNil)) (wOne (allW fun bs => bs.any id) wa) := d_b1 (hK ▸ cr_any hc) rc_all hm bb_any ha hg (by decide) (by decide) hs hpl
/-- abs, int -/
def absW (d : D) (R : D → Prop) : Prop := match d with
  | .int i => R (.int (if i < 0 then -i else i))
  | _ => False
theorem rc_abs : RC G (fun xs H Q => ∃ i, xs = [.int i] ∧ Q (.int (if i < 0 then -i else i)) H) absW := fun M ρ σ S H R Q x d o c w k => by
  unfold absW at w
  split at w
  · exact ⟨_, by rw [c.int o], k _ _ _ _ w (.int _) o.refl⟩
  · exact w.elim
theorem bb_abs : bootBuiltins "abs" = some (.builtin "abs") := by decide +kernel
theorem d_abs (hm : X.mg "abs" = none) {p : Pos} (ha : DC X G a ta wa) (hg : Gl X "abs" := by rfl) (hs : starEach [a] X.env = (false, eval a X.env) :: starEach [] X.env := by rfl) (hpl : (backTo pos (starEach [] X.env)).any (·.1) = false := by rfl) :
    DE X G (.Call (.Name "abs" p) [a] [] pos) (tCB (fun xs H Q => ∃ i, xs = [.int i] ∧ Q (.int (if i < 0 then -i else i)) H) (tCons ta tNil)) (wOne absW wa) := d_b1 call_abs rc_abs hm bb_abs ha hg (by decide) (by decide) hs hpl
def intTW (d : D) (R : D → Prop) : Prop := match d with
  | .int i => R (.int i)
  | .bl k => R (.int (if k then 1 else 0))
  | .str x => ∃ n, PySem.intText? x = some n ∧ x.length ≤ 640 ∧ R (.int n)
  | _ => False
def rIntT : List V → Hp → VK → Prop := fun xs H Q => ((∃ i, xs = [.int i] ∧ Q (.int i) H) ∨ ∃ k, xs = [.bl k] ∧ Q (.int (if k then 1 else 0)) H) ∨ ∃ a n, xs = [.str a] ∧ PySem.intText? a = some n ∧ a.length ≤ 640 ∧ Q (.int n) H
theorem rc_int : RC G rIntT intTW := fun M ρ σ S H R Q x d o c w k => by
  unfold intTW at w
  split at w
  · exact .inl (.inl ⟨_, by rw [c.int o], k _ _ _ _ w (.int _) o.refl⟩)
  · exact .inl (.inr ⟨_, by rw [c.bl o], k _ _ _ _ w (.int _) o.refl⟩)
  · obtain ⟨n, e, hl, w⟩ := w
    exact .inr ⟨_, n, by rw [c.str o], e, hl, k _ _ _ _ w (.int _) o.refl⟩
  · exact w.elim
theorem bb_int : bootBuiltins "int" = some (.type "int") := by decide +kernel
theorem d_intT (hm : X.mg "int" = none) {p : Pos} (ha : DC X G a ta wa) (hg : Gl X "int" := by rfl) (hs : starEach [a] X.env = (false, eval a X.env) :: starEach [] X.env := by rfl) (hpl : (backTo pos (starEach [] X.env)).any (·.1) = false := by rfl) :
    DE X G (.Call (.Name "int" p) [a] [] pos) (tCB rIntT (tCons ta tNil)) (wOne intTW wa) := d_t1 (call_int1.or call_int_str) rc_int hm bb_int ha hg (by decide) (by decide) hs hpl
/-- tuple(..), list(..) -/
def tupTW (d : D) (R : D → Prop) : Prop := match d with
  | .lst ds => R (.tup ds)
  | .tup ds => R (.tup ds)
  | _ => False
theorem rc_tup : RC G (fun xs H Q => ∃ p ys, xs = [.ref p] ∧ ((SqL G.K H p ys ∧ ∀ l, H l = none → Q (.ref l) (upd H l (.tup ys))) ∨ (SqT G.K H p ys ∧ Q (.ref p) H))) tupTW := fun M ρ σ S H R Q x d o c w k => by
  unfold tupTW at w
  split at w
  · obtain ⟨a, vs, rfl, h, hs⟩ := c.lst o
    exact ⟨a, vs, rfl, .inl ⟨SqL.of h, fun l hl => k _ _ _ _ w (.tup upd_same (hs.mono (o.laid hl _).mono)) (o.laid hl _)⟩⟩
  · obtain ⟨a, vs, rfl, h, hs⟩ := c.tup o
    refine ⟨a, vs, rfl, .inr ⟨h.seqT, ?_⟩⟩
    rcases c with c | ⟨n, g1, g2⟩
    · exact k _ _ _ _ w c o.refl
    · obtain ⟨_, _, _, _, z⟩ := o.ev n _ g1
      exact z.elim
  · exact w.elim
theorem bb_tup : bootBuiltins "tuple" = some (.type "tuple") := by decide +kernel
theorem d_tupT (hK : X.K = G.K) (hm : X.mg "tuple" = none) {p : Pos} (ha : DC X G a ta wa) (hg : Gl X "tuple" := by rfl) (hs : starEach [a] X.env = (false, eval a X.env) :: starEach [] X.env := by rfl) (hpl : (backTo pos (starEach [] X.env)).any (·.1) = false := by rfl) :
    DE X G (.Call (.Name "tuple" p) [a] [] pos) (tCB (fun xs H Q => ∃ p ys, xs = [.ref p] ∧ ((SqL G.K H p ys ∧ ∀ l, H l = none → Q (.ref l) (upd H l (.tup ys))) ∨ (SqT G.K H p ys ∧ Q (.ref p) H))) (tCons ta tNil)) (wOne tupTW wa) := d_t1 (hK ▸ call_tuple_of) rc_tup hm bb_tup ha hg (by decide) (by decide) hs hpl
def lstTW (d : D) (R : D → Prop) : Prop := match d with
  | .lst ds => R (.lst ds)
  | .tup ds => R (.lst ds)
  | _ => False
theorem rc_lst : RCN G (fun xs H Q => ∃ p ys, xs = [.ref p] ∧ (SqL G.K H p ys ∨ SqT G.K H p ys) ∧ ∀ l, H l = none → Q (.ref l) (upd H l (.lst ys))) lstTW := fun M ρ σ S H R Q x d o c w k => by
  unfold lstTW at w
  split at w
  · obtain ⟨a, vs, rfl, h, hs⟩ := c.lst o
    exact ⟨a, vs, rfl, .inl (SqL.of h), fun l hl => k _ _ _ w hl hs⟩
  · obtain ⟨a, vs, rfl, h, hs⟩ := c.tup o
    exact ⟨a, vs, rfl, .inr h.seqT, fun l hl => k _ _ _ w hl hs⟩
  · exact w.elim
theorem bb_lst : bootBuiltins "list" = some (.type "list") := by decide +kernel
theorem d_lstT (hK : X.K = G.K) (hm : X.mg "list" = none) {p : Pos} (ha : DC X G a ta wa) (hg : Gl X "list" := by rfl) (hs : starEach [a] X.env = (false, eval a X.env) :: starEach [] X.env := by rfl) (hpl : (backTo pos (starEach [] X.env)).any (·.1) = false := by rfl) :
    DN X G (.Call (.Name "list" p) [a] [] pos) (tCB (fun xs H Q => ∃ p ys, xs = [.ref p] ∧ (SqL G.K H p ys ∨ SqT G.K H p ys) ∧ ∀ l, H l = none → Q (.ref l) (upd H l (.lst ys))) (tCons ta tNil)) (wOne lstTW wa) :=
  d_t1n (hK ▸ call_list_of) rc_lst (fun d R h => by cases d <;> first | exact ⟨h, _, rfl⟩ | exact h.elim) hm bb_lst ha hg (by decide) (by decide) hs hpl
/-- sorted, of texts -/
def strsOf : List D → Option (List Str)
  | [] => some []
  | .str x :: r => (strsOf r).map (x :: ·)
  | _ :: _ => none
theorem strsOf_dn {S : Hp} : ∀ {ds : List D} {vs : List V} {xs : List Str}, strsOf ds = some xs → Dns G S vs ds → vs = xs.map V.str
  | [], _, ks, e, .nil => by simp [strsOf] at e; subst e; rfl
  | .str i :: r, _, ks, e, .cons h hs => by
    simp only [strsOf, Option.map_eq_some_iff] at e
    obtain ⟨ks', e1, rfl⟩ := e
    cases h
    rw [strsOf_dn e1 hs]
    rfl
theorem strsOf_map (xs : List Str) : strsOf (xs.map D.str) = some xs := by
  induction xs with
  | nil => rfl
  | cons b r ih => simp [strsOf, ih]
theorem dns_strs {S : Hp} : ∀ xs : List Str, Dns G S (xs.map V.str) (xs.map D.str)
  | [] => .nil
  | x :: r => .cons (.str x) (dns_strs r)
def srtW (d : D) (R : D → Prop) : Prop := match d with
  | .lst ds => ∃ xs, strsOf ds = some xs ∧ xs.length < 64 ∧ ∀ ys : List Str, ys.Perm xs → PyProof.Rows.sortedS ys = true → R (.lst (ys.map .str))
  | _ => False
theorem rc_srt : RCN G (rSortedS G.K) srtW := fun M ρ σ S H R Q x d o c w k => by
  unfold srtW at w
  split at w
  · obtain ⟨xs, e, hl, w⟩ := w
    obtain ⟨a, vs, rfl, h, hs⟩ := c.lst o
    exact ⟨a, xs, rfl, SqL.of (by rw [← strsOf_dn e hs]; exact h), hl, fun ys p hp hsd hn => k _ _ _ (w ys hp hsd) hn (dns_strs ys)⟩
  · exact w.elim
theorem bb_srt : bootBuiltins "sorted" = some (.builtin "sorted") := by decide +kernel
theorem d_srt (hK : X.K = G.K) (hm : X.mg "sorted" = none) {p : Pos} (ha : DC X G a ta wa) (hg : Gl X "sorted" := by rfl) (hs : starEach [a] X.env = (false, eval a X.env) :: starEach [] X.env := by rfl) (hpl : (backTo pos (starEach [] X.env)).any (·.1) = false := by rfl) :
    DN X G (.Call (.Name "sorted" p) [a] [] pos) (tCB (rSortedS G.K) (tCons ta tNil)) (wOne srtW wa) :=
  d_b1n (hK ▸ cr_sortedS) rc_srt (fun d R h => by
    unfold srtW at h ⊢
    split at h
    · obtain ⟨xs, e, hl, h⟩ := h
      exact ⟨xs, e, hl, fun ys a b => ⟨h ys a b, _, rfl⟩⟩
    · exact h.elim) hm bb_srt ha hg (by decide) (by decide) hs hpl
end
end HB
namespace HB
open PySem L2

section
variable {X : Cx} {G : Gam} {a b c : Expr} {ta tb tc : TE} {wa wb wc : WE} {pos : Pos}

/-! ### isinstance -/
def D.ty : D → Option String
  | .non => some "NoneType"
  | .bl _ => some "bool"
  | .int _ => some "int"
  | .str _ => some "str"
  | .lst _ => some "list"
  | .tup _ => some "tuple"
  | .dct _ => some "dict"
  | .dtt _ => some "dict"
  | .obj _ _ => none
  | .scr _ => none
def subTy (a b : String) : Bool := a == b || (a == "bool" && b == "int")
def tyNames : List String := ["str", "int", "bool", "list", "tuple", "dict"]
theorem kit_tab {K : PySem.W.Frag} {d : D} {T b : String} (hT : d.ty = some T) (hb : b ∈ tyNames) : PySem.W.kitOne K (.type T) (.type b) = some (subTy T b) := by
  have key : ∀ T ∈ ["NoneType", "bool", "int", "str", "list", "tuple", "dict"], ∀ b ∈ tyNames, kitB T b = some (subTy T b) := by decide +kernel
  refine kit_ty (key T ?_ b hb)
  cases d <;> simp [D.ty] at hT <;> subst hT <;> simp
/-- its type's name, a locked dict's too -/
inductive TyG (K : PySem.W.Frag) (H : Hp) : V → Value → Prop where
  | x {x : V} {t : Value} (h : TyX K H x t) : TyG K H x t
  | dK {a : Addr} {kvs : List (Key × V)} (h : Rd H a (.dK kvs)) : TyG K H (.ref a) (.type "dict")
  | dT {a : Addr} {kvs : List (List Key × V)} (h : Rd H a (.dT kvs)) : TyG K H (.ref a) (.type "dict")
theorem TyG.kit {pins : List (Addr × Obj)} {σ : L2.St} {H : Hp} {s : Shared} {x : V} {u t : Value} (I : Inv X pins σ H s) (rx : RelV x u) (ty : TyG X.K H x t) : ∃ P : Heap → Prop, PySem.W.KitX X.K u t P ∧ P s.heap ∧ u ≠ .builtin "__main__.__loader__#opaque" := by
  cases ty with
  | x h => exact kit_of I rx h
  | dK h =>
    cases rx
    obtain ⟨_, _, vs, _, o, es, ep, h1, h2, _⟩ := dk_rd I.hok h
    exact ⟨_, PySem.W.kitx_dict, ⟨o, h1, h2.1⟩, fun z => nomatch z⟩
  | dT h =>
    cases rx
    obtain ⟨_, _, xs, _, o, es, ep, h1, h2, _⟩ := dt_rd I.hok h
    exact ⟨_, PySem.W.kitx_dict, ⟨o, h1, h2.1⟩, fun z => nomatch z⟩
def rIsG (K : PySem.W.Frag) : List V → Hp → VK → Prop := fun xs H Q => ∃ (x c : V) (t u : Value) (b : Bool), xs = [x, c] ∧ ClsV c u ∧ TyG K H x t ∧ PySem.W.kitOne K t u = some b ∧ Q (.bl b) H
def rIsGT (K : PySem.W.Frag) : List V → Hp → VK → Prop := fun xs H Q => ∃ (x : V) (tp : Addr) (cs : List V) (t : Value) (us : List Value) (b : Bool), xs = [x, .ref tp] ∧ H tp = some (.tup cs) ∧ Paired ClsV cs us ∧ TyG K H x t ∧ PySem.W.kitAny K t us = some b ∧ Q (.bl b) H
theorem call_isG : CallR X (.builtin "isinstance") (rIsG X.K) := by
  intro pins s σ H xs us Q I r h
  obtain ⟨x, c, t, u, b, rfl, k, ty, e, q⟩ := h
  obtain ⟨u1, u2, rfl, r1, r2⟩ := vals2 r
  have e2 := k.eq r2
  subst e2
  obtain ⟨P, Z, p, hx⟩ := ty.kit I r1
  exact PySem.W.kia_one Z I.kIn p e hx fun tk => ⟨.bl b, H, I.tok tk, rfl, q⟩
theorem call_isGT : CallR X (.builtin "isinstance") (rIsGT X.K) := by
  intro pins s σ H xs us Q I r h
  obtain ⟨x, tp, cs, t, ws, b, rfl, hT, k, ty, e, q⟩ := h
  obtain ⟨u1, u2, rfl, r1, r2⟩ := vals2 r
  obtain rfl : u2 = Value.ref tp := r2
  obtain ⟨P, Z, p, hx⟩ := ty.kit I r1
  have ot : ObjOk X.prog X.w H s.heap tp (.tup cs) := I.hok tp _ hT
  obtain ⟨_, its, rv, o, h1, h2, n, h3⟩ := ot
  obtain rfl := ClsV.all k rv
  obtain ⟨oc, od, dt, sl⟩ := o
  simp only at h2 h3
  subst h2 h3
  exact PySem.W.kia_tup Z I.kIn p h1 e hx fun tk => ⟨.bl b, H, I.tok tk, rfl, q⟩
theorem Cur.tyg {M : Eff} {ρ : Rho} {σ : L2.St} {S H : Hp} {v : V} {d : D} {T : String} (o : Ok G M ρ σ S H) (c : Cur G ρ σ S v d) (h : d.ty = some T) : TyG G.K H v (.type T) := by
  cases d <;> simp [D.ty] at h <;> subst h
  · rw [c.non o]; exact .x (.base .non)
  · rw [c.bl o]; exact .x (.base (.bl _))
  · rw [c.int o]; exact .x (.base (.int _))
  · rw [c.str o]; exact .x (.base (.str _))
  · obtain ⟨a, vs, rfl, h, _⟩ := c.lst o
    exact .x (.base (.lst h))
  · obtain ⟨a, vs, rfl, h, _⟩ := c.tup o
    exact .x (.base (.tup h))
  · obtain ⟨a, rfl, ks, h, _⟩ := c.dct o
    exact .dK h
  · obtain ⟨a, rfl, ks, h, _⟩ := c.dtt o
    exact .dT h
def isiW (ns : List String) (d : D) (R : D → Prop) : Prop := match d.ty with
  | some T => R (.bl (ns.any (subTy T)))
  | none => False
theorem bb_isi : bootBuiltins "isinstance" = some (.builtin "isinstance") := by decide +kernel
theorem bb_cls : ∀ n ∈ tyNames, bootBuiltins (Str.ofString n) = some (.type n) := by decide +kernel
/-- isinstance(a, T), T a built-in class -/
theorem d_isi (n : String) (hK : X.K = G.K) (hm : X.mg "isinstance" = none) (hm2 : X.mg (Str.ofString n) = none) {p p2 : Pos} (ha : DC X G a ta wa) (hn : n ∈ tyNames := by decide) (hg : Gl X "isinstance" := by rfl) (hg2 : Gl X (Str.ofString n) := by rfl)
    (hnn : Str.ofString n ≠ "__name__" := by decide) (hdd : (Str.ofString n == ("__debug__" : Str)) = false := by decide)
    (hs : starEach [a, .Name (Str.ofString n) p2] X.env = (false, eval a X.env) :: starEach [.Name (Str.ofString n) p2] X.env := by rfl) (hs2 : starEach [.Name (Str.ofString n) p2] X.env = (false, eval (.Name (Str.ofString n) p2) X.env) :: starEach [] X.env := by rfl)
    (hpl : (backTo pos (starEach [.Name (Str.ofString n) p2] X.env)).any (·.1) = false := by rfl) :
    DE X G (.Call (.Name "isinstance" p) [a, .Name (Str.ofString n) p2] [] pos) (tCB (rIsG G.K) (tCons ta (tCons (tC (.ty n)) tNil))) (wOne (isiW [n]) wa) :=
  ⟨hK ▸ pe_callB call_isG hg hm bb_isi (pa_cons ha.pe (pa_cons (pe_bltn hg2 hm2 (bb_cls n hn) rfl hnn hdd) pa_nil hs2) hs) (by decide) (by decide) hs hpl, fun M ρ σ S H R Q o w k => ha.sc M ρ σ S H _ _ o w fun d v S' H' r c s => by
    unfold isiW at r
    split at r
    · rename_i T e
      refine ⟨v, .ty n, .type T, .type n, _, rfl, .ty n, c.tyg (o.step s) e, kit_tab e hn, ?_⟩
      rw [List.any_cons, List.any_nil, Bool.or_false] at r
      exact k _ _ _ _ r (.bl _) s
    · exact r.elim⟩
theorem kitAny_tab {K : PySem.W.Frag} {d : D} {T : String} (hT : d.ty = some T) : ∀ {ns : List String}, (∀ n ∈ ns, n ∈ tyNames) → PySem.W.kitAny K (.type T) (ns.map Value.type) = some (ns.any (subTy T))
  | [], _ => kitAny_nil
  | n :: ns, h => by
    rw [List.map_cons, List.any_cons]
    refine kitAny_cons (kit_tab hT (h n (by simp))) (fun e => ?_) fun e => by rw [e]; rfl
    rw [e, Bool.false_or]
    exact kitAny_tab hT fun m hm => h m (by simp [hm])
theorem cls_names : ∀ ns : List String, Paired ClsV (ns.map V.ty) (ns.map Value.type)
  | [] => .nil
  | n :: ns => .cons (.ty n) (cls_names ns)
/-- isinstance(a, (T, U)) -/
theorem d_isi2 (n m : String) (hK : X.K = G.K) (hm : X.mg "isinstance" = none) (hm1 : X.mg (Str.ofString n) = none) (hm2 : X.mg (Str.ofString m) = none) {p p2 p3 p4 : Pos} {x1} (ha : DC X G a ta wa) (hn : n ∈ tyNames := by decide) (hn2 : m ∈ tyNames := by decide) (hg : Gl X "isinstance" := by rfl) (hg1 : Gl X (Str.ofString n) := by rfl) (hg2 : Gl X (Str.ofString m) := by rfl)
    (hnn : Str.ofString n ≠ "__name__" := by decide) (hdd : (Str.ofString n == ("__debug__" : Str)) = false := by decide) (hnn2 : Str.ofString m ≠ "__name__" := by decide) (hdd2 : (Str.ofString m == ("__debug__" : Str)) = false := by decide)
    (hs : starEach [a, .Tuple [.Name (Str.ofString n) p2, .Name (Str.ofString m) p3] x1 p4] X.env = (false, eval a X.env) :: starEach [.Tuple [.Name (Str.ofString n) p2, .Name (Str.ofString m) p3] x1 p4] X.env := by rfl)
    (hs2 : starEach [.Tuple [.Name (Str.ofString n) p2, .Name (Str.ofString m) p3] x1 p4] X.env = (false, eval (.Tuple [.Name (Str.ofString n) p2, .Name (Str.ofString m) p3] x1 p4) X.env) :: starEach [] X.env := by rfl)
    (hs3 : starEach [.Name (Str.ofString n) p2, .Name (Str.ofString m) p3] X.env = (false, eval (.Name (Str.ofString n) p2) X.env) :: starEach [.Name (Str.ofString m) p3] X.env := by rfl)
    (hs4 : starEach [.Name (Str.ofString m) p3] X.env = (false, eval (.Name (Str.ofString m) p3) X.env) :: starEach [] X.env := by rfl)
    (hpl : (backTo pos (starEach [.Tuple [.Name (Str.ofString n) p2, .Name (Str.ofString m) p3] x1 p4] X.env)).any (·.1) = false := by rfl) :
    DE X G (.Call (.Name "isinstance" p) [a, .Tuple [.Name (Str.ofString n) p2, .Name (Str.ofString m) p3] x1 p4] [] pos) (tCB (rIsGT G.K) (tCons ta (tCons (tTup (tCons (tC (.ty n)) (tCons (tC (.ty m)) tNil))) tNil))) (wOne (isiW [n, m]) wa) :=
  ⟨hK ▸ pe_callB call_isGT hg hm bb_isi (pa_cons ha.pe (pa_cons (pe_tup (pa_cons (pe_bltn hg1 hm1 (bb_cls n hn) rfl hnn hdd) (pa_cons (pe_bltn hg2 hm2 (bb_cls m hn2) rfl hnn2 hdd2) pa_nil hs4) hs3)) pa_nil hs2) hs) (by decide) (by decide) hs hpl,
   fun M ρ σ S H R Q o w k => ha.sc M ρ σ S H _ _ o w fun d v S' H' r c s => by
    unfold isiW at r
    split at r
    · rename_i T e
      refine ⟨lim (by show 2 ≤ 1000000; decide), fun q hq => ?_⟩
      have o1 := o.step s
      have st := o1.laidO hq (.tup [.ty n, .ty m])
      exact ⟨v, q, [.ty n, .ty m], .type T, [.type n, .type m], _, rfl, upd_same, cls_names [n, m], (c.step st).tyg (o1.step st) e, kitAny_tab e (ns := [n, m]) (by simp [hn, hn2]), k _ _ _ _ r (.bl _) (s.trans st)⟩
    · exact r.elim⟩

/-! ### min, max of two -/
theorem bb_min : bootBuiltins "min" = some (.builtin "min") := by decide +kernel
theorem bb_max : bootBuiltins "max" = some (.builtin "max") := by decide +kernel
theorem rb_two {g : Int → Int → Int} : RB G (fun x y H Q => ∃ i j, [x, y] = [V.int i, V.int j] ∧ Q (.int (g i j)) H) (intW (fun _ _ => True) fun i j => .int (g i j)) := fun M ρ σ S H R Q x y d e o c1 c2 w k => by
  unfold intW at w
  split at w
  · rename_i i j
    exact ⟨i, j, by rw [c1.int o, c2.int o], k _ _ _ _ w.2 (.int _) o.refl⟩
  · exact w.elim
theorem d_min2 (hc : X.calm = true) (hm : X.mg "min" = none) {p : Pos} (ha : DC X G a ta wa) (hb : DC X G b tb wb) (hg : Gl X "min" := by rfl) (hs : starEach [a, b] X.env = (false, eval a X.env) :: starEach [b] X.env := by rfl) (hs2 : starEach [b] X.env = (false, eval b X.env) :: starEach [] X.env := by rfl)
    (hpl : (backTo pos (starEach [b] X.env)).any (·.1) = false := by rfl) : DE X G (.Call (.Name "min" p) [a, b] [] pos) (tCB (fun xs H Q => ∃ i j, xs = [.int i, .int j] ∧ Q (.int (if j < i then j else i)) H) (tCons ta (tCons tb tNil))) (wBin (intW (fun _ _ => True) fun i j => .int (if j < i then j else i)) wa wb) :=
  ⟨pe_callB (call_min2 hc) hg hm bb_min (pa_cons ha.pe (pa_cons hb.pe pa_nil hs2) hs) (by decide) (by decide) hs hpl, se_bin rb_two ha.sc hb.sc⟩
theorem d_max2 (hc : X.calm = true) (hm : X.mg "max" = none) {p : Pos} (ha : DC X G a ta wa) (hb : DC X G b tb wb) (hg : Gl X "max" := by rfl) (hs : starEach [a, b] X.env = (false, eval a X.env) :: starEach [b] X.env := by rfl) (hs2 : starEach [b] X.env = (false, eval b X.env) :: starEach [] X.env := by rfl)
    (hpl : (backTo pos (starEach [b] X.env)).any (·.1) = false := by rfl) : DE X G (.Call (.Name "max" p) [a, b] [] pos) (tCB (fun xs H Q => ∃ i j, xs = [.int i, .int j] ∧ Q (.int (if j > i then j else i)) H) (tCons ta (tCons tb tNil))) (wBin (intW (fun _ _ => True) fun i j => .int (if j > i then j else i)) wa wb) :=
  ⟨pe_callB (call_max2 hc) hg hm bb_max (pa_cons ha.pe (pa_cons hb.pe pa_nil hs2) hs) (by decide) (by decide) hs hpl, se_bin rb_two ha.sc hb.sc⟩

/-! ### texts -/
/-- a method of a text, one argument; none -/
def RS1 (G : Gam) (r : V → List V → Hp → VK → Prop) (WB : Str → D → (D → Prop) → Prop) : Prop := ∀ (M : Eff) (ρ : Rho) (σ : L2.St) (S H : Hp) (R : D → Prop) (Q : VK) (x : Str) (y : V) (e : D), Ok G M ρ σ S H → Cur G ρ σ S y e → WB x e R →
  (∀ f v S' H', R f → Dn G S' v f → Step M S H S' H' → Q v H') → r (.str x) [y] H Q
def RS0 (G : Gam) (r : V → List V → Hp → VK → Prop) (WB : Str → (D → Prop) → Prop) : Prop := ∀ (M : Eff) (ρ : Rho) (σ : L2.St) (S H : Hp) (R : D → Prop) (Q : VK) (x : Str), Ok G M ρ σ S H → WB x R →
  (∀ f v S' H', R f → Dn G S' v f → Step M S H S' H' → Q v H') → r (.str x) [] H Q
def wS1 (WB : Str → D → (D → Prop) → Prop) (wa wb : WE) : WE := fun M ρ R => wa M ρ fun d => match d with
  | .str x => wb M ρ fun e => WB x e R
  | _ => False
def wS0 (WB : Str → (D → Prop) → Prop) (wa : WE) : WE := fun M ρ R => wa M ρ fun d => match d with
  | .str x => WB x R
  | _ => False
theorem se_s1 {r : V → List V → Hp → VK → Prop} {WB : Str → D → (D → Prop) → Prop} (hr : RS1 G r WB) (ha : SC G ta wa) (hb : SC G tb wb) : SE G (tM1 r ta tb) (wS1 WB wa wb) := fun M ρ σ S H R Q o w k =>
  ha M ρ σ S H _ _ o w fun d v S1 H1 r1 c1 s1 => by
    split at r1
    · rename_i x
      cases c1.str (o.step s1)
      exact ⟨⟨x, rfl⟩, hb M ρ σ S1 H1 _ _ (o.step s1) r1 fun e y S2 H2 r2 c2 s2 => hr M ρ σ S2 H2 R Q x y e (o.step (s1.trans s2)) c2 r2 fun f v S3 H3 rf df s3 => k f v S3 H3 rf df ((s1.trans s2).trans s3)⟩
    · exact r1.elim
theorem se_s0 {r : V → List V → Hp → VK → Prop} {WB : Str → (D → Prop) → Prop} (hr : RS0 G r WB) (ha : SC G ta wa) : SE G (tM0 r ta) (wS0 WB wa) := fun M ρ σ S H R Q o w k =>
  ha M ρ σ S H _ _ o w fun d v S1 H1 r1 c1 s1 => by
    split at r1
    · rename_i x
      cases c1.str (o.step s1)
      exact ⟨⟨x, rfl⟩, hr M ρ σ S1 H1 R Q x (o.step s1) r1 fun f v S3 H3 rf df s3 => k f v S3 H3 rf df (s1.trans s3)⟩
    · exact r1.elim
/-- sep.join(xs) -/
def joinW (x : Str) (e : D) (R : D → Prop) : Prop := match e with
  | .lst ds => ∃ ys, strsOf ds = some ys ∧ (ys.map (·.length)).sum + ys.length * x.length ≤ LIM ∧ R (.str (Txt.join x ys))
  | .tup ds => ∃ ys, strsOf ds = some ys ∧ (ys.map (·.length)).sum + ys.length * x.length ≤ LIM ∧ R (.str (Txt.join x ys))
  | _ => False
def rJoin (K : PySem.W.Frag) : V → List V → Hp → VK → Prop := fun x xs H Q => ∃ a p, ∃ ys : List Str, x = .str a ∧ xs = [.ref p] ∧ (SqL K H p (ys.map V.str) ∨ SqT K H p (ys.map V.str)) ∧ (ys.map (·.length)).sum + ys.length * a.length ≤ 16777216 ∧ Q (.str (Txt.join a ys)) H
theorem rs_join : RS1 G (rJoin G.K) joinW := fun M ρ σ S H R Q x y e o c w k => by
  unfold joinW at w
  have big : LIM ≤ 16777216 := by decide
  split at w
  · obtain ⟨ys, ey, hl, w⟩ := w
    obtain ⟨a, vs, rfl, h, hs⟩ := c.lst o
    exact ⟨x, a, ys, rfl, rfl, .inl (SqL.of (by rw [← strsOf_dn ey hs]; exact h)), Nat.le_trans hl big, k _ _ _ _ w (.str _) o.refl⟩
  · obtain ⟨ys, ey, hl, w⟩ := w
    obtain ⟨a, vs, rfl, h, hs⟩ := c.tup o
    exact ⟨x, a, ys, rfl, rfl, .inr (by rw [← strsOf_dn ey hs]; exact h.seqT), Nat.le_trans hl big, k _ _ _ _ w (.str _) o.refl⟩
  · exact w.elim
theorem d_join (hK : X.K = G.K) {apos : Pos} (ha : DC X G a ta wa) (hb : DC X G b tb wb) (hs : starEach [b] X.env = [(false, eval b X.env)] := by rfl) (hbase : attributeBase a "join" X.env (eval a X.env) = eval a X.env := by rfl) (hline : (apos.endLine == pos.line) = true := by rfl) :
    DE X G (.Call (.Attribute a "join" apos) [b] [] pos) (tM1 (rJoin G.K) ta tb) (wS1 joinW wa wb) := ⟨hK ▸ pe_join ha.pe hb.pe hs hbase hline, se_s1 rs_join ha.sc hb.sc⟩
/-- s.upper(), s.lower() -/
theorem rs_up {f : Str → Str} : RS0 G (fun x xs H Q => ∃ a, x = .str a ∧ xs = [] ∧ a.length ≤ 5592405 ∧ Q (.str (f a)) H) (fun x R => x.length ≤ LIM ∧ R (.str (f x))) := fun M ρ σ S H R Q x o w k =>
  ⟨x, rfl, rfl, Nat.le_trans w.1 (by decide), k _ _ _ _ w.2 (.str _) o.refl⟩
theorem d_upper {apos : Pos} (ha : DC X G a ta wa) (hbase : attributeBase a "upper" X.env (eval a X.env) = eval a X.env := by rfl) (hline : (apos.endLine == pos.line) = true := by rfl) :
    DE X G (.Call (.Attribute a "upper" apos) [] [] pos) (tM0 (fun x xs H Q => ∃ a, x = .str a ∧ xs = [] ∧ a.length ≤ 5592405 ∧ Q (.str (Txt.upper a)) H) ta) (wS0 (fun x R => x.length ≤ LIM ∧ R (.str (Txt.upper x))) wa) := ⟨pe_upper ha.pe hbase hline, se_s0 rs_up ha.sc⟩
/-- s.split(sep) -/
def splW (x : Str) (e : D) (R : D → Prop) : Prop := match e with
  | .str b => ((b.length == 0) = false ∧ x.length ≤ LIM) ∧ R (.lst ((Txt.split x b).map .str))
  | _ => False
theorem rs_split : RS1 G (fun x xs H Q => ∃ a b, x = .str a ∧ xs = [.str b] ∧ (b.length == 0) = false ∧ a.length + 2 ≤ sizeLine ∧ rNewStrs (Txt.split a b) H Q) splW := fun M ρ σ S H R Q x y e o c w k => by
  unfold splW at w
  split at w
  · rename_i b
    cases c.str o
    exact ⟨x, b, rfl, rfl, w.1.1, by have h := w.1.2; have e : LIM = 1000000 := rfl; rw [PySem.sizeLine_eq]; omega, fun p hp => k _ _ _ _ w.2 (.lst upd_same ((dns_strs (S := S) _).mono (o.laid hp _).mono)) (o.laid hp _)⟩
  · exact w.elim
theorem d_split {apos : Pos} (ha : DC X G a ta wa) (hb : DC X G b tb wb) (hs : starEach [b] X.env = [(false, eval b X.env)] := by rfl) (hbase : attributeBase a "split" X.env (eval a X.env) = eval a X.env := by rfl) (hline : (apos.endLine == pos.line) = true := by rfl) :
    DE X G (.Call (.Attribute a "split" apos) [b] [] pos) (tM1 (fun x xs H Q => ∃ a b, x = .str a ∧ xs = [.str b] ∧ (b.length == 0) = false ∧ a.length + 2 ≤ sizeLine ∧ rNewStrs (Txt.split a b) H Q) ta tb) (wS1 splW wa wb) := ⟨pe_split ha.pe hb.pe hs hbase hline, se_s1 rs_split ha.sc hb.sc⟩
/-- a text again and again; a product -/
def mulW (d e : D) (R : D → Prop) : Prop := match d, e with
  | .int i, .int j => CMul i j ∧ R (.int (i * j))
  | .str x, .int n => (0 ≤ n ∧ n ≤ 100000 ∧ x.length ≤ 100) ∧ R (.str (Txt.mul x n))
  | _, _ => False
theorem mulOk_small {x : Str} {n : Int} (h0 : 0 ≤ n) (h1 : n ≤ 100000) (hx : x.length ≤ 100) : MulOk x n := by
  refine ⟨?_, fun h2 _ => ?_, fun h2 _ => ?_⟩
  · rw [decide_eq_false (by omega), decide_eq_false (by omega)]
    rfl
  · have h3 : (100 : Int) ≤ (2 ^ 63 - 1) / n := by
      rw [Int.le_ediv_iff_mul_le (by omega)]
      omega
    omega
  · have h3 : x.length * n.toNat ≤ 100 * 100000 := Nat.mul_le_mul hx (by omega)
    have h4 : ¬ (x.length * n.toNat > sizeLine) := by rw [PySem.sizeLine_eq]; omega
    simpa [Builtin.Str.tooLong] using h4
def rMulS : R2 := fun x y H Q => ∃ z n, x = .str z ∧ y = .int n ∧ MulOk z n ∧ Q (.str (Txt.mul z n)) H
theorem op_mulS : OpR X (binaryOp .Mult) rMulS := by
  intro pins s σ H x y v u Q I rx ry h
  obtain ⟨z, n, rfl, rfl, ok, q⟩ := h
  obtain ⟨t, rfl⟩ := rx
  obtain ⟨t', rfl⟩ := ry
  exact SB.mul ok fun t k => ⟨.str _, H, I.tok k, ⟨_, rfl⟩, q⟩
theorem rb_mul : RB G (fun x y H Q => rI CMul (fun i j => .int (i * j)) x y H Q ∨ rMulS x y H Q) mulW := fun M ρ σ S H R Q x y d e o c1 c2 w k => by
  unfold mulW at w
  split at w
  · exact .inl ⟨_, _, c1.int o, c2.int o, w.1, k _ _ _ _ w.2 (.int _) o.refl⟩
  · exact .inr ⟨_, _, c1.str o, c2.int o, mulOk_small w.1.1 w.1.2.1 w.1.2.2, k _ _ _ _ w.2 (.str _) o.refl⟩
  · exact w.elim
theorem d_mulA (ha : DC X G a ta wa) (hb : DC X G b tb wb) : DE X G (.BinOp a .Mult b pos) (tOp (fun x y H Q => rI CMul (fun i j => .int (i * j)) x y H Q ∨ rMulS x y H Q) ta tb) (wBin mulW wa wb) := d_bin (op_mul.or op_mulS) rb_mul ha hb
end
end HB
namespace HB
open PySem L2

/-! ### the heap alone -/
structure Bs (M : Eff) (S H : Hp) : Prop where
  sub : Mon S H
  j : M.J H
  nof : ∀ a u, S a = some u → ¬ M.F a
section
variable {G : Gam} {M : Eff} {ρ : Rho} {σ : L2.St} {S H S' H' S1 H1 : Hp}
theorem Ok.bs (o : Ok G M ρ σ S H) : Bs M S H := ⟨o.sub, o.j, o.nof⟩
theorem Bs.ok0 (b : Bs M S H) : Ok ⟨[], fun _ => 0, fun _ => []⟩ M [] [] S H := ⟨rfl, fun i x e => by simp at e, fun i j d e l h => by simp at h, b.sub, b.j, b.nof⟩
theorem Bs.laid (b : Bs M S H) {p : Addr} (hp : H p = none) (u : HO) : Step M S H (upd S p u) (upd H p u) := b.ok0.laid hp u
theorem Bs.laidO (b : Bs M S H) {p : Addr} (hp : H p = none) (u : HO) : Step M S H S (upd H p u) := b.ok0.laidO hp u
theorem Bs.refl (b : Bs M S H) : Step M S H S H := b.ok0.refl
theorem Bs.step (b : Bs M S H) (t : Step M S H S' H') : Bs M S' H' := ⟨t.sub, t.j, t.nof⟩
/-- what is new may change -/
theorem Step.mut (t : Step M S1 H1 S H) {p : Addr} (h1 : H1 p = none) (hs : S p = none) (hf : ¬ M.F p) (u : HO) : Step M S1 H1 S (upd H p u) := by
  refine ⟨t.mono, fun a w e => ?_, M.loc H _ (fun a f => upd_ne fun e => hf (e ▸ f)) t.j, fun a w n e => ?_, t.fresh, t.nof, fun a e => ?_⟩
  · rw [upd_ne (ne_of_none e hs)]
    exact t.sub a w e
  · rw [upd_ne (ne_of_none e h1)]
    exact t.keep a w n e
  · by_cases q : a = p
    · subst q
      exact absurd h1 e
    · rw [upd_ne q]
      exact t.there a e
theorem OwnAt.upd_ne {l p : Addr} {d : D} (h : OwnAt G S H l d) (n : l ≠ p) (u : HO) : OwnAt G S (upd H p u) l d := h.mono (Mon.refl S) fun w e => by rw [L2.upd_ne n]; exact e
theorem Ok.mut (o : Ok G M ρ σ S H) {p : Addr} (hs : S p = none) (hf : ¬ M.F p) (hn : ∀ (i : Nat) d, ρ[i]? = some (.own d) → σ[i]? ≠ some (some (.ref p))) (u : HO) : Ok G M ρ σ S (upd H p u) := by
  refine ⟨o.len, fun i x e => ?_, o.dist, fun a w e => ?_, M.loc H _ (fun a f => upd_ne fun e => hf (e ▸ f)) o.j, o.nof⟩
  · have h := o.ev i x e
    cases x with
    | no => trivial
    | dat d => exact h
    | own d =>
      obtain ⟨l, e1, e2, e3, e4⟩ := h
      exact ⟨l, e1, e2, e3, e4.upd_ne (fun z => hn i d e (by rw [e1, z])) u⟩
    | fix v => exact h
  · rw [upd_ne (ne_of_none e hs)]
    exact o.sub a w e
theorem Ok.own_ne (o : Ok G M ρ σ S H) {p : Addr} (hp : H p = none) : ∀ (i : Nat) d, ρ[i]? = some (.own d) → σ[i]? ≠ some (some (.ref p)) := fun i d e z => by
  obtain ⟨l, e1, _, _, e4⟩ := o.ev i _ e
  rw [z] at e1
  cases e1
  exact e4.there hp

/-! ### slots -/
theorem Ok.set (o : Ok G M ρ σ S H) (i : Nat) {v : V} {d : D} (h : Dn G S v d) : Ok G M (ρ.set i (.dat d)) (σ.set i (some v)) S H := by
  refine ⟨by simpa using o.len, fun j x e => ?_, fun j k d' e' l h1 h2 h3 h4 => ?_, o.sub, o.j, o.nof⟩
  · by_cases q : i = j
    · subst q
      have hi : i < ρ.length := by
        have := (List.getElem?_eq_some_iff.mp e).1
        simpa using this
      rw [List.getElem?_set_self hi] at e
      cases e
      exact ⟨v, List.getElem?_set_self (by rw [o.len]; exact hi), h⟩
    · rw [List.getElem?_set_ne q] at e ⊢
      exact o.ev j x e
  · have ne : ∀ {m : Nat} {f : D}, (ρ.set i (.dat d))[m]? = some (.own f) → i ≠ m := fun {m f} z q => by
      subst q
      have hi : i < ρ.length := by
        have := (List.getElem?_eq_some_iff.mp z).1
        simpa using this
      rw [List.getElem?_set_self hi] at z
      cases z
    have n1 := ne h1
    have n2 := ne h2
    rw [List.getElem?_set_ne n1] at h1 h3
    rw [List.getElem?_set_ne n2] at h2 h4
    exact o.dist j k d' e' l h1 h2 h3 h4
theorem Ok.setOwn (o : Ok G M ρ σ S H) (i : Nat) {l : Addr} {d : D} (hs : S l = none) (hf : ¬ M.F l) (h : OwnAt G S H l d) (hn : ∀ (j : Nat) e, ρ[j]? = some (.own e) → σ[j]? = some (some (.ref l)) → j = i) : Ok G M (ρ.set i (.own d)) (σ.set i (some (.ref l))) S H := by
  have self : ∀ {x : EV}, (ρ.set i (.own d))[i]? = some x → i < ρ.length ∧ x = .own d := fun {x} z => by
    have hi : i < ρ.length := by
      have := (List.getElem?_eq_some_iff.mp z).1
      simpa using this
    rw [List.getElem?_set_self hi] at z
    cases z
    exact ⟨hi, rfl⟩
  refine ⟨by simpa using o.len, fun j x e => ?_, fun j k d' e' m h1 h2 h3 h4 => ?_, o.sub, o.j, o.nof⟩
  · by_cases q : i = j
    · subst q
      obtain ⟨hi, rfl⟩ := self e
      exact ⟨l, List.getElem?_set_self (by rw [o.len]; exact hi), hs, hf, h⟩
    · rw [List.getElem?_set_ne q] at e ⊢
      exact o.ev j x e
  · by_cases q1 : i = j
    · subst q1
      by_cases q2 : i = k
      · exact q2
      · obtain ⟨hi, _⟩ := self h1
        rw [List.getElem?_set_self (by rw [o.len]; exact hi)] at h3
        cases h3
        rw [List.getElem?_set_ne q2] at h2 h4
        exact (hn k e' h2 h4).symm
    · by_cases q2 : i = k
      · subst q2
        obtain ⟨hi, _⟩ := self h2
        rw [List.getElem?_set_self (by rw [o.len]; exact hi)] at h4
        cases h4
        rw [List.getElem?_set_ne q1] at h1 h3
        exact hn j d' h1 h3
      · rw [List.getElem?_set_ne q1] at h1 h3
        rw [List.getElem?_set_ne q2] at h2 h4
        exact o.dist j k d' e' m h1 h2 h3 h4
/-- slots forgotten -/
def wipeR (ρ : Rho) : List Nat → Rho
  | [] => ρ
  | v :: vs => (wipeR ρ vs).set v .no
theorem Ok.wipe (o : Ok G M ρ σ S H) : ∀ vs : List Nat, Ok G M (wipeR ρ vs) (L2.wipe σ vs) S H
  | [] => o
  | v :: vs => by
    have ih := Ok.wipe o vs
    show Ok G M ((wipeR ρ vs).set v .no) ((L2.wipe σ vs).set v none) S H
    have self : ∀ {x : EV}, ((wipeR ρ vs).set v .no)[v]? = some x → x = .no := fun {x} z => by
      have hi : v < (wipeR ρ vs).length := by
        have := (List.getElem?_eq_some_iff.mp z).1
        simpa using this
      rw [List.getElem?_set_self hi] at z
      cases z
      rfl
    refine ⟨by simpa using ih.len, fun j x e => ?_, fun j k d' e' m h1 h2 h3 h4 => ?_, o.sub, o.j, o.nof⟩
    · by_cases q : v = j
      · subst q
        rw [self e]
        trivial
      · rw [List.getElem?_set_ne q] at e ⊢
        exact ih.ev j x e
    · have ne : ∀ {m : Nat} {f : D}, ((wipeR ρ vs).set v .no)[m]? = some (.own f) → v ≠ m := fun {m f} z q => by
        subst q
        exact nomatch self z
      have n1 := ne h1
      have n2 := ne h2
      rw [List.getElem?_set_ne n1] at h1 h3
      rw [List.getElem?_set_ne n2] at h2 h4
      exact ih.dist j k d' e' m h1 h2 h3 h4
theorem wipe_set (σ : L2.St) (i : Nat) (x : Option V) : ∀ (vs : List Nat), i ∈ vs → L2.wipe (σ.set i x) vs = L2.wipe σ vs
  | [], h => by cases h
  | v :: vs, h => by
    show (L2.wipe (σ.set i x) vs).set v none = (L2.wipe σ vs).set v none
    by_cases q : i ∈ vs
    · rw [wipe_set σ i x vs q]
    · have e : v = i := by
        rcases List.mem_cons.mp h with e | e
        · exact e.symm
        · exact absurd e q
      subst e
      have key : ∀ (ws : List Nat), ¬ v ∈ ws → L2.wipe (σ.set v x) ws = (L2.wipe σ ws).set v x := by
        intro ws
        induction ws with
        | nil => intro _; rfl
        | cons w ws ih =>
          intro hw
          rw [List.mem_cons, not_or] at hw
          show (L2.wipe (σ.set v x) ws).set w none = ((L2.wipe σ ws).set w none).set v x
          rw [ih hw.2, List.set_comm _ _ hw.1]
      rw [key vs q, List.set_set]
end

/-! ### targets -/
abbrev WG := D → Rho → (Rho → Prop) → Prop
/-- v is bound to a target; slots: the ones that change -/
def SG (G : Gam) (g : TG) (is : List Nat) (W : WG) : Prop := ∀ (M : Eff) (ρ : Rho) (σ : L2.St) (S H : Hp) (d : D) (v : V) (R : Rho → Prop) (Q : L2.St → Hp → Prop), Ok G M ρ σ S H → Dn G S v d → W d ρ R →
  (∀ ρ' σ', R ρ' → Ok G M ρ' σ' S H → (∀ vs : List Nat, (∀ i ∈ is, i ∈ vs) → L2.wipe σ' vs = L2.wipe σ vs) → (∀ (i : Nat) e l, ρ'[i]? = some (.own e) → σ'[i]? = some (some (.ref l)) → ρ[i]? = some (.own e) ∧ σ[i]? = some (some (.ref l))) → Q σ' H) → g v σ H Q
structure DG (X : Cx) (G : Gam) (tg : Expr) (g : TG) (is : List Nat) (W : WG) : Prop where
  pg : PG X tg g
  sg : SG G g is W
def SGs (G : Gam) (g : TGs) (is : List Nat) (W : List D → Rho → (Rho → Prop) → Prop) : Prop := ∀ (M : Eff) (ρ : Rho) (σ : L2.St) (S H : Hp) (ds : List D) (vs : List V) (R : Rho → Prop) (Q : L2.St → Hp → Prop), Ok G M ρ σ S H → Dns G S vs ds → W ds ρ R →
  (∀ ρ' σ', R ρ' → Ok G M ρ' σ' S H → (∀ vs : List Nat, (∀ i ∈ is, i ∈ vs) → L2.wipe σ' vs = L2.wipe σ vs) → (∀ (i : Nat) e l, ρ'[i]? = some (.own e) → σ'[i]? = some (some (.ref l)) → ρ[i]? = some (.own e) ∧ σ[i]? = some (some (.ref l))) → Q σ' H) → g vs σ H Q
structure DGs (X : Cx) (G : Gam) (ts : List Expr) (g : TGs) (is : List Nat) (W : List D → Rho → (Rho → Prop) → Prop) : Prop where
  pg : PGs X ts g
  sg : SGs G g is W
section
variable {X : Cx} {G : Gam} {pos : Pos}
def wGN (i : Nat) : WG := fun d ρ R => R (ρ.set i (.dat d))
theorem set_own {ρ : Rho} {σ : L2.St} {i : Nat} {d : D} {v : V} : ∀ (j : Nat) e l, (ρ.set i (.dat d))[j]? = some (.own e) → (σ.set i (some v))[j]? = some (some (.ref l)) → ρ[j]? = some (.own e) ∧ σ[j]? = some (some (.ref l)) := fun j e l h1 h2 => by
  by_cases q : i = j
  · subst q
    have hi : i < ρ.length := by
      have := (List.getElem?_eq_some_iff.mp h1).1
      simpa using this
    rw [List.getElem?_set_self hi] at h1
    cases h1
  · rw [List.getElem?_set_ne q] at h1 h2
    exact ⟨h1, h2⟩
theorem sg_nm (i : Nat) : SG G (gName i) [i] (wGN i) := fun M ρ σ S H d v R Q o h w k => k _ _ w (o.set i h) (fun vs hv => wipe_set σ i _ vs (hv i (by simp))) set_own
theorem g_nm (i : Nat) {x : Str} (hN : X.N.Nodup) (hi : X.N[i]? = some x := by rfl) (hx : Loc X.env.scope x := by first | exact Or.inl rfl | exact Or.inr rfl) (hf : X.fn x = true ∨ X.env.scope.names.lookup x = some .local := by first | exact .inl rfl | exact .inr rfl | assumption) : DG X G (.Name x pos) (gName i) [i] (wGN i) := ⟨pg_name hN hi hx hf, sg_nm i⟩
abbrev WGs := List D → Rho → (Rho → Prop) → Prop
def wGsN : WGs := fun ds ρ R => ds = [] ∧ R ρ
def wGsC (W : WG) (W' : WGs) : WGs := fun ds ρ R => match ds with | d :: r => W d ρ fun ρ' => W' r ρ' R | [] => False
theorem gs_nil : DGs X G [] gNil [] wGsN := ⟨pgs_nil, fun M ρ σ S H ds vs R Q o h w k => by
  obtain ⟨rfl, w⟩ := w
  cases h
  exact ⟨rfl, k ρ σ w o (fun _ _ => rfl) fun i e l h1 h2 => ⟨h1, h2⟩⟩⟩
theorem gs_cons {e : Expr} {es : List Expr} {t : TG} {u : TGs} {is js : List Nat} {W : WG} {W' : List D → Rho → (Rho → Prop) → Prop} (h1 : DG X G e t is W) (h2 : DGs X G es u js W') (hs : (assignEach (e :: es) X.env).map (·.2) = assign e X.env :: (assignEach es X.env).map (·.2) := by rfl) :
    DGs X G (e :: es) (gCons t u) (is ++ js) (wGsC W W') :=
  ⟨pgs_cons h1.pg h2.pg hs, fun M ρ σ S H ds vs R Q o h w k => by
    cases h with
    | nil => exact w.elim
    | @cons v vr d dr hd hr =>
      refine ⟨v, vr, rfl, h1.sg M ρ σ S H d v _ _ o hd w fun ρ1 σ1 w1 o1 f1 y1 => h2.sg M ρ1 σ1 S H dr vr R Q o1 hr w1 fun ρ2 σ2 w2 o2 f2 y2 => k ρ2 σ2 w2 o2 (fun vs hv => ?_) fun i e l a b => ?_⟩
      · rw [f2 vs fun i hi => hv i (by simp [hi]), f1 vs fun i hi => hv i (by simp [hi])]
      · obtain ⟨a, b⟩ := y2 i e l a b
        exact y1 i e l a b⟩
def wGT (n : Nat) (W : List D → Rho → (Rho → Prop) → Prop) : WG := fun d ρ R => match d with
  | .tup ds => ds.length = n ∧ W ds ρ R
  | _ => False
theorem g_tup {es : List Expr} {k : Nat} {t : TGs} {n : Nat} {is : List Nat} {W : List D → Rho → (Rho → Prop) → Prop} (hK : X.K = G.K) (hc : X.calm = true) (h : DGs X G es t is W) (hn : (assignEach es X.env).length = n := by rfl) (hst : (assignEach es X.env).findIdx? (·.1) = none := by rfl) :
    DG X G (.Tuple es k pos) (gTup G.K n t) is (wGT n W) :=
  ⟨hK ▸ pg_tup hc h.pg hn hst, fun M ρ σ S H d v R Q o dn w k => by
    unfold wGT at w
    cases dn with
    | tup ha hs => exact ⟨_, _, rfl, TupAt.seqT (o.sub.seqT ha), by rw [hs.len]; exact w.1, h.sg M ρ σ S H _ _ R Q o hs w.2 k⟩
    | _ => exact w.elim⟩
end

/-! ### what is walked -/
/-- J goes over ds while A holds -/
def Iter (G : Gam) (M : Eff) (A : Hp → Hp → Prop) (J : It) (ds : List D) : Prop := ∀ S H, A S H → Bs M S H → (∀ i, ds.length ≤ i → J.stop i H) ∧ ∀ (i : Nat) d, ds[i]? = some d → J.go i H ∧ ∀ x H', J.yld i H x H' → ∃ S', Dn G S' x d ∧ Step M S H S' H'
abbrev WI := Eff → Rho → (List D → Prop) → Prop
/-- still things walked: good for every loop -/
def SI (G : Gam) (wi : TI) (W : WI) : Prop := ∀ (M : Eff) (ρ : Rho) (σ : L2.St) (S H : Hp) (R : List D → Prop) (Q : It → Hp → Prop), Ok G M ρ σ S H → W M ρ R →
  (∀ ds J S' H', R ds → Step M S H S' H' → Iter G M (fun T U => Mon S' T) J ds → Q J H') → wi σ H Q
/-- .. while the slots stand: good for comprehensions -/
def SIc (G : Gam) (wi : TI) (W : WI) : Prop := ∀ (M : Eff) (ρ : Rho) (σ : L2.St) (S H : Hp) (R : List D → Prop) (Q : It → Hp → Prop), Ok G M ρ σ S H → W M ρ R →
  (∀ ds J S' H', R ds → Step M S H S' H' → Iter G M (fun T U => Mon S' T ∧ Ok G M ρ σ T U) J ds → Q J H') → wi σ H Q
theorem SI.c {G : Gam} {wi : TI} {W : WI} (h : SI G wi W) : SIc G wi W := fun M ρ σ S H R Q o w k => h M ρ σ S H R Q o w fun ds J S' H' r s it => k ds J S' H' r s fun T U a b => it T U a.1 b
structure DI (X : Cx) (G : Gam) (tg iter : Expr) (wi : TI) (W : WI) : Prop where
  pi : PI X tg iter wi
  si : SI G wi W
structure DIc (X : Cx) (G : Gam) (tg iter : Expr) (wi : TI) (W : WI) : Prop where
  pi : PI X tg iter wi
  si : SIc G wi W
theorem DI.c {X : Cx} {G : Gam} {tg iter : Expr} {wi : TI} {W : WI} (h : DI X G tg iter wi W) : DIc X G tg iter wi W := ⟨h.pi, h.si.c⟩
section
variable {X : Cx} {G : Gam} {tg a b : Expr} {ta tb : TE} {wa wb : WE} {pos : Pos}
theorem dns_end {S : Hp} {vs : List V} {ds : List D} (h : Dns G S vs ds) {i : Nat} (hi : ds.length ≤ i) : vs.length ≤ i := by rw [h.len]; exact hi
def wILst (wa : WE) : WI := fun M ρ R => wa M ρ fun d => match d with
  | .lst ds => R ds
  | _ => False
theorem i_lst (hK : X.K = G.K) (ha : DE X G a ta wa) : DI X G tg a (iList G.K ta) (wILst wa) :=
  ⟨hK ▸ pi_list ha.pe, fun M ρ σ S H R Q o w k => ha.se M ρ σ S H _ _ o w fun d v S' H' r dn s => by
    cases dn with
    | lst hp hs =>
      refine ⟨_, rfl, ⟨_, SqL.of (s.sub.lst hp)⟩, k _ _ S' H' r s fun T U m bs => ?_⟩
      have hT := m.lst hp
      have hU := bs.sub.lst hT
      refine ⟨fun i hi => ⟨_, SqL.of hU, dns_end hs hi⟩, fun i d e => ?_⟩
      obtain ⟨v, ev, dn⟩ := hs.get e
      refine ⟨⟨_, v, SqL.of hU, ev⟩, fun x H' y => ?_⟩
      obtain ⟨rfl, y⟩ := y
      have := y _ (SqL.of hU)
      rw [ev] at this
      cases this
      exact ⟨T, dn.mono m, bs.refl⟩
    | _ => exact r.elim⟩
theorem i_lstc (hK : X.K = G.K) (ha : DC X G a ta wa) : DIc X G tg a (iList G.K ta) (wILst wa) :=
  ⟨hK ▸ pi_list ha.pe, fun M ρ σ S H R Q o w k => ha.sc M ρ σ S H _ _ o w fun d v S' H' r c s => by
    split at r
    · rename_i ds
      obtain ⟨p, vs, rfl, hp, hs⟩ := c.lst (o.step s)
      refine ⟨p, rfl, ⟨_, SqL.of hp⟩, k ds _ S' H' r s fun T U m bs => ?_⟩
      have c2 : Cur G ρ σ T (.ref p) (.lst ds) := c.elim (fun h => .inl (h.mono m.1)) .inr
      obtain ⟨p', ws, e, hU, hs2⟩ := c2.lst m.2
      cases e
      refine ⟨fun i hi => ⟨_, SqL.of hU, dns_end hs2 hi⟩, fun i d e => ?_⟩
      obtain ⟨v, ev, dn⟩ := hs2.get e
      refine ⟨⟨_, v, SqL.of hU, ev⟩, fun x H' y => ?_⟩
      obtain ⟨rfl, y⟩ := y
      have := y _ (SqL.of hU)
      rw [ev] at this
      cases this
      exact ⟨T, dn, bs.refl⟩
    · exact r.elim⟩
def wITup (wa : WE) : WI := fun M ρ R => wa M ρ fun d => match d with
  | .tup ds => R ds
  | _ => False
theorem i_tup (hK : X.K = G.K) (ha : DE X G a ta wa) : DI X G tg a (iTup G.K ta) (wITup wa) :=
  ⟨hK ▸ pi_tup ha.pe, fun M ρ σ S H R Q o w k => ha.se M ρ σ S H _ _ o w fun d v S' H' r dn s => by
    cases dn with
    | tup hp hs =>
      refine ⟨_, rfl, ⟨_, TupAt.seqT (s.sub.seqT hp)⟩, k _ _ S' H' r s fun T U m bs => ?_⟩
      have hU := TupAt.seqT (bs.sub.seqT (m.seqT hp))
      refine ⟨fun i hi => ⟨_, hU, dns_end hs hi⟩, fun i d e => ?_⟩
      obtain ⟨v, ev, dn⟩ := hs.get e
      refine ⟨⟨_, v, hU, ev⟩, fun x H' y => ?_⟩
      obtain ⟨rfl, y⟩ := y
      have := y _ hU
      rw [ev] at this
      cases this
      exact ⟨T, dn.mono m, bs.refl⟩
    | _ => exact r.elim⟩
/-- a text's signs -/
def signs (z : Str) : List D := z.cps.toList.map fun c => .str ⟨#[c]⟩
def wIStr (wa : WE) : WI := fun M ρ R => wa M ρ fun d => match d with
  | .str z => R (signs z)
  | _ => False
theorem i_str (ha : DC X G a ta wa) : DI X G tg a (iStr ta) (wIStr wa) :=
  ⟨pi_str ha.pe, fun M ρ σ S H R Q o w k => ha.sc M ρ σ S H _ _ o w fun d v S' H' r c s => by
    split at r
    · rename_i z
      refine ⟨z, c.str (o.step s), k _ _ S' H' r s fun T U m bs => ⟨fun i hi => ?_, fun i d e => ?_⟩⟩
      · show z.cps.size ≤ i
        simpa [signs] using hi
      · rw [signs, List.getElem?_map] at e
        cases q : z.cps.toList[i]? with
        | none => rw [q] at e; cases e
        | some c =>
          rw [q] at e
          cases e
          have qa : z.cps[i]? = some c := by rw [← Array.getElem?_toList]; exact q
          refine ⟨(Array.getElem?_eq_some_iff.mp qa).1, fun x H' y => ?_⟩
          obtain ⟨rfl, c', e', rfl⟩ := y
          rw [qa] at e'
          cases e'
          exact ⟨T, .str _, bs.refl⟩
    · exact r.elim⟩
/-- range(n), range(a, b) -/
def rngD (lo : Int) (n : Nat) : List D := (List.range n).map fun (i : Nat) => .int (lo + i)
theorem rngD_get {lo : Int} {n i : Nat} {d : D} (e : (rngD lo n)[i]? = some d) : i < n ∧ d = .int (lo + i) := by
  unfold rngD at e
  rw [List.getElem?_map] at e
  by_cases h : i < n
  · rw [List.getElem?_range h] at e
    cases e
    exact ⟨h, rfl⟩
  · rw [List.getElem?_eq_none (by simpa using h)] at e
    cases e
theorem iter_rng {M : Eff} {A : Hp → Hp → Prop} (lo : Int) (n : Nat) : Iter G M A (Itr lo n) (rngD lo n) := fun T U m bs => ⟨fun i hi => by
    show n ≤ i
    simpa [rngD] using hi, fun i d e => by
    obtain ⟨h, rfl⟩ := rngD_get e
    refine ⟨h, fun x H' y => ?_⟩
    obtain ⟨rfl, rfl⟩ := y
    exact ⟨T, .int _, bs.refl⟩⟩
def wIR1 (wa : WE) : WI := fun M ρ R => wa M ρ fun d => match d with
  | .int j => (-(2 ^ 62) ≤ j ∧ j < 2 ^ 62) ∧ R (rngD 0 j.toNat)
  | _ => False
theorem i_rng1 (hm : X.mg "range" = none) {p : Pos} (ha : DC X G a ta wa) (hg : Gl X "range" := by rfl) (hs : starEach [a] X.env = [(false, eval a X.env)] := by rfl) : DI X G tg (.Call (.Name "range" p) [a] [] pos) (iRng1 (tCons ta tNil)) (wIR1 wa) :=
  ⟨pi_range1 hg hm (pa_cons ha.pe pa_nil hs) hs, fun M ρ σ S H R Q o w k => ha.sc M ρ σ S H _ _ o w fun d v S' H' r c s => by
    split at r
    · rename_i j
      exact ⟨j, by rw [c.int (o.step s)], r.1.1, r.1.2, k _ _ S' H' r.2 s (iter_rng 0 j.toNat)⟩
    · exact r.elim⟩
def wIR2 (wa wb : WE) : WI := fun M ρ R => wa M ρ fun d => wb M ρ fun e => match d, e with
  | .int i, .int j => (-(2 ^ 62) ≤ i ∧ i < 2 ^ 62 ∧ -(2 ^ 62) ≤ j ∧ j < 2 ^ 62) ∧ R (rngD i (j - i).toNat)
  | _, _ => False
theorem i_rng2 (hm : X.mg "range" = none) {p : Pos} (ha : DC X G a ta wa) (hb : DC X G b tb wb) (hg : Gl X "range" := by rfl) (hs : starEach [a, b] X.env = [(false, eval a X.env), (false, eval b X.env)] := by rfl) (hs2 : starEach [b] X.env = [(false, eval b X.env)] := by rfl) : DI X G tg (.Call (.Name "range" p) [a, b] [] pos) (iRng2 (tCons ta (tCons tb tNil))) (wIR2 wa wb) :=
  ⟨pi_range2 hg hm (pa_cons ha.pe (pa_cons hb.pe pa_nil hs2) (by rw [hs, hs2])) hs hs2, fun M ρ σ S H R Q o w k => ha.sc M ρ σ S H _ _ o w fun d v S1 H1 r1 c1 s1 => hb.sc M ρ σ S1 H1 _ _ (o.step s1) r1 fun e u S2 H2 r2 c2 s2 => by
    split at r2
    · rename_i i j
      exact ⟨i, j, by rw [c1.int (o.step s1), c2.int (o.step (s1.trans s2))], r2.1, k _ _ S2 H2 r2.2 (s1.trans s2) (iter_rng i _)⟩
    · exact r2.elim⟩
/-- enumerate of a list -/
def enum (n : Nat) : List D → List D
  | [] => []
  | d :: r => .tup [.int n, d] :: enum (n + 1) r
theorem enum_len : ∀ (n : Nat) (ds : List D), (enum n ds).length = ds.length
  | _, [] => rfl
  | n, _ :: r => congrArg (· + 1) (enum_len (n + 1) r)
theorem enum_get : ∀ {n i : Nat} {ds : List D} {d : D}, (enum n ds)[i]? = some d → ∃ x, ds[i]? = some x ∧ d = .tup [.int ((n + i : Nat) : Int), x]
  | n, i, [], d, e => by simp [enum] at e
  | n, 0, x :: r, d, e => by
    simp [enum] at e
    exact ⟨x, rfl, by rw [← e]; rfl⟩
  | n, i + 1, x :: r, d, e => by
    obtain ⟨y, h1, h2⟩ := enum_get (n := n + 1) (i := i) (ds := r) (d := d) (by simpa [enum] using e)
    refine ⟨y, by simpa using h1, ?_⟩
    rw [h2, show n + 1 + i = n + (i + 1) by omega]
def wIEn (wa : WE) : WI := fun M ρ R => wa M ρ fun d => match d with
  | .lst ds => R (enum 0 ds)
  | _ => False
theorem i_enum {es : List Expr} {kk : Nat} {tpos : Pos} (hK : X.K = G.K) (hm : X.mg "enumerate" = none) {p : Pos} (ha : DE X G a ta wa) (hg : Gl X "enumerate" := by rfl) (hs : starEach [a] X.env = [(false, eval a X.env)] := by rfl) : DI X G (.Tuple es kk tpos) (.Call (.Name "enumerate" p) [a] [] pos) (iEnum G.K (tCons ta tNil)) (wIEn wa) :=
  ⟨hK ▸ pi_enum hg hm (pa_cons ha.pe pa_nil hs) hs, fun M ρ σ S H R Q o w k => ha.se M ρ σ S H _ _ o w fun d v S' H' r dn s => by
    cases dn with
    | lst hp hds =>
      refine ⟨_, _, rfl, SqL.of (s.sub.lst hp), k _ _ S' H' r s fun T U m bs => ?_⟩
      have hU := bs.sub.lst (m.lst hp)
      refine ⟨fun i hi => ⟨_, SqL.of hU, dns_end hds (by rw [enum_len] at hi; exact hi)⟩, fun i d e => ?_⟩
      obtain ⟨x, ex, rfl⟩ := enum_get e
      obtain ⟨v, ev, dn⟩ := hds.get ex
      refine ⟨⟨_, v, SqL.of hU, ev⟩, fun z H' y => ?_⟩
      obtain ⟨p', w', rfl, hT, rfl, y⟩ := y
      have := y _ (SqL.of hU)
      rw [ev] at this
      cases this
      have st := bs.laid hT (.tup [.int (i : Nat), v])
      refine ⟨_, ?_, st⟩
      rw [Nat.zero_add]
      exact .tup upd_same (.cons (.int _) (.cons ((dn.mono m).mono st.mono) .nil))
    | _ => exact r.elim⟩
/-- zip of two lists -/
def zipD : List D → List D → List D
  | d :: r, e :: s => .tup [d, e] :: zipD r s
  | _, _ => []
theorem zip_len : ∀ (ds es : List D), (zipD ds es).length = min ds.length es.length
  | [], es => by simp [zipD]
  | _ :: _, [] => by simp [zipD]
  | _ :: r, _ :: s => by simp [zipD, zip_len r s]
theorem zip_get : ∀ {i : Nat} {ds es : List D} {d : D}, (zipD ds es)[i]? = some d → ∃ x y, ds[i]? = some x ∧ es[i]? = some y ∧ d = .tup [x, y]
  | i, [], es, d, e => by simp [zipD] at e
  | i, _ :: _, [], d, e => by simp [zipD] at e
  | 0, x :: r, y :: s, d, e => by
    simp [zipD] at e
    exact ⟨x, y, rfl, rfl, e.symm⟩
  | i + 1, x :: r, y :: s, d, e => by
    obtain ⟨x', y', h1, h2, h3⟩ := zip_get (i := i) (ds := r) (es := s) (d := d) (by simpa [zipD] using e)
    exact ⟨x', y', by simpa using h1, by simpa using h2, h3⟩
def wIZip (wa wb : WE) : WI := fun M ρ R => wa M ρ fun d => wb M ρ fun e => match d, e with
  | .lst ds, .lst es => R (zipD ds es)
  | .tup ds, .tup es => R (zipD ds es)
  | _, _ => False
theorem i_zip {es : List Expr} {kk : Nat} {tpos : Pos} (hK : X.K = G.K) (hm : X.mg "zip" = none) {p : Pos} (ha : DE X G a ta wa) (hb : DE X G b tb wb) (hg : Gl X "zip" := by rfl) (hs : starEach [a, b] X.env = (false, eval a X.env) :: starEach [b] X.env := by rfl)
    (hs2 : starEach [b] X.env = (false, eval b X.env) :: starEach [] X.env := by rfl) (hpl : (backTo pos (starEach [b] X.env)).any (·.1) = false := by rfl) : DI X G (.Tuple es kk tpos) (.Call (.Name "zip" p) [a, b] [] pos) (RZ.iZipA G.K (tCons ta (tCons tb tNil))) (wIZip wa wb) :=
  ⟨hK ▸ RZ.pi_zipA hg hm (pa_cons ha.pe (pa_cons hb.pe pa_nil hs2) hs) hs hpl, fun M ρ σ S H R Q o w k => ha.se M ρ σ S H _ _ o w fun d v S1 H1 r1 dn s1 => hb.se M ρ σ S1 H1 _ _ (o.step s1) r1 fun e u S2 H2 r2 en s2 => by
    have s := s1.trans s2
    have dn2 := dn.mono s2.mono
    split at r2
    · cases dn2 with
      | lst hp hds =>
        cases en with
        | lst hq hes =>
          refine ⟨_, _, _, _, rfl, .inl ⟨SqL.of (s.sub.lst hp), SqL.of (s.sub.lst hq), k _ _ S2 H2 r2 s fun T U m bs => ?_⟩⟩
          have h1 := SqL.of (K := G.K) (bs.sub.lst (m.lst hp))
          have h2 := SqL.of (K := G.K) (bs.sub.lst (m.lst hq))
          refine ⟨fun i hi => ⟨_, _, h1, h2, ?_⟩, fun i d e => ?_⟩
          · rw [zip_len] at hi
            rw [hds.len, hes.len]
            omega
          · obtain ⟨x, y, ex, ey, rfl⟩ := zip_get e
            obtain ⟨v, ev, dv⟩ := hds.get ex
            obtain ⟨u, eu, du⟩ := hes.get ey
            refine ⟨⟨_, _, v, u, h1, h2, ev, eu⟩, fun z H' yy => ?_⟩
            obtain ⟨p', v', u', rfl, hT, rfl, y1, y2⟩ := yy
            have q1 := y1 _ h1
            have q2 := y2 _ h2
            rw [ev] at q1
            rw [eu] at q2
            cases q1
            cases q2
            have st := bs.laid hT (.tup [v, u])
            exact ⟨_, .tup upd_same (.cons ((dv.mono m).mono st.mono) (.cons ((du.mono m).mono st.mono) .nil)), st⟩
    · cases dn2 with
      | tup hp hds =>
        cases en with
        | tup hq hes =>
          refine ⟨_, _, _, _, rfl, .inr ⟨TupAt.seqT (s.sub.seqT hp), TupAt.seqT (s.sub.seqT hq), k _ _ S2 H2 r2 s fun T U m bs => ?_⟩⟩
          have h1 := TupAt.seqT (bs.sub.seqT (m.seqT hp))
          have h2 := TupAt.seqT (bs.sub.seqT (m.seqT hq))
          refine ⟨fun i hi => ⟨_, _, h1, h2, ?_⟩, fun i d e => ?_⟩
          · rw [zip_len] at hi
            rw [hds.len, hes.len]
            omega
          · obtain ⟨x, y, ex, ey, rfl⟩ := zip_get e
            obtain ⟨v, ev, dv⟩ := hds.get ex
            obtain ⟨u, eu, du⟩ := hes.get ey
            refine ⟨⟨_, _, v, u, h1, h2, ev, eu⟩, fun z H' yy => ?_⟩
            obtain ⟨p', v', u', rfl, hT, rfl, y1, y2⟩ := yy
            have q1 := y1 _ h1
            have q2 := y2 _ h2
            rw [ev] at q1
            rw [eu] at q2
            cases q1
            cases q2
            have st := bs.laid hT (.tup [v, u])
            exact ⟨_, .tup upd_same (.cons ((dv.mono m).mono st.mono) (.cons ((du.mono m).mono st.mono) .nil)), st⟩
    · exact r2.elim⟩
end
end HB
namespace HB
open PySem L2

/-! ### comprehensions -/
theorem wipe_idem (σ : L2.St) : ∀ vs : List Nat, L2.wipe (L2.wipe σ vs) vs = L2.wipe σ vs := by
  have key : ∀ (vs : List Nat) (i : Nat), i ∈ vs → ∀ τ : L2.St, (L2.wipe τ vs).set i none = L2.wipe τ vs := by
    intro vs
    induction vs with
    | nil => intro i h; cases h
    | cons v vs ih =>
      intro i h τ
      show ((L2.wipe τ vs).set v none).set i none = (L2.wipe τ vs).set v none
      by_cases q : v = i
      · subst q
        rw [List.set_set]
      · rcases List.mem_cons.mp h with e | e
        · exact absurd e.symm q
        · rw [List.set_comm _ _ q, ih i e]
  have sub : ∀ (ws vs : List Nat), (∀ i ∈ ws, i ∈ vs) → L2.wipe (L2.wipe σ vs) ws = L2.wipe σ vs := by
    intro ws
    induction ws with
    | nil => intro _ _; rfl
    | cons w ws ih =>
      intro vs h
      show (L2.wipe (L2.wipe σ vs) ws).set w none = L2.wipe σ vs
      rw [ih vs fun i hi => h i (by simp [hi])]
      exact key vs w (h w (by simp)) σ
  exact fun vs => sub vs vs fun _ h => h
structure DTs (X : Cx) (G : Gam) (ifs : List Expr) (t : TT) (W : WT) : Prop where
  pts : PTs X ifs t
  st : ST G t W
def wYes : WT := fun _ _ R => R true
section
variable {X : Cx} {G : Gam} {a b c : Expr} {ta tb tc : TE} {wa wb wc : WE} {pos : Pos}
theorem ts_nil : DTs X G [] tYes wYes := ⟨pts_nil, fun M ρ σ S H R Q o w k => k true S H w o.refl⟩
theorem ts_one {t : TT} {W : WT} (h : DT X G a t W) : DTs X G [a] t W := ⟨pts_one h.pt, h.st⟩
def lcW (bind : WG) (tst : Rho → (Bool → Prop) → Prop) (elt : Rho → (D → Prop) → Prop) (ρ : Rho) : List D → (List D → Prop) → Prop
  | [], R => R []
  | d :: r, R => bind d ρ fun ρ' => tst ρ' fun b => if b = true then elt ρ' fun y => lcW bind tst elt ρ r fun ys => R (y :: ys) else lcW bind tst elt ρ r R
def wLC (wi : WI) (bg : WG) (wt : WT) (we : WE) (vs : List Nat) : WE := fun M ρ R => wi M ρ fun ds => ds.length ≤ LIM ∧ lcW bg (wt M) (we M) (wipeR ρ vs) ds fun ys => R (.lst ys)
theorem sn_lc {wi : TI} {g : TG} {tt : TT} {te : TE} {WIw : WI} {bg : WG} {wt : WT} {we : WE} {is vs : List Nat} (hi : SIc G wi WIw) (hg : SG G g is bg) (ht : ST G tt wt) (he : SE G te we) (hsub : ∀ i ∈ is, i ∈ vs) : SN G (tLc wi g tt te vs) (wLC WIw bg wt we vs) := fun M ρ σ S H R Q o w k =>
  hi M ρ σ S H _ _ o w fun ds J S1 H1 r s1 it => by
    obtain ⟨hlen, r⟩ := r
    intro Dp hD
    have o1 := o.step s1
    have sD : S1 Dp = none := o1.sub.free hD
    have fD : ¬ M.F Dp := fun f => M.dom H1 o1.j Dp f hD
    have hne := o1.own_ne hD
    have H0D : H Dp = none := by
      cases q : H Dp with
      | none => rfl
      | some u => exact absurd hD (s1.there Dp (by rw [q]; simp))
    let P : Nat → Hp → Prop := fun i T => i ≤ ds.length ∧ ∃ (Si : Hp) (acc : List V) (ac : List D), T Dp = some (.lst acc) ∧ Dns G Si acc ac ∧ ac.length ≤ i ∧ Si Dp = none ∧ Step M S1 H1 Si T ∧ Ok G M ρ σ Si T ∧ lcW bg (wt M) (we M) (wipeR ρ vs) (ds.drop i) fun ys => R (.lst (ac ++ ys))
    refine ⟨fun i m T => m = ds.length - i ∧ P i T, ⟨ds.length, by simp, Nat.zero_le _, S1, [], [], upd_same, .nil, Nat.le_refl _, sD, o1.laidO hD _, o1.step (o1.laidO hD _), by simpa using r⟩, ?_⟩
    rintro i m T ⟨rfl, hi, Si, acc, ac, hT, hac, hal, hSi, st, ok, rr⟩
    obtain ⟨stop, go⟩ := it Si T ⟨st.mono, ok⟩ ok.bs
    by_cases hlt : i < ds.length
    · have e : ds[i]? = some ds[i] := List.getElem?_eq_getElem hlt
      obtain ⟨g1, y1⟩ := go i _ e
      rw [List.drop_eq_getElem_cons hlt] at rr
      refine .inr ⟨g1, P (i + 1), fun H' p' => ⟨ds.length - (i + 1), by omega, rfl, p'⟩, fun x T' y => ?_⟩
      obtain ⟨S2, dn, s2⟩ := y1 x T' y
      have ok2 := ok.step s2
      refine hg M (wipeR ρ vs) (L2.wipe σ vs) S2 T' _ x _ _ (ok2.wipe vs) dn rr fun ρ' σ' r' o' fr _ => ⟨by rw [fr vs hsub, wipe_idem], ?_⟩
      refine ht M ρ' σ' S2 T' _ _ o' r' fun b S3 H3 r3 s3 => ?_
      have s23 := s2.trans s3
      cases b with
      | true =>
        rw [if_pos rfl] at r3 ⊢
        refine he M ρ' σ' S3 H3 _ _ (o'.step s3) r3 fun yd v S4 H4 r4 dn4 s4 => ?_
        have s24 := s23.trans s4
        have h4 : H4 Dp = some (.lst acc) := s24.keep Dp _ fD hT
        have n4 : S4 Dp = none := by
          cases q : S4 Dp with
          | none => rfl
          | some u =>
            rcases s24.fresh Dp u q with ⟨u', z⟩ | z
            · rw [hSi] at z; cases z
            · rw [hT] at z; cases z
        have hl : acc.length ≤ i := by rw [hac.len]; exact hal
        have hlim : LIM = 1000000 := rfl
        refine ⟨acc, h4, lim1 (by omega), hlt, S4, acc ++ [v], ac ++ [yd], upd_same, (hac.mono s24.mono).append (.one dn4), by rw [List.length_append]; simpa using hal, n4, (st.trans s24).mut hD n4 fD _, (ok.step s24).mut n4 fD hne _, by simpa using r4⟩
      | false =>
        rw [if_neg (by simp)] at r3 ⊢
        have h3 : H3 Dp = some (.lst acc) := s23.keep Dp _ fD hT
        have n3 : S3 Dp = none := by
          cases q : S3 Dp with
          | none => rfl
          | some u =>
            rcases s23.fresh Dp u q with ⟨u', z⟩ | z
            · rw [hSi] at z; cases z
            · rw [hT] at z; cases z
        exact ⟨hlt, S3, acc, ac, h3, hac.mono s23.mono, by omega, n3, st.trans s23, ok.step s23, r3⟩
    · have e : i = ds.length := by omega
      subst e
      rw [List.drop_length] at rr
      have rr : R (.lst (ac ++ [])) := rr
      rw [List.append_nil] at rr
      exact .inl ⟨stop _ (Nat.le_refl _), k _ Dp Si T rr H0D hSi ⟨acc, hT, hac⟩ (s1.trans st)⟩
theorem d_lc {elt tg iter : Expr} {ifs : List Expr} {scope : Scope} {own : List (Str × Nat)} {wi : TI} {g : TG} {tt : TT} {te : TE} {WIw : WI} {bg : WG} {wt : WT} {we : WE} {is : List Nat} (hc : X.calm = true) (hN : X.N.Nodup) (hi : DIc X G tg iter wi WIw) (ok : BlkOk X.N X.env.scope scope own)
    (hg : ∀ (s : Shared) (H : Hp) (C : Addr) (cl : List (Str × Addr)) (fp : List Addr), DG (X.blk s H scope (compEnvC scope cl C X.env) fp) G tg g is bg) (ht : ∀ (s : Shared) (H : Hp) (C : Addr) (cl : List (Str × Addr)) (fp : List Addr), DTs (X.blk s H scope (compEnvC scope cl C X.env) fp) G ifs tt wt)
    (he : ∀ (s : Shared) (H : Hp) (C : Addr) (cl : List (Str × Addr)) (fp : List Addr), DE (X.blk s H scope (compEnvC scope cl C X.env) fp) G elt te we) (hsub : ∀ i ∈ is, i ∈ own.map (·.2) := by decide) (hs : ∀ x, foldedSetIterable iter X.env x = pure x := by intro _; rfl) :
    DN X G (.ListComp elt [⟨tg, iter, ifs, 0⟩] scope pos) (tLc wi g tt te (own.map (·.2))) (wLC WIw bg wt we (own.map (·.2))) :=
  ⟨pe_lc hc hN hi.pi ok (fun s H C cl fp => (hg s H C cl fp).pg) (fun s H C cl fp => (ht s H C cl fp).pts) (fun s H C cl fp => (he s H C cl fp).pe) hs,
    sn_lc hi.si (hg X.s_0 X.H_0 0 [] []).sg (ht X.s_0 X.H_0 0 [] []).st (he X.s_0 X.H_0 0 [] []).se hsub⟩

/-- where each element is one value: the plain reading -/
theorem lcW_map {bind : WG} {tst : Rho → (Bool → Prop) → Prop} {elt : Rho → (D → Prop) → Prop} {ρ : Rho} {p : D → Bool} {f : D → D} : ∀ {ds : List D} {R : List D → Prop},
    (∀ d ∈ ds, ∀ R' : Rho → Prop, (∀ ρ', (∀ T, T (p d) → tst ρ' T) → (p d = true → ∀ T, T (f d) → elt ρ' T) → R' ρ') → bind d ρ R') → R ((ds.filter p).map f) → lcW bind tst elt ρ ds R
  | [], R, _, r => r
  | d :: ds, R, h, r => by
    refine h d (by simp) _ fun ρ' h1 h2 => h1 _ ?_
    cases q : p d with
    | true =>
      rw [if_pos rfl]
      refine h2 q _ (lcW_map (fun e he => h e (by simp [he])) ?_)
      simpa [List.filter_cons, q] using r
    | false =>
      rw [if_neg (by simp)]
      refine lcW_map (fun e he => h e (by simp [he])) ?_
      simpa [List.filter_cons, q] using r
end
end HB
namespace HB
open PySem L2

section
variable {G : Gam} {M : Eff} {S0 H0 Sb S1 : Hp} {ρ : Rho} {σ : L2.St} {S H S' H' : Hp}
theorem Stt.step (z : Stt G M S0 H0 Sb ρ σ S H) (t : Step M S H S' H') : Stt G M S0 H0 Sb ρ σ S' H' := ⟨z.ok.step t, z.st.trans t, z.yg, z.mo.trans t.mono⟩
theorem Stt.set (z : Stt G M S0 H0 Sb ρ σ S H) (i : Nat) {v : V} {d : D} (h : Dn G S v d) : Stt G M S0 H0 Sb (ρ.set i (.dat d)) (σ.set i (some v)) S H :=
  ⟨z.ok.set i h, z.st, fun j e l a b => let ⟨a, b⟩ := set_own j e l a b; z.yg j e l a b, z.mo⟩
theorem Stt.none0 (z : Stt G M S0 H0 Sb ρ σ S H) {l : Addr} (h : H l = none) : H0 l = none := by
  cases q : H0 l with
  | none => rfl
  | some u => exact absurd h (z.st.there l (by rw [q]; simp))
theorem Stt.base (z : Stt G M S0 H0 Sb ρ σ S H) (m : Mon S1 S) : Stt G M S0 H0 S1 ρ σ S H := ⟨z.ok, z.st, z.yg, m⟩
/-- a slot gets a new thing of one's own -/
theorem Stt.setOwn (z : Stt G M S0 H0 Sb ρ σ S H) (i : Nat) {l : Addr} {d : D} (h0 : H0 l = none) (hs : S l = none) (hf : ¬ M.F l) (h : OwnAt G S H l d) (hn : ∀ (j : Nat) e, ρ[j]? = some (.own e) → σ[j]? = some (some (.ref l)) → j = i) : Stt G M S0 H0 Sb (ρ.set i (.own d)) (σ.set i (some (.ref l))) S H :=
  ⟨z.ok.setOwn i hs hf h hn, z.st, fun j e m a b => by
    by_cases q : i = j
    · subst q
      have hi : i < ρ.length := by
        have := (List.getElem?_eq_some_iff.mp a).1
        simpa using this
      rw [List.getElem?_set_self (by rw [z.ok.len]; exact hi)] at b
      cases b
      exact h0
    · rw [List.getElem?_set_ne q] at a b
      exact z.yg j e m a b, z.mo⟩
theorem set_same {α : Type} {l : List α} {i : Nat} {x : α} (h : l[i]? = some x) : l.set i x = l := by
  refine List.ext_getElem? fun j => ?_
  by_cases q : i = j
  · subst q
    rw [List.getElem?_set_self (List.getElem?_eq_some_iff.mp h).1, h]
  · rw [List.getElem?_set_ne q]
/-- one's own thing in slot i is changed -/
theorem Stt.put (z : Stt G M S0 H0 Sb ρ σ S H) {i : Nat} {l : Addr} {d e : D} {u : HO} (hi : ρ[i]? = some (.own d)) (hl : σ[i]? = some (some (.ref l))) (h : OwnAt G S (upd H l u) l e) : Stt G M S0 H0 Sb (ρ.set i (.own e)) σ S (upd H l u) := by
  obtain ⟨l', e1, hs, hf, ow⟩ := z.ok.ev i _ hi
  rw [hl] at e1
  cases e1
  have h0 := z.yg i d l hi hl
  have hσ : σ.set i (some (.ref l)) = σ := set_same hl
  refine ⟨?_, z.st.mut h0 hs hf u, fun j e' m a b => ?_, z.mo⟩
  · -- first forget slot i, then write, then set it
    have o1 : Ok G M (ρ.set i .no) (σ.set i none) S H := z.ok.wipe [i]
    have o2 := o1.mut hs hf (fun j e' a b => by
      by_cases q : i = j
      · subst q
        have hi : i < ρ.length := (List.getElem?_eq_some_iff.mp hi).1
        rw [List.getElem?_set_self hi] at a
        cases a
      · rw [List.getElem?_set_ne q] at a b
        exact q (z.ok.dist i j d e' l hi a hl b)) u
    have o3 := o2.setOwn i (d := e) hs hf h fun j e' a b => by
      by_cases q : i = j
      · exact q.symm
      · rw [List.getElem?_set_ne q] at a b
        exact absurd (z.ok.dist i j d e' l hi a hl b) q
    rw [List.set_set, List.set_set, hσ] at o3
    exact o3
  · by_cases q : i = j
    · subst q
      rw [hl] at b
      cases b
      exact h0
    · rw [List.getElem?_set_ne q] at a
      exact z.yg j e' m a b
end

/-! ### statements -/
section
variable {X : Cx} {G : Gam} {a b c : Expr} {ta tb tc : TE} {wa wb wc : WE} {pos : Pos} {st : Stmt} {rest : List Stmt} {t u : TS} {W W' : WS}
def wNext : WS := fun _ N ρ => N.nx ρ
def wSeq (W W' : WS) : WS := fun M N ρ => W M { N with nx := fun ρ' => W' M N ρ' } ρ
theorem ss_nil : DSs X G [] tNext wNext := ⟨pss_nil, fun M S0 H0 Sb ρ σ S H D N z L w => L.nx _ _ _ _ z w⟩
theorem ss_cons (h1 : DS X G st t W) (h2 : DSs X G rest u W') : DSs X G (st :: rest) (tSeq t u) (wSeq W W') :=
  ⟨pss_cons h1.ps h2.ps, fun M S0 H0 Sb ρ σ S H D N z L w => h1.ss M S0 H0 Sb ρ σ S H { D with nx := u D } { N with nx := fun ρ' => W' M N ρ' } z ⟨fun ρ σ S H z w => h2.ss M S0 H0 Sb ρ σ S H D N z L w, L.rt, L.bk, L.ct⟩ w⟩
theorem ss_one (h1 : DS X G st t W) : DSs X G [st] t W := ⟨pss_one h1.ps, h1.ss⟩
theorem s_pass : DS X G (.Pass pos) tNext wNext := ⟨ps_pass, fun M S0 H0 Sb ρ σ S H D N z L w => L.nx _ _ _ _ z w⟩
theorem s_doc {x : Str} {j pos'} : DS X G (.Expr (.Constant (.str x) j pos) pos') tNext wNext := ⟨ps_doc, fun M S0 H0 Sb ρ σ S H D N z L w => L.nx _ _ _ _ z w⟩
def wBrk : WS := fun _ N ρ => N.bk ρ
def wCnt : WS := fun _ N ρ => N.ct ρ
def wRetN : WS := fun _ N _ => N.rt .non
theorem s_break : DS X G (.Break pos) tBreak wBrk := ⟨ps_break, fun M S0 H0 Sb ρ σ S H D N z L w => L.bk _ _ _ _ z w⟩
theorem s_cont : DS X G (.Continue pos) tCont wCnt := ⟨ps_continue, fun M S0 H0 Sb ρ σ S H D N z L w => L.ct _ _ _ _ z w⟩
/-- never reached -/
theorem s_never : DS X G st tNever (fun _ _ _ => False) := ⟨ps_never, fun M S0 H0 Sb ρ σ S H D N z L w => w.elim⟩
def wSet (i : Nat) (wa : WE) : WS := fun M N ρ => wa M ρ fun d => N.nx (ρ.set i (.dat d))
def wNew (i : Nat) (wa : WE) : WS := fun M N ρ => wa M ρ fun d => N.nx (ρ.set i (.own d))
theorem ss_set (i : Nat) (h : SE G ta wa) : SS G (tAsg ta (gName i)) (wSet i wa) := fun M S0 H0 Sb ρ σ S H D N z L w => h M ρ σ S H _ _ z.ok w fun d v S' H' r dn st => L.nx _ _ _ _ ((z.step st).set i dn) r
theorem ss_new (i : Nat) (h : SN G ta wa) : SS G (tAsg ta (gName i)) (wNew i wa) := fun M S0 H0 Sb ρ σ S H D N z L w => h M ρ σ S H _ _ z.ok w fun d l S' H' r hl hs ow st =>
  L.nx _ _ _ _ ((z.step st).setOwn i (z.none0 hl) hs (fun f => M.dom H z.ok.j l f hl) ow fun j e x y => absurd y (z.ok.own_ne hl j e x)) r
theorem s_set (i : Nat) {x : Str} {pos' : Pos} (hN : X.N.Nodup) (ha : DE X G a ta wa) (hi : X.N[i]? = some x := by rfl) (hx : Loc X.env.scope x := by first | exact Or.inl rfl | exact Or.inr rfl) (hs : swapsWith a (some (.Name x pos')) pos.line X.env = pure false := by rfl)
    (hf : X.fn x = true ∨ X.env.scope.names.lookup x = some .local := by first | exact .inl rfl | exact .inr rfl | assumption) : DS X G (.Assign [.Name x pos'] a pos) (tAsg ta (gName i)) (wSet i wa) := ⟨ps_set hN hi hx ha.pe hs hf, ss_set i ha.se⟩
theorem s_new (i : Nat) {x : Str} {pos' : Pos} (hN : X.N.Nodup) (ha : DN X G a ta wa) (hi : X.N[i]? = some x := by rfl) (hx : Loc X.env.scope x := by first | exact Or.inl rfl | exact Or.inr rfl) (hs : swapsWith a (some (.Name x pos')) pos.line X.env = pure false := by rfl)
    (hf : X.fn x = true ∨ X.env.scope.names.lookup x = some .local := by first | exact .inl rfl | exact .inr rfl | assumption) : DS X G (.Assign [.Name x pos'] a pos) (tAsg ta (gName i)) (wNew i wa) := ⟨ps_set hN hi hx ha.pe hs hf, ss_new i ha.sn⟩
/-- x = [..] of a comprehension, on one line -/
theorem sn_setLc (i : Nat) {y : Str} {py : Pos} {elt tg iter : Expr} {ifs : List Expr} {scope : Scope} {own : List (Str × Nat)} {spos : Pos} {wi : TI} {g : TG} {tt : TT} {te : TE} {WIw : WI} {bg : WG} {wt : WT} {we : WE} {is : List Nat} (hc : X.calm = true) (hN : X.N.Nodup) (hyl : X.env.scope.names.lookup y = some .local)
    (hsw : swapsWith (.ListComp elt [⟨tg, iter, ifs, 0⟩] scope pos) (some (.Name y py)) spos.line X.env = pure true) (hi : DIc X G tg iter wi WIw) (ok : BlkOk X.N X.env.scope scope own)
    (hg : ∀ (s : Shared) (H : Hp) (C : Addr) (cl : List (Str × Addr)) (fp : List Addr), DG (X.blk s H scope (compEnvC scope cl C X.env) fp) G tg g is bg) (ht : ∀ (s : Shared) (H : Hp) (C : Addr) (cl : List (Str × Addr)) (fp : List Addr), DTs (X.blk s H scope (compEnvC scope cl C X.env) fp) G ifs tt wt)
    (he : ∀ (s : Shared) (H : Hp) (C : Addr) (cl : List (Str × Addr)) (fp : List Addr), DE (X.blk s H scope (compEnvC scope cl C X.env) fp) G elt te we) (hsub : ∀ i ∈ is, i ∈ own.map (·.2) := by decide) (hs : ∀ x, foldedSetIterable iter X.env x = pure x := by intro _; rfl) (hy : X.N[i]? = some y := by rfl) :
    DS X G (.Assign [.Name y py] (.ListComp elt [⟨tg, iter, ifs, 0⟩] scope pos) spos) (tAsg (tLc wi g tt te (own.map (·.2))) (gName i)) (wNew i (wLC WIw bg wt we (own.map (·.2)))) :=
  ⟨ps_setLc hc hN hy hyl hsw hi.pi ok (fun s H C cl fp => (hg s H C cl fp).pg) (fun s H C cl fp => (ht s H C cl fp).pts) (fun s H C cl fp => (he s H C cl fp).pe) hs,
    ss_new i (sn_lc hi.si (hg X.s_0 X.H_0 0 [] []).sg (ht X.s_0 X.H_0 0 [] []).st (he X.s_0 X.H_0 0 [] []).se hsub)⟩
theorem ds_setLc (i : Nat) {y : Str} {py : Pos} {elt tg iter : Expr} {ifs : List Expr} {scope : Scope} {own : List (Str × Nat)} {spos : Pos} {wi : TI} {g : TG} {tt : TT} {te : TE} {WIw : WI} {bg : WG} {wt : WT} {we : WE} {is : List Nat} (hc : X.calm = true) (hN : X.N.Nodup) (hyl : X.env.scope.names.lookup y = some .local)
    (hsw : swapsWith (.ListComp elt [⟨tg, iter, ifs, 0⟩] scope pos) (some (.Name y py)) spos.line X.env = pure true) (hi : DIc X G tg iter wi WIw) (ok : BlkOk X.N X.env.scope scope own)
    (hg : ∀ (s : Shared) (H : Hp) (C : Addr) (cl : List (Str × Addr)) (fp : List Addr), DG (X.blk s H scope (compEnvC scope cl C X.env) fp) G tg g is bg) (ht : ∀ (s : Shared) (H : Hp) (C : Addr) (cl : List (Str × Addr)) (fp : List Addr), DTs (X.blk s H scope (compEnvC scope cl C X.env) fp) G ifs tt wt)
    (he : ∀ (s : Shared) (H : Hp) (C : Addr) (cl : List (Str × Addr)) (fp : List Addr), DE (X.blk s H scope (compEnvC scope cl C X.env) fp) G elt te we) (hsub : ∀ i ∈ is, i ∈ own.map (·.2) := by decide) (hs : ∀ x, foldedSetIterable iter X.env x = pure x := by intro _; rfl) (hy : X.N[i]? = some y := by rfl) :
    DS X G (.Assign [.Name y py] (.ListComp elt [⟨tg, iter, ifs, 0⟩] scope pos) spos) (tAsg (tLc wi g tt te (own.map (·.2))) (gName i)) (wSet i (wLC WIw bg wt we (own.map (·.2)))) :=
  ⟨ps_setLc hc hN hy hyl hsw hi.pi ok (fun s H C cl fp => (hg s H C cl fp).pg) (fun s H C cl fp => (ht s H C cl fp).pts) (fun s H C cl fp => (he s H C cl fp).pe) hs,
    ss_set i (sn_lc hi.si (hg X.s_0 X.H_0 0 [] []).sg (ht X.s_0 X.H_0 0 [] []).st (he X.s_0 X.H_0 0 [] []).se hsub).e⟩
/-- a target of several names -/
def wAsg (wa : WE) (bg : WG) : WS := fun M N ρ => wa M ρ fun d => bg d ρ N.nx
theorem s_asg {tg : Expr} {g : TG} {is : List Nat} {bg : WG} (ha : DE X G a ta wa) (hg : DG X G tg g is bg) (hs : swapsWithSole [tg] a pos.line X.env = pure false := by rfl) (hw : swappedStores [tg] a X.env = pure none := by rfl) (h1 : (assignEach [tg] X.env).map (·.2) = [assign tg X.env] := by rfl) : DS X G (.Assign [tg] a pos) (tAsg ta g) (wAsg wa bg) :=
  ⟨ps_asg ha.pe hg.pg hs hw h1, fun M S0 H0 Sb ρ σ S H D N z L w => ha.se M ρ σ S H _ _ z.ok w fun d v S' H' r dn st => hg.sg M ρ σ S' H' d v _ _ (z.ok.step st) dn r fun ρ' σ' r' o' _ y' =>
    L.nx _ _ _ _ ⟨o', z.st.trans st, fun i e l a b => let ⟨a, b⟩ := y' i e l a b; z.yg i e l a b, z.mo.trans st.mono⟩ r'⟩
/-- x, y = a, b -/
def wPar (i j : Nat) (wa wb : WE) : WS := fun M N ρ => wa M ρ fun d => wb M ρ fun e => N.nx ((ρ.set i (.dat d)).set j (.dat e))
theorem s_par (i j : Nat) {x y : Str} {px py pt : Pos} {kt k2 pt2} (hc : X.calm = true) (hN : X.N.Nodup) (ha : DE X G a ta wa) (hb : DE X G b tb wb) (hi : X.N[i]? = some x := by rfl) (hj : X.N[j]? = some y := by rfl) (hij : i ≠ j := by decide) (hx : X.env.scope.names.lookup x = some .local := by rfl) (hy : X.env.scope.names.lookup y = some .local := by rfl)
    (hw : swappedStores [.Tuple [.Name x px, .Name y py] kt pt] (.Tuple [a, b] k2 pt2) X.env = pure (some [x, y]) := by rfl) (hs : swapsWithSole [.Tuple [.Name x px, .Name y py] kt pt] (.Tuple [a, b] k2 pt2) pos.line X.env = pure false := by rfl)
    (hq : starEach [a, b] X.env = (false, eval a X.env) :: starEach [b] X.env := by rfl) (hq2 : starEach [b] X.env = (false, eval b X.env) :: starEach [] X.env := by rfl) :
    DS X G (.Assign [.Tuple [.Name x px, .Name y py] kt pt] (.Tuple [a, b] k2 pt2) pos) (tPar i j (tCons ta (tCons tb tNil))) (wPar i j wa wb) :=
  ⟨ps_par hc hN hi hj hij hx hy (pa_cons ha.pe (pa_cons hb.pe pa_nil hq2) hq) hw hs, fun M S0 H0 Sb ρ σ S H D N z L w => ha.se M ρ σ S H _ _ z.ok w fun d v S1 H1 r1 dn1 s1 => hb.se M ρ σ S1 H1 _ _ (z.ok.step s1) r1 fun e v2 S2 H2 r2 dn2 s2 =>
    ⟨v, v2, rfl, L.nx _ _ _ _ (((z.step (s1.trans s2)).set i (dn1.mono s2.mono)).set j dn2) r2⟩⟩
/-- one or both of one's own -/
def wParNE (i j : Nat) (wa wb : WE) : WS := fun M N ρ => wa M ρ fun d => wb M ρ fun e => N.nx ((ρ.set i (.own d)).set j (.dat e))
def wParEN (i j : Nat) (wa wb : WE) : WS := fun M N ρ => wa M ρ fun d => wb M ρ fun e => N.nx ((ρ.set i (.dat d)).set j (.own e))
theorem s_parEN (i j : Nat) {x y : Str} {px py pt : Pos} {kt k2 pt2} (hc : X.calm = true) (hN : X.N.Nodup) (ha : DE X G a ta wa) (hb : DN X G b tb wb) (hi : X.N[i]? = some x := by rfl) (hj : X.N[j]? = some y := by rfl) (hij : i ≠ j := by decide) (hx : X.env.scope.names.lookup x = some .local := by rfl) (hy : X.env.scope.names.lookup y = some .local := by rfl)
    (hw : swappedStores [.Tuple [.Name x px, .Name y py] kt pt] (.Tuple [a, b] k2 pt2) X.env = pure (some [x, y]) := by rfl) (hs : swapsWithSole [.Tuple [.Name x px, .Name y py] kt pt] (.Tuple [a, b] k2 pt2) pos.line X.env = pure false := by rfl)
    (hq : starEach [a, b] X.env = (false, eval a X.env) :: starEach [b] X.env := by rfl) (hq2 : starEach [b] X.env = (false, eval b X.env) :: starEach [] X.env := by rfl) :
    DS X G (.Assign [.Tuple [.Name x px, .Name y py] kt pt] (.Tuple [a, b] k2 pt2) pos) (tPar i j (tCons ta (tCons tb tNil))) (wParEN i j wa wb) :=
  ⟨ps_par hc hN hi hj hij hx hy (pa_cons ha.pe (pa_cons hb.pe pa_nil hq2) hq) hw hs, fun M S0 H0 Sb ρ σ S H D N z L w => ha.se M ρ σ S H _ _ z.ok w fun d v S1 H1 r1 dn1 s1 => hb.sn M ρ σ S1 H1 _ _ (z.ok.step s1) r1 fun e l S2 H2 r2 hl hs ow s2 => by
    have z1 := z.step s1
    have z2 := (z1.step s2).set i (dn1.mono s2.mono)
    exact ⟨v, .ref l, rfl, L.nx _ _ _ _ (z2.setOwn j (z1.none0 hl) hs (fun f => M.dom H1 z1.ok.j l f hl) ow fun m e x y => by
      obtain ⟨x, y⟩ := set_own m e l x y
      exact absurd y (z1.ok.own_ne hl m e x)) r2⟩⟩
def wParNN (i j : Nat) (wa wb : WE) : WS := fun M N ρ => wa M ρ fun d => wb M ρ fun e => N.nx ((ρ.set i (.own d)).set j (.own e))
theorem Step.none {S H S' H' : Hp} {M : Eff} (s : Step M S H S' H') {l : Addr} (hs : S l = Option.none) (hl : H l ≠ Option.none) : S' l = Option.none := by
  cases q : S' l with
  | none => rfl
  | some u =>
    rcases s.fresh l u q with ⟨u', z⟩ | z
    · rw [hs] at z; cases z
    · exact absurd z hl
/-- a new thing behind another step -/
theorem OwnAt.step {M : Eff} {S H S' H' : Hp} {l : Addr} {d : D} (o : OwnAt G S H l d) (s : Step M S H S' H') (f : ¬ M.F l) : OwnAt G S' H' l d := o.mono s.mono fun u e => s.keep l u f e
theorem s_parNE (i j : Nat) {x y : Str} {px py pt : Pos} {kt k2 pt2} (hc : X.calm = true) (hN : X.N.Nodup) (ha : DN X G a ta wa) (hb : DE X G b tb wb) (hi : X.N[i]? = some x := by rfl) (hj : X.N[j]? = some y := by rfl) (hij : i ≠ j := by decide) (hx : X.env.scope.names.lookup x = some .local := by rfl) (hy : X.env.scope.names.lookup y = some .local := by rfl)
    (hw : swappedStores [.Tuple [.Name x px, .Name y py] kt pt] (.Tuple [a, b] k2 pt2) X.env = pure (some [x, y]) := by rfl) (hs : swapsWithSole [.Tuple [.Name x px, .Name y py] kt pt] (.Tuple [a, b] k2 pt2) pos.line X.env = pure false := by rfl)
    (hq : starEach [a, b] X.env = (false, eval a X.env) :: starEach [b] X.env := by rfl) (hq2 : starEach [b] X.env = (false, eval b X.env) :: starEach [] X.env := by rfl) :
    DS X G (.Assign [.Tuple [.Name x px, .Name y py] kt pt] (.Tuple [a, b] k2 pt2) pos) (tPar i j (tCons ta (tCons tb tNil))) (wParNE i j wa wb) :=
  ⟨ps_par hc hN hi hj hij hx hy (pa_cons ha.pe (pa_cons hb.pe pa_nil hq2) hq) hw hs, fun M S0 H0 Sb ρ σ S H D N z L w => ha.sn M ρ σ S H _ _ z.ok w fun d l S1 H1 r1 hl hs1 ow s1 => hb.se M ρ σ S1 H1 _ _ (z.ok.step s1) r1 fun e v2 S2 H2 r2 dn2 s2 => by
    have hf : ¬ M.F l := fun f => M.dom H z.ok.j l f hl
    have z1 := (z.step (s1.trans s2)).setOwn i (z.none0 hl) (s2.none hs1 ow.there) hf (ow.step s2 hf) fun m e x y => absurd y (z.ok.own_ne hl m e x)
    exact ⟨.ref l, v2, rfl, L.nx _ _ _ _ (z1.set j dn2) r2⟩⟩
theorem s_parNN (i j : Nat) {x y : Str} {px py pt : Pos} {kt k2 pt2} (hc : X.calm = true) (hN : X.N.Nodup) (ha : DN X G a ta wa) (hb : DN X G b tb wb) (hi : X.N[i]? = some x := by rfl) (hj : X.N[j]? = some y := by rfl) (hij : i ≠ j := by decide) (hx : X.env.scope.names.lookup x = some .local := by rfl) (hy : X.env.scope.names.lookup y = some .local := by rfl)
    (hw : swappedStores [.Tuple [.Name x px, .Name y py] kt pt] (.Tuple [a, b] k2 pt2) X.env = pure (some [x, y]) := by rfl) (hs : swapsWithSole [.Tuple [.Name x px, .Name y py] kt pt] (.Tuple [a, b] k2 pt2) pos.line X.env = pure false := by rfl)
    (hq : starEach [a, b] X.env = (false, eval a X.env) :: starEach [b] X.env := by rfl) (hq2 : starEach [b] X.env = (false, eval b X.env) :: starEach [] X.env := by rfl) :
    DS X G (.Assign [.Tuple [.Name x px, .Name y py] kt pt] (.Tuple [a, b] k2 pt2) pos) (tPar i j (tCons ta (tCons tb tNil))) (wParNN i j wa wb) :=
  ⟨ps_par hc hN hi hj hij hx hy (pa_cons ha.pe (pa_cons hb.pe pa_nil hq2) hq) hw hs, fun M S0 H0 Sb ρ σ S H D N z L w => ha.sn M ρ σ S H _ _ z.ok w fun d l S1 H1 r1 hl hs1 ow s1 => hb.sn M ρ σ S1 H1 _ _ (z.ok.step s1) r1 fun e l2 S2 H2 r2 hl2 hs2 ow2 s2 => by
    have hf : ¬ M.F l := fun f => M.dom H z.ok.j l f hl
    have zs := z.step s1
    have hf2 : ¬ M.F l2 := fun f => M.dom H1 zs.ok.j l2 f hl2
    have ne : l ≠ l2 := fun q => by
      subst q
      exact ow.there hl2
    have z1 := (z.step (s1.trans s2)).setOwn i (z.none0 hl) (s2.none hs1 ow.there) hf (ow.step s2 hf) fun m e x y => absurd y (z.ok.own_ne hl m e x)
    refine ⟨.ref l, .ref l2, rfl, L.nx _ _ _ _ (z1.setOwn j (zs.none0 hl2) hs2 hf2 ow2 fun m e x y => ?_) r2⟩
    by_cases q : i = m
    · subst q
      have hi : i < ρ.length := by
        have := (List.getElem?_eq_some_iff.mp x).1
        simpa using this
      rw [List.getElem?_set_self (by rw [z.ok.len]; exact hi)] at y
      cases y
      exact absurd rfl ne
    · rw [List.getElem?_set_ne q] at x y
      exact absurd y (zs.ok.own_ne hl2 m e x)⟩
def wRet (wa : WE) : WS := fun M N ρ => wa M ρ N.rt
theorem s_ret (ha : DC X G a ta wa) : DS X G (.Return (some a) pos) (tRet ta) (wRet wa) := ⟨ps_ret ha.pe, fun M S0 H0 Sb ρ σ S H D N z L w => ha.sc M ρ σ S H _ _ z.ok w fun d v S' H' r c st => L.rt _ _ _ _ _ _ (z.step st) c r⟩
theorem s_retN : DS X G (.Return none pos) tRetN wRetN := ⟨ps_retN, fun M S0 H0 Sb ρ σ S H D N z L w => L.rt _ _ _ _ _ _ z (.inl .non) w⟩
def wIfS (wp : WT) (W W' : WS) : WS := fun M N ρ => wp M ρ fun b => if b = true then W M N ρ else W' M N ρ
theorem s_if {p : Expr} {tp : TT} {wp : WT} {sa sb : List Stmt} (hp : DT X G p tp wp) (ha : DSs X G sa t W) (hb : DSs X G sb u W') : DS X G (.If p sa sb pos) (tIfS tp t u) (wIfS wp W W') :=
  ⟨ps_if hp.pt ha.ps hb.ps, fun M S0 H0 Sb ρ σ S H D N z L w => hp.st M ρ σ S H _ _ z.ok w fun b S' H' r st => by
    cases b with
    | true =>
      rw [if_pos rfl] at r ⊢
      exact ha.ss M S0 H0 Sb ρ σ S' H' D N (z.step st) L r
    | false =>
      rw [if_neg (by simp)] at r ⊢
      exact hb.ss M S0 H0 Sb ρ σ S' H' D N (z.step st) L r⟩
/-- for -/
def forW (bg : WG) (wb : WS) (M : Eff) (N : NE) : List D → Rho → Prop
  | [], ρ => N.nx ρ
  | d :: r, ρ => bg d ρ fun ρ' => wb M { N with nx := forW bg wb M N r, ct := forW bg wb M N r, bk := N.nx } ρ'
def wFor (wi : WI) (bg : WG) (wb : WS) : WS := fun M N ρ => wi M ρ fun ds => forW bg wb M N ds ρ
theorem s_for {tg iter : Expr} {body : List Stmt} {wi : TI} {g : TG} {is : List Nat} {WIw : WI} {bg : WG} {tb : TS} {wb : WS} (hp : PassesOwn (model X.prog X.w) X.A X.env X.xe) (hc : X.calm = true) (hi : DI X G tg iter wi WIw) (hg : DG X G tg g is bg) (hb : DSs X G body tb wb) (hs : ∀ x, foldedSetIterable iter X.env x = pure x := by intro _; rfl) :
    DS X G (.For tg iter body [] pos) (tFor wi g tb) (wFor WIw bg wb) :=
  ⟨ps_for hp hc hi.pi hg.pg hb.ps hs, fun M S0 H0 Sb ρ σ S H D N z L w => hi.si M ρ σ S H _ _ z.ok w fun ds J S1 H1 r s1 it => by
    have z1 := (z.step s1).base (Mon.refl S1)
    have mb : Mon Sb S1 := z.mo.trans s1.mono
    refine ⟨fun i m σ T => m = ds.length - i ∧ i ≤ ds.length ∧ ∃ ρ Si, Stt G M S0 H0 S1 ρ σ Si T ∧ forW bg wb M N (ds.drop i) ρ, ⟨ds.length, by simp, Nat.zero_le _, ρ, S1, z1, by simpa using r⟩, ?_⟩
    rintro i m σ T ⟨rfl, hi, ρ, Si, zi, rr⟩
    have back : ∀ {ρ σ S H}, Stt G M S0 H0 S1 ρ σ S H → Stt G M S0 H0 Sb ρ σ S H := fun q => q.base (mb.trans q.mo)
    obtain ⟨stop, go⟩ := it Si T zi.mo zi.ok.bs
    by_cases hlt : i < ds.length
    · have e : ds[i]? = some ds[i] := List.getElem?_eq_getElem hlt
      obtain ⟨g1, y1⟩ := go i _ e
      rw [List.drop_eq_getElem_cons hlt] at rr
      refine .inr ⟨g1, fun σ' H' => i + 1 ≤ ds.length ∧ ∃ ρ Si, Stt G M S0 H0 S1 ρ σ' Si H' ∧ forW bg wb M N (ds.drop (i + 1)) ρ, fun σ' H' p' => ⟨ds.length - (i + 1), by omega, rfl, p'⟩, fun x T' y => ?_⟩
      obtain ⟨S2, dn, s2⟩ := y1 x T' y
      have z2 := zi.step s2
      refine hg.sg M ρ σ S2 T' _ x _ _ z2.ok dn rr fun ρ' σ' r' o' _ y' => ?_
      have z3 : Stt G M S0 H0 S1 ρ' σ' S2 T' := ⟨o', z2.st, fun i e l a b => let ⟨a, b⟩ := y' i e l a b; z2.yg i e l a b, z2.mo⟩
      exact hb.ss M S0 H0 S1 ρ' σ' S2 T' _ { N with nx := forW bg wb M N (ds.drop (i + 1)), ct := forW bg wb M N (ds.drop (i + 1)), bk := N.nx } z3 ⟨fun ρ σ S H z w => ⟨hlt, ρ, S, z, w⟩, fun ρ σ S H v d z c w => L.rt ρ σ S H v d (back z) c w, fun ρ σ S H z w => L.nx ρ σ S H (back z) w, fun ρ σ S H z w => ⟨hlt, ρ, S, z, w⟩⟩ r'
    · have e : i = ds.length := by omega
      subst e
      rw [List.drop_length] at rr
      exact .inl ⟨stop _ (Nat.le_refl _), L.nx _ _ _ _ (back zi) rr⟩⟩
/-- while -/
def wWh (wp : WT) (wb : WS) : WS := fun M N ρ => ∃ I : Nat → Rho → Prop, (∃ m, I m ρ) ∧ ∀ m ρ, I m ρ → wp M ρ fun b => if b = true then wb M { N with nx := fun ρ' => ∃ m', m' < m ∧ I m' ρ', ct := fun ρ' => ∃ m', m' < m ∧ I m' ρ', bk := N.nx } ρ else N.nx ρ
theorem s_while {p : Expr} {tp : TT} {wp : WT} {body : List Stmt} {tb : TS} {wb : WS} (hp : PassesOwn (model X.prog X.w) X.A X.env X.xe) (ht : DT X G p tp wp) (hb : DSs X G body tb wb) : DS X G (.While p body [] pos) (tWhile tp tb) (wWh wp wb) :=
  ⟨ps_while hp ht.pt hb.ps, fun M S0 H0 Sb ρ σ S H D N z L w => by
    obtain ⟨I, ⟨m0, h0⟩, hI⟩ := w
    refine ⟨fun m σ T => ∃ ρ Si, Stt G M S0 H0 Sb ρ σ Si T ∧ I m ρ, ⟨m0, ρ, S, z, h0⟩, fun m σ T hW => ?_⟩
    obtain ⟨ρ, Si, zi, hi⟩ := hW
    refine ht.st M ρ σ Si T _ _ zi.ok (hI m ρ hi) fun b S' T' r st => ?_
    cases b with
    | true =>
      rw [if_pos rfl] at r ⊢
      exact ⟨fun σ' H' => ∃ m', m' < m ∧ ∃ ρ Si, Stt G M S0 H0 Sb ρ σ' Si H' ∧ I m' ρ, fun σ' H' p => p, hb.ss M S0 H0 Sb ρ σ S' T' _ { N with nx := fun ρ' => ∃ m', m' < m ∧ I m' ρ', ct := fun ρ' => ∃ m', m' < m ∧ I m' ρ', bk := N.nx } (zi.step st)
        ⟨fun ρ σ S H z w => let ⟨m', h1, h2⟩ := w; ⟨m', h1, ρ, S, z, h2⟩, L.rt, L.nx, fun ρ σ S H z w => let ⟨m', h1, h2⟩ := w; ⟨m', h1, ρ, S, z, h2⟩⟩ r⟩
    | false =>
      rw [if_neg (by simp)] at r ⊢
      exact L.nx _ _ _ _ (zi.step st) r⟩
end
end HB
namespace HB
open PySem PySem.Spec PyProof.Rows L2

/-! ### defs that are called where no repr runs (FnOk's promise, told of those) -/
structure FG (P : Program) (w : World) (K : PySem.W.Frag) (mg : Str → Option Value) (base : Heap) (CX : CXT) (k : Nat) (f : Addr) (fd : FuncData) (ps : List Str) (sp : Sp) : Prop where
  len : ∀ vs H Q E, sp vs H Q E → vs.length = ps.length
  run : ∀ (A : Around) (outer : List PySem.Env) (s : Shared) (H : Hp) (args : Args) (us : List Value) (vs : List V) (Q : VK) (E : XK), A.guards = some [] → Room k A → Env0 P w K mg base A outer s H → BindsTo s fd args (ps.zip us) → Vals vs us → sp vs H Q E →
    codeAny (model P w) A (.call (.ref f) args) (CR CX outer P w H s Q E) s
section
variable {P : Program} {w : World} {K : PySem.W.Frag} {mg : Str → Option Value} {base : Heap} {CX : CXT} {k : Nat} {f : Addr} {fd : FuncData} {ps : List Str} {sp : Sp}
theorem FG.of (F : FnOk P w K mg base CX k f fd ps sp) : FG P w K mg base CX k f fd ps sp := ⟨F.len, fun A outer s H args us vs Q E _ => F.run A outer s H args us vs Q E⟩
theorem FG.mono {j : Nat} (F : FG P w K mg base CX j f fd ps sp) (h : j ≤ k) : FG P w K mg base CX k f fd ps sp := ⟨F.len, fun A outer s H args us vs Q E g hr => F.run A outer s H args us vs Q E g (hr.mono h)⟩
theorem deeper_guards {A : Around} (h : A.guards = some []) (env : PySem.Env) : (A.deeper env).guards = some [] := h
/-- a def by its body -/
theorem fg_of {name qual : Str} {params : Arguments} {body : List Stmt} {scope : Scope} {kV doc pm cdv ct oc dV : Value} {od an : Option Addr} {osl : Array (Option Value)} {N : List Str}
    (lk : K.lookup f = some ⟨oc, od, .func (PySem.W.fnOf name qual params body scope dV kV doc pm an cdv ct), osl⟩) (co : PySem.W.codeIn K cdv qual = true) (S : FnScope N ps scope) (len : ∀ vs H Q E, sp vs H Q E → vs.length = ps.length)
    (hb : ∀ (A : Around) (outer : List PySem.Env) (s : Shared) (H : Hp) (vs : List V) (Q : VK) (E : XK), A.guards = some [] → Room k (A.deeper (envOfC qual scope s.heap.objs.size f cdv)) → sp vs H Q E →
      ∃ t, PSs (cxOf CX P w K mg base N qual scope f cdv A outer s H E) body t ∧ t ⟨fun _ T => Q .non T, Q, fun _ _ => False, fun _ _ => False⟩ (start N vs) H) :
    FG P w K mg base CX (k + 1) f (PySem.W.fnOf name qual params body scope dV kV doc pm an cdv ct) ps sp := by
  constructor
  · exact len
  intro A outer s H args us vs Q E hg room e0 bind rel psp
  have inK : K.In s.heap := e0.mod.kin.keeps fun b o q => (e0.bs b o q).1
  have free : s.heap.NoLimit := e0.mod.nolimit.keeps fun b o q => (e0.bs b o q).1
  have kinds : ∀ y ∈ ps.zip us, scope.names.lookup y.1 = some .local ∨ (scope.names.lookup y.1 = some .cell ∧ ((cellsFrom (s.heap.objs.size + 1) scope.names []).lookup y.1).isSome = true) := by
    rintro ⟨n, v⟩ hy
    exact (S.par n (List.of_mem_zip hy).1).imp (fun q => q) fun q => ⟨q, PySem.W.cellsFrom_some _ _ _ (.inl q)⟩
  apply codeAny_call_function room.depth (inK _ _ lk) rfl S.co S.gen rfl (PySem.W.codeRec_of inK co)
  apply bind
  apply wpAny_newFunctionEnv_cells S.kind kinds
  rintro env rfl s1 x
  refine ⟨free.keeps x.toInCall.keep, codeAny_func ?_⟩
  obtain ⟨t, pt, q⟩ := hb A outer s H vs Q E hg (room.deeper _) psp
  have I := inv_start (CX := CX) (E := E) S room.hd e0 (len _ _ _ _ psp) rel x
  apply wpAny_mono (pt.run [] s1 (start N vs) H _ I q)
  · intro fl s2 z
    cases fl with
    | ret u =>
      obtain ⟨v, σ', T, J, rv, q⟩ := z
      exact ⟨v, T, J.os, J.bare, J.base, J.hok, rv, q⟩
    | next =>
      obtain ⟨σ', T, J, q⟩ := z
      exact ⟨V.non, T, J.os, J.bare, J.base, J.hok, rfl, q⟩
    | brk =>
      obtain ⟨_, _, _, q⟩ := z
      exact q.elim
    | cont =>
      obtain ⟨_, _, _, q⟩ := z
      exact q.elim
  · exact fun e s2 z => z
theorem Fun.okG {x qual : Str} {st : Stmt} {N : List Str} (F : L2.Fun K x qual st f fd) (S : FnScope N ps (defScope st)) (len : ∀ vs H Q E, sp vs H Q E → vs.length = ps.length)
    (hb : ∀ (cdv : Value) (A : Around) (outer : List PySem.Env) (s : Shared) (H : Hp) (vs : List V) (Q : VK) (E : XK), A.guards = some [] → Room k (A.deeper (envOfC qual (defScope st) s.heap.objs.size f cdv)) → sp vs H Q E →
      ∃ t, PSs (cxOf CX P w K mg base N qual (defScope st) f cdv A outer s H E).nox (defBody st) t ∧ t ⟨fun _ T => Q .non T, Q, fun _ _ => False, fun _ _ => False⟩ (start N vs) H) : FG P w K mg base CX (k + 1) f fd ps sp := by
  obtain ⟨oc, od, kV, doc, pm, an, cdv, ct, osl, rfl, lk, co⟩ := F.ex
  exact fg_of lk co S len fun A outer s H vs Q E g r z => (hb cdv A outer s H vs Q E g r z).imp fun t q => ⟨q.1.nox, q.2⟩
end
section
variable {X : Cx} {CX : CXT} {k : Nat} {f : Addr} {fd : FuncData} {ps : List Str} {sp : Sp} {E : XK} {x : Str} {p pos : Pos} {e : Expr} {es : List Expr} {t : TA}
theorem run_fg {pins : List (Addr × Obj)} {σ : L2.St} {H : Hp} {s : Shared} {Q : VK} {us : List Value} {vs : List V} (F : FG X.prog X.w X.K X.mg X.base CX k f fd ps sp) (g : X.A.guards = some []) (room : Room k X.A) (hb : Binds X.K fd ps []) (hx : Passes CX X E)
    (I : Inv X pins σ H s) (r : Vals vs us) (h : sp vs H Q E) : wpAny (model X.prog X.w) X.A (call (.ref f) us) (EP X pins σ Q) X.xe s := by
  have hl : us.length = ps.length := r.length.symm.trans (F.len _ _ _ _ h)
  have bd := hb s us I.kIn (by rw [List.append_nil]; exact hl)
  rw [List.append_nil] at bd
  refine wpAny_call (codeAny_mono (F.run X.A X.stack s H ⟨us, []⟩ us vs Q E g room I.env0 bd r h) ?_)
  rintro (e | fl) s' q
  · exact hx pins σ H s e s' I q
  · cases fl with
    | ret u => exact I.after q
    | _ => exact False.elim q
/-- f(a, ..) -/
theorem pe_callG (F : FG X.prog X.w X.K X.mg X.base CX k f fd ps sp) (g : X.A.guards = some []) (room : Room k X.A) (hg : Gl X x) (hm : X.mg x = some (.ref f)) (hk : PySem.W.keepIn X.K (.ref f) = true) (hb : Binds X.K fd ps []) (hx : Passes CX X E) (ha : PA X (e :: es) t)
    (hdb : (x == ("__debug__" : Str)) = false := by decide) (he : starEach (e :: es) X.env = (false, eval e X.env) :: starEach es X.env := by rfl) (hpl : (backTo pos (starEach es X.env)).any (·.1) = false := by rfl) :
    PE X (.Call (.Name x p) (e :: es) [] pos) (fun σ H Q => t σ H fun vs T => sp vs T Q E) := ⟨fun pins s σ H Q I h => wpAny_Call_Name_kw (ld_glob I hg hm (PySem.W.callWith_K (h₀ := X.base) I.ok.mod.kin hk (thn (ha.run pos pins s σ H _ I h) fun us s1 z => by
      obtain ⟨vs, H1, I1, r, q⟩ := z
      exact ⟨I1.kIn, run_fg F g room hb hx I1 r q⟩) he hpl) hdb)⟩
end

/-! ### promises about data -/
abbrev Spec := Eff → List EV → (D → Prop) → Prop
def NoOwn (evs : List EV) : Prop := ∀ (i : Nat) d, evs[i]? ≠ some (.own d)
/-- n arguments: still data and known values; the answer still data -/
def spF (G : Gam) (n : Nat) (spec : Spec) : Sp := fun vs H Q _ => ∃ (M : Eff) (S : Hp) (evs : List EV) (R : D → Prop), Ok G M evs (vs.map some) S H ∧ NoOwn evs ∧ evs.length = n ∧ spec M evs R ∧
  ∀ d v S' H', R d → Dn G S' v d → Step M S H S' H' → Q v H'
theorem spF_len {G : Gam} {n : Nat} {spec : Spec} {vs : List V} {H : Hp} {Q : VK} {E : XK} (h : spF G n spec vs H Q E) : vs.length = n := by
  obtain ⟨M, S, evs, R, ok, _, hl, _⟩ := h
  have := ok.len
  simp at this
  omega
theorem Ok.start {G : Gam} {M : Eff} {S H : Hp} {evs : List EV} {vs : List V} {N : List Str} (o : Ok G M evs (vs.map some) S H) : Ok G M (evs ++ List.replicate (N.length - vs.length) .no) (start N vs) S H := by
  have hl : evs.length = vs.length := by simpa using o.len.symm
  have lo : ∀ {i : Nat} {x : EV}, (evs ++ List.replicate (N.length - vs.length) EV.no)[i]? = some x → x ≠ .no → i < vs.length ∧ evs[i]? = some x := fun {i x} e n => by
    by_cases h : i < evs.length
    · rw [List.getElem?_append_left h] at e
      exact ⟨by omega, e⟩
    · rw [List.getElem?_append_right (by omega), List.getElem?_replicate] at e
      split at e
      · cases e
        exact absurd rfl n
      · cases e
  have st : ∀ {i : Nat}, i < vs.length → (L2.start N vs)[i]? = (vs.map some)[i]? := fun {i} h => by
    unfold L2.start
    rw [List.getElem?_append_left (by simpa using h)]
  refine ⟨by unfold L2.start; simp [hl], fun i x e => ?_, fun i j d e l h1 h2 h3 h4 => ?_, o.sub, o.j, o.nof⟩
  · by_cases n : x = .no
    · subst n
      trivial
    · obtain ⟨h, e⟩ := lo e n
      rw [st h]
      exact o.ev i x e
  · obtain ⟨a1, b1⟩ := lo h1 (by simp)
    obtain ⟨a2, b2⟩ := lo h2 (by simp)
    rw [st a1] at h3
    rw [st a2] at h4
    exact o.dist i j d e l b1 b2 h3 h4
/-- one's own thing becomes still -/
theorem Cur.still {G : Gam} {M : Eff} {S0 H0 Sb S H : Hp} {ρ : Rho} {σ : L2.St} {v : V} {d : D} (z : Stt G M S0 H0 Sb ρ σ S H) (c : Cur G ρ σ S v d) : ∃ T, Dn G T v d ∧ Step M S0 H0 T H := by
  rcases c with c | ⟨i, h1, h2⟩
  · exact ⟨S, c, z.st⟩
  · obtain ⟨l, e, hs, hf, ow⟩ := z.ok.ev i _ h1
    rw [h2] at e
    cases e
    exact ow.dn (z.yg i d l h1 h2) hs hf z.st
section
variable {P : Program} {w : World} {K : PySem.W.Frag} {mg : Str → Option Value} {base : Heap} {CX : CXT} {k n : Nat} {f : Addr} {fd : FuncData} {N ps : List Str} {x qual : Str} {st : Stmt} {G : Gam} {spec : Spec} {W : WS}
theorem run_body {X : Cx} {body : List Stmt} {t : TS} {vs : List V} {H : Hp} {Q : VK} {E : XK} (hb : DSs X G body t W) (hN : X.N = N) (hs : ∀ M evs R, spec M evs R → evs.length = n → W M ⟨fun _ => R .non, R, fun _ => False, fun _ => False⟩ (evs ++ List.replicate (N.length - n) .no)) (h : spF G n spec vs H Q E) :
    t ⟨fun _ T => Q .non T, Q, fun _ _ => False, fun _ _ => False⟩ (start N vs) H := by
  have hl := spF_len h
  obtain ⟨M, S, evs, R, ok, no, hn, sp, q⟩ := h
  have o := ok.start (N := N)
  rw [hl] at o
  have own : ∀ (i : Nat) d, (evs ++ List.replicate (N.length - n) EV.no)[i]? ≠ some (.own d) := fun i d e => by
    by_cases h : i < evs.length
    · rw [List.getElem?_append_left h] at e
      exact no i d e
    · rw [List.getElem?_append_right (by omega), List.getElem?_replicate] at e
      split at e <;> cases e
  have z : Stt G M S H S (evs ++ List.replicate (N.length - n) .no) (start N vs) S H := ⟨o, o.refl, fun i d l e _ => absurd e (own i d), Mon.refl S⟩
  refine hb.ss M S H S _ _ S H _ _ z ⟨fun ρ σ S' H' z r => q _ _ S' H' r .non z.st, fun ρ σ S' H' v d z c r => ?_, fun ρ σ S H z w => w, fun ρ σ S H z w => w⟩ (hs M evs R sp hn)
  obtain ⟨T, dn, s⟩ := c.still z
  exact q d v T H' r dn s
/-- a def that raises nothing -/
theorem fn_D (F : L2.Fun K x qual st f fd) (S : FnScope N ps (defScope st)) (hn : ps.length = n) (hb : ∀ (cdv : Value) (A : Around) (outer : List PySem.Env) (s : Shared) (H : Hp) (E : XK), Room k (A.deeper (envOfC qual (defScope st) s.heap.objs.size f cdv)) →
      ∃ t, DSs (cxOf CX P w K mg base N qual (defScope st) f cdv A outer s H E).nox G (defBody st) t W)
    (hs : ∀ M evs R, spec M evs R → evs.length = n → W M ⟨fun _ => R .non, R, fun _ => False, fun _ => False⟩ (evs ++ List.replicate (N.length - n) .no)) : FG P w K mg base CX (k + 1) f fd ps (spF G n spec) :=
  Fun.okG F S (fun vs H Q E h => by rw [spF_len h, hn]) fun cdv A outer s H vs Q E _ r h => by
    obtain ⟨t, b⟩ := hb cdv A outer s H E r
    exact ⟨t, b.ps, run_body b rfl hs h⟩
theorem fn_DG (F : L2.Fun K x qual st f fd) (S : FnScope N ps (defScope st)) (hn : ps.length = n) (hb : ∀ (cdv : Value) (A : Around) (outer : List PySem.Env) (s : Shared) (H : Hp) (E : XK), A.guards = some [] → Room k (A.deeper (envOfC qual (defScope st) s.heap.objs.size f cdv)) →
      ∃ t, DSs (cxOf CX P w K mg base N qual (defScope st) f cdv A outer s H E).nox G (defBody st) t W)
    (hs : ∀ M evs R, spec M evs R → evs.length = n → W M ⟨fun _ => R .non, R, fun _ => False, fun _ => False⟩ (evs ++ List.replicate (N.length - n) .no)) : FG P w K mg base CX (k + 1) f fd ps (spF G n spec) :=
  Fun.okG F S (fun vs H Q E h => by rw [spF_len h, hn]) fun cdv A outer s H vs Q E g r h => by
    obtain ⟨t, b⟩ := hb cdv A outer s H E g r
    exact ⟨t, b.ps, run_body b rfl hs h⟩
/-- .. where no guards are asked -/
theorem fn_O (F : L2.Fun K x qual st f fd) (S : FnScope N ps (defScope st)) (hn : ps.length = n) (hb : ∀ (cdv : Value) (A : Around) (outer : List PySem.Env) (s : Shared) (H : Hp) (E : XK), Room k (A.deeper (envOfC qual (defScope st) s.heap.objs.size f cdv)) →
      ∃ t, DSs (cxOf CX0 P w K mg base N qual (defScope st) f cdv A outer s H E).nox G (defBody st) t W)
    (hs : ∀ M evs R, spec M evs R → evs.length = n → W M ⟨fun _ => R .non, R, fun _ => False, fun _ => False⟩ (evs ++ List.replicate (N.length - n) .no)) : FnOk P w K mg base CX0 (k + 1) f fd ps (spF G n spec) :=
  F.ok S (fun vs H Q E h => by rw [spF_len h, hn]) fun cdv A outer s H vs Q E r h => by
    obtain ⟨t, b⟩ := hb cdv A outer s H E r
    exact ⟨t, b.ps, run_body b rfl hs h⟩
end

/-! ### arguments, calls -/
def SX (G : Gam) (t : TA) (W : Eff → Rho → (List EV → Prop) → Prop) : Prop := ∀ (M : Eff) (ρ : Rho) (σ : L2.St) (S H : Hp) (R : List EV → Prop) (Q : List V → Hp → Prop), Ok G M ρ σ S H → W M ρ R →
  (∀ evs vs S' H', R evs → Ok G M evs (vs.map some) S' H' → NoOwn evs → Step M S H S' H' → Q vs H') → t σ H Q
structure DX (X : Cx) (G : Gam) (es : List Expr) (t : TA) (W : Eff → Rho → (List EV → Prop) → Prop) : Prop where
  pa : PA X es t
  sx : SX G t W
section
variable {X : Cx} {G : Gam} {e : Expr} {es : List Expr} {te : TE} {t : TA} {we : WE} {W : Eff → Rho → (List EV → Prop) → Prop} {pos : Pos}
theorem Bs.args0 {M : Eff} {S H : Hp} (b : Bs M S H) : Ok G M [] (([] : List V).map some) S H := ⟨rfl, fun i x e => by simp at e, fun i j d e l h => by simp at h, b.sub, b.j, b.nof⟩
theorem Ok.arg {M : Eff} {S H : Hp} {evs : List EV} {vs : List V} {v : V} {x : EV} (o : Ok G M evs (vs.map some) S H) (no : NoOwn evs) (hx : EvOk G M S H (some (some v)) x) (hn : ∀ d, x ≠ .own d) : Ok G M (x :: evs) ((v :: vs).map some) S H ∧ NoOwn (x :: evs) := by
  have n2 : NoOwn (x :: evs) := fun i d e => by
    cases i with
    | zero => simp at e; exact hn d e
    | succ i => exact no i d (by simpa using e)
  refine ⟨⟨by simpa using o.len, fun i y e => ?_, fun i j d e l h => absurd h (n2 i d), o.sub, o.j, o.nof⟩, n2⟩
  cases i with
  | zero => simp at e; subst e; simpa using hx
  | succ i => simpa using o.ev i y (by simpa using e)
def xNil : Eff → Rho → (List EV → Prop) → Prop := fun _ _ R => R []
def xCons (we : WE) (W : Eff → Rho → (List EV → Prop) → Prop) : Eff → Rho → (List EV → Prop) → Prop := fun M ρ R => we M ρ fun d => W M ρ fun evs => R (.dat d :: evs)
def xFix (i : Nat) (W : Eff → Rho → (List EV → Prop) → Prop) : Eff → Rho → (List EV → Prop) → Prop := fun M ρ R => match ρ[i]? with
  | some (.fix v) => W M ρ fun evs => R (.fix v :: evs)
  | _ => False
theorem x_nil : DX X G [] tNil xNil := ⟨pa_nil, fun M ρ σ S H R Q o w k => k [] [] S H w o.bs.args0 (fun i d e => by simp at e) o.refl⟩
theorem x_cons (he : DE X G e te we) (hr : DX X G es t W) (hs : starEach (e :: es) X.env = (false, eval e X.env) :: starEach es X.env := by rfl) : DX X G (e :: es) (tCons te t) (xCons we W) :=
  ⟨pa_cons he.pe hr.pa hs, fun M ρ σ S H R Q o w k => he.se M ρ σ S H _ _ o w fun d v S1 H1 r1 c1 s1 => hr.sx M ρ σ S1 H1 _ _ (o.step s1) r1 fun evs vs S2 H2 r2 o2 no s2 => by
    obtain ⟨o3, n3⟩ := o2.arg no (x := .dat d) (v := v) ⟨v, rfl, c1.mono s2.mono⟩ (fun d e => by cases e)
    exact k _ _ S2 H2 r2 o3 n3 (s1.trans s2)⟩
theorem x_fix (i : Nat) {x : Str} {p : Pos} (hr : DX X G es t W) (hN : X.N[i]? = some x := by rfl) (hv : Vis X.env.scope x := by first | exact Or.inl rfl | exact Or.inr (Or.inl rfl) | exact Or.inr (Or.inr rfl)) (hd : (x == ("__debug__" : Str)) = false := by decide) (hcd : (x == ("__classdict__" : Str)) = false := by decide)
    (hs : starEach (.Name x p :: es) X.env = (false, eval (.Name x p) X.env) :: starEach es X.env := by rfl) : DX X G (.Name x p :: es) (tCons (tVar i) t) (xFix i W) :=
  ⟨pa_cons (pe_var hN hv hd hcd) hr.pa hs, fun M ρ σ S H R Q o w k => by
    unfold xFix at w
    split at w
    · rename_i v e
      have h := o.ev i _ e
      refine ⟨v, h, hr.sx M ρ σ S H _ _ o w fun evs vs S2 H2 r2 o2 no s2 => ?_⟩
      obtain ⟨o3, n3⟩ := o2.arg no (x := .fix v) (v := v) rfl (fun d e => by cases e)
      exact k _ _ S2 H2 r2 o3 n3 s2
    · exact w.elim⟩
def wCall (spec : Spec) (W : Eff → Rho → (List EV → Prop) → Prop) : WE := fun M ρ R => W M ρ fun evs => spec M evs R
theorem se_call {n : Nat} {spec : Spec} {E : XK} (h : SX G t W) (hn : ∀ M evs R, spec M evs R → evs.length = n) : SE G (fun σ H Q => t σ H fun vs T => spF G n spec vs T Q E) (wCall spec W) := fun M ρ σ S H R Q o w k =>
  h M ρ σ S H _ _ o w fun evs vs S1 H1 r1 o1 no s1 => ⟨M, S1, evs, R, o1, no, hn M evs R r1, r1, fun d v S' H' rd dn st => k d v S' H' rd dn (s1.trans st)⟩
/-- f(a, ..), f a def of the text -/
theorem d_call {CX : CXT} {k n : Nat} {f : Addr} {fd : FuncData} {ps : List Str} {spec : Spec} {E : XK} {x : Str} {p : Pos} (F : FG X.prog X.w X.K X.mg X.base CX k f fd ps (spF G n spec)) (hn : ∀ M evs R, spec M evs R → evs.length = n) (g : X.A.guards = some []) (room : Room k X.A) (hm : X.mg x = some (.ref f)) (hk : PySem.W.keepIn X.K (.ref f) = true) (hb : Binds X.K fd ps []) (hx : Passes CX X E)
    (ha : DX X G (e :: es) t W) (hg : Gl X x := by rfl) (hdb : (x == ("__debug__" : Str)) = false := by decide) (he : starEach (e :: es) X.env = (false, eval e X.env) :: starEach es X.env := by rfl) (hpl : (backTo pos (starEach es X.env)).any (·.1) = false := by rfl) :
    DE X G (.Call (.Name x p) (e :: es) [] pos) (fun σ H Q => t σ H fun vs T => spF G n spec vs T Q E) (wCall spec W) := ⟨pe_callG F g room hg hm hk hb hx ha.pa hdb he hpl, se_call ha.sx hn⟩
end
end HB
namespace HB
open PySem L2

/-! ### repr -/
mutual
def D.noL : D → Bool
  | .lst _ => false
  | .tup xs => D.noLs xs
  | .dct kvs => D.noLk kvs
  | .dtt _ => false
  | .obj _ _ => false
  | .scr _ => false
  | _ => true
def D.noLs : List D → Bool
  | [] => true
  | d :: r => d.noL && D.noLs r
def D.noLk : List (Key × D) → Bool
  | [] => true
  | (_, d) :: r => d.noL && D.noLk r
end
mutual
def D.noO : D → Bool
  | .lst xs => D.noOs xs
  | .tup xs => D.noOs xs
  | .dct kvs => D.noOk kvs
  | .dtt _ => false
  | .obj _ _ => false
  | .scr _ => false
  | _ => true
def D.noOs : List D → Bool
  | [] => true
  | d :: r => d.noO && D.noOs r
def D.noOk : List (Key × D) → Bool
  | [] => true
  | (_, d) :: r => d.noO && D.noOk r
end
section
variable {X : Cx} {G : Gam} {pins : List (Addr × Obj)} {σ : L2.St} {S H : Hp} {s : Shared}
theorem keys_reads {w : World} {P : Program} {h : Heap} : ∀ {es : List DictEntry} {vs : List (Key × Value)}, Pairs (mixKind P w) es vs → ReadsAll h (es.map (·.key)) (vs.map fun p => keyP p.1) [] ∧ es.map (·.val) = vs.map (·.2)
  | _, _, .nil => ⟨.nil, rfl⟩
  | e :: es, kv :: vs, .cons hk hv hr => by
    obtain ⟨h1, h2⟩ := keys_reads hr
    refine ⟨?_, by simp [hv, h2]⟩
    have hk' : keyIs kv.1 e.key = true := hk
    obtain ⟨k, v⟩ := kv
    obtain ⟨ek, eo, ev⟩ := e
    rcases keyIs_shape hk' with ⟨i, t, e1, e2⟩ | ⟨x, t, e1, e2⟩
    · simp only at e1 e2
      subst e1 e2
      exact ReadsAll.cons (as := []) (.int i t) h1
    · simp only at e1 e2
      subst e1 e2
      exact ReadsAll.cons (as := []) (.str x t) h1
theorem KV.split : ∀ {ks : List (Key × V)} {vs : List (Key × Value)}, KV ks vs → Vals (ks.map (·.2)) (vs.map (·.2)) ∧ ks.map (·.1) = vs.map (·.1)
  | _, _, .nil => ⟨.nil, rfl⟩
  | _, _, .cons h t => by
    obtain ⟨a, b⟩ := KV.split t
    exact ⟨.cons h.2 a, by simp [h.1, b]⟩
theorem pyk_keys : ∀ ds : List (Key × D), (D.pyk ds).map (·.1) = ds.map fun p => keyP p.1
  | [] => rfl
  | (k, d) :: r => by simp [D.pyk, pyk_keys r]
theorem pyk_vals : ∀ ds : List (Key × D), (D.pyk ds).map (·.2) = D.pys (ds.map (·.2))
  | [] => rfl
  | (k, d) :: r => by simp [D.pyk, D.pys, pyk_vals r]
theorem Dks.split : ∀ {ks : List (Key × V)} {ds : List (Key × D)}, Dks G S ks ds → Dns G S (ks.map (·.2)) (ds.map (·.2)) ∧ ks.map (·.1) = ds.map (·.1)
  | _, _, .nil => ⟨.nil, rfl⟩
  | _, _, .cons h t => by
    obtain ⟨a, b⟩ := Dks.split t
    exact ⟨.cons h a, by simp [b]⟩
theorem noOk_map : ∀ ds : List (Key × D), D.noOk ds = D.noOs (ds.map (·.2))
  | [] => rfl
  | (k, d) :: r => by simp [D.noOk, D.noOs, noOk_map r]
theorem noLk_map : ∀ ds : List (Key × D), D.noLk ds = D.noLs (ds.map (·.2))
  | [] => rfl
  | (k, d) :: r => by simp [D.noLk, D.noLs, noLk_map r]
mutual
theorem dn_reads (I : Inv X pins σ H s) (m : Mon S H) : ∀ (d : D) (v : V) (u : Value), Dn G S v d → d.noO = true → RelV v u → ∃ as, Reads s.heap u d.py as ∧ (d.noL = true → sysModules ∉ as)
  | .non, _, _, .non, _, r => by
    cases r
    simp only [D.py]
    exact ⟨[], .none, fun _ => by simp⟩
  | .bl b, _, _, .bl _, _, r => by
    cases r
    simp only [D.py]
    exact ⟨[], .bool b, fun _ => by simp⟩
  | .int i, _, _, .int _, _, r => by
    obtain ⟨t, rfl⟩ := r
    simp only [D.py]
    exact ⟨[], .int i t, fun _ => by simp⟩
  | .str x, _, _, .str _, _, r => by
    obtain ⟨t, rfl⟩ := r
    simp only [D.py]
    exact ⟨[], .str x t, fun _ => by simp⟩
  | .lst ds, _, _, .lst h hs, no, r => by
    cases r
    obtain ⟨its, rv, ⟨o, n, ho, hc, _, hd⟩, _⟩ := I.list (SqL.of (m.lst h))
    obtain ⟨as, q, _⟩ := dns_reads I m ds _ its hs (by simpa [D.noO] using no) rv
    simp only [D.py]
    exact ⟨_, .list ho hc hd q, fun z => by simp [D.noL] at z⟩
  | .tup ds, _, _, .tup h hs, no, r => by
    cases r
    obtain ⟨its, rv, ⟨o, ho, hc, n, hd⟩, _⟩ := I.tuple (SqT.of (m.tup h))
    obtain ⟨as, q, f⟩ := dns_reads I m ds _ its hs (by simpa [D.noO] using no) rv
    simp only [D.py]
    exact ⟨_, .tuple ho hc hd q, fun z => f (by simpa [D.noL] using z)⟩
  | .dct ds, _, _, .dct (ks := ks) h hs, no, r => by
    cases r
    obtain ⟨_, ne, vs, kv, o, es, ep, ho, he, hd, _, pr, _⟩ := dk_rd I.hok (m.rd rfl h)
    obtain ⟨k1, k2⟩ := keys_reads (h := s.heap) pr
    obtain ⟨v1, v2⟩ := KV.split kv
    obtain ⟨d1, d2⟩ := hs.split
    obtain ⟨as, q, f⟩ := dnk_reads I m ds (ks.map (·.2)) (vs.map (·.2)) d1 (by simpa [D.noO] using no) v1
    simp only [D.py]
    refine ⟨_, .dict (as := []) ho he.1 hd ?_ (bs := as) ?_, fun z => ?_⟩
    · rw [pyk_keys]
      have e : ds.map (fun p => keyP p.1) = vs.map fun p => keyP p.1 := by
        have := congrArg (List.map keyP) (d2.symm.trans v2)
        rw [List.map_map, List.map_map] at this
        exact this
      rw [e]
      exact k1
    · rw [pyk_vals, k2]
      exact q
    · have z' := f (by simpa [D.noL] using z)
      simp only [List.append_nil, List.singleton_append, List.mem_cons, not_or]
      exact ⟨fun e => by rw [← e] at ne; simp at ne, z'⟩
  | .dtt ds, _, _, _, no, r => by simp [D.noO] at no
  | .obj _ _, _, _, _, no, r => by simp [D.noO] at no
  | .scr _, _, _, _, no, r => by simp [D.noO] at no
theorem dns_reads (I : Inv X pins σ H s) (m : Mon S H) : ∀ (ds : List D) (vs : List V) (us : List Value), Dns G S vs ds → D.noOs ds = true → Vals vs us → ∃ as, ReadsAll s.heap us (D.pys ds) as ∧ (D.noLs ds = true → sysModules ∉ as)
  | [], _, _, .nil, _, .nil => ⟨[], by simp only [D.pys]; exact .nil, fun _ => by simp⟩
  | d :: ds, _, _, .cons h hs, no, .cons r rs => by
    simp only [D.noOs, Bool.and_eq_true] at no
    obtain ⟨as, q, f⟩ := dn_reads I m d _ _ h no.1 r
    obtain ⟨bs, q2, f2⟩ := dns_reads I m ds _ _ hs no.2 rs
    simp only [D.pys]
    exact ⟨_, .cons q q2, fun z => by
      simp only [D.noLs, Bool.and_eq_true] at z
      rw [List.mem_append, not_or]
      exact ⟨f z.1, f2 z.2⟩⟩
theorem dnk_reads (I : Inv X pins σ H s) (m : Mon S H) : ∀ (ds : List (Key × D)) (vs : List V) (us : List Value), Dns G S vs (ds.map (·.2)) → D.noOk ds = true → Vals vs us → ∃ as, ReadsAll s.heap us (D.pys (ds.map (·.2))) as ∧ (D.noLk ds = true → sysModules ∉ as)
  | [], _, _, .nil, _, .nil => ⟨[], by simp only [List.map_nil, D.pys]; exact .nil, fun _ => by simp⟩
  | (k, d) :: ds, _, _, .cons h hs, no, .cons r rs => by
    simp only [D.noOk, Bool.and_eq_true] at no
    obtain ⟨as, q, f⟩ := dn_reads I m d _ _ h no.1 r
    obtain ⟨bs, q2, f2⟩ := dnk_reads I m ds _ _ hs no.2 rs
    simp only [List.map_cons, D.pys]
    exact ⟨_, .cons q q2, fun z => by
      simp only [D.noLk, Bool.and_eq_true] at z
      rw [List.mem_append, not_or]
      exact ⟨f z.1, f2 z.2⟩⟩
end
end
/-- one's own things read as still ones -/
theorem Cur.look {G : Gam} {M : Eff} {ρ : Rho} {σ : L2.St} {S H : Hp} {v : V} {d : D} (o : Ok G M ρ σ S H) (c : Cur G ρ σ S v d) : ∃ T, Mon T H ∧ Dn G T v d := by
  rcases c with c | ⟨i, h1, h2⟩
  · exact ⟨S, o.sub, c⟩
  · obtain ⟨l, e, hs, hf, ow⟩ := o.ev i _ h1
    rw [h2] at e
    cases e
    have mk : ∀ u, H l = some u → Mon S (upd S l u) ∧ Mon (upd S l u) H := fun u e => ⟨Mon.of fun a w z => by
      rw [upd_ne (ne_of_none z hs)]
      exact z, fun a w z => by
      by_cases q : a = l
      · subst q
        rw [upd_same] at z
        cases z
        exact ⟨_, e, rfl, fun _ => rfl⟩
      · rw [upd_ne q] at z
        exact o.sub a w z⟩
    cases d with
    | lst ds =>
      obtain ⟨vs, h1, h2⟩ := ow
      obtain ⟨a, b⟩ := mk _ h1
      exact ⟨_, b, .lst upd_same (h2.mono a)⟩
    | dct ds =>
      obtain ⟨vs, h1, h2⟩ := ow
      obtain ⟨a, b⟩ := mk _ h1
      exact ⟨_, b, .dct (.inl upd_same) (h2.mono a)⟩
    | dtt ds =>
      obtain ⟨vs, h1, h2⟩ := ow
      obtain ⟨a, b⟩ := mk _ h1
      exact ⟨_, b, .dcT (.inl upd_same) (h2.mono a)⟩
    | _ => exact ow.elim
/-- data whose repr is told -/
structure D.shw (d : D) : Prop where
  no : d.noO = true
  sh : d.py.showable = true
  sz : d.py.shown.length ≤ LIM
  dp : d.py.depth ≤ 60
  ls : d.py.hasDict = true → d.noL = true
def reprW (d : D) (R : D → Prop) : Prop := d.shw ∧ R (.str d.py.shown)
section
variable {X : Cx} {G : Gam} {a : Expr} {ta : TE} {wa : WE} {pos : Pos}
def rRepr (G : Gam) : List V → Hp → VK → Prop := fun xs H Q => ∃ (x : V) (S : Hp) (d : D), xs = [x] ∧ Mon S H ∧ Dn G S x d ∧ d.shw ∧ Q (.str d.py.shown) H
theorem call_repr (g : X.A.guards = some []) (hu : X.A.units + 64 < cLine) : CallR X (.builtin "repr") (rRepr G) := by
  intro pins s σ H xs us Q I r h
  obtain ⟨x, S, d, rfl, m, dn, sw, q⟩ := h
  obtain ⟨u, rfl, ru⟩ := vals1 r
  obtain ⟨as, rd, f⟩ := dn_reads I m d x u dn sw.no ru
  have dp := sw.dp
  have fin : ∀ h' t tk, (∀ b o, s.heap.get? b = some o → h'.get? b = some o) → EP X pins σ Q (.str d.py.shown t) { s with heap := h', toks := tk } := fun h' t tk k => ⟨.str d.py.shown, H, I.kept k, ⟨t, rfl⟩, q⟩
  have sz : d.py.shown.length ≤ sizeLine := lim sw.sz
  have onref : ∀ p, u = .ref p → wpAny (model X.prog X.w) X.A (call (.builtin "repr") [u]) (EP X pins σ Q) X.xe s := fun p e => by
    subst e
    exact repr_of_reads' rd sw.sh (fun z => f (sw.ls z)) g (by omega) (fun _ _ e => e) (fun h' t tk k => fin h' t tk k) sz
  cases dn with
  | non =>
    cases ru
    simp only [D.py, PyData.shown] at fin
    exact P.repr_of_none (fin _ _ _ fun _ _ e => e)
  | bl b =>
    cases ru
    simp only [D.py, PyData.shown] at fin
    exact P.repr_of_bool (fin _ _ _ fun _ _ e => e)
  | int i =>
    obtain ⟨t, rfl⟩ := ru
    have sh := sw.sh
    simp only [D.py, PyData.shown, PyData.showable, decide_eq_true_eq] at fin sh
    exact P.repr_of_int sh (fin _ _ _ fun _ _ e => e)
  | str x =>
    obtain ⟨t, rfl⟩ := ru
    simp only [D.py, PyData.shown] at fin sz
    exact P.repr_of_str (fin _ _ _ fun _ _ e => e) sz
  | lst _ _ => exact onref _ ru
  | tup _ _ => exact onref _ ru
  | dct _ _ => exact onref _ ru
  | dcT _ _ => exact onref _ ru
  | obj _ _ _ => exact onref _ ru
  | scr _ => exact onref _ ru
theorem bb_repr : bootBuiltins "repr" = some (.builtin "repr") := by decide +kernel
theorem rc_repr : RC G (rRepr G) reprW := fun M ρ σ S H R Q x d o c w k => by
  obtain ⟨T, m, dn⟩ := c.look o
  exact ⟨x, T, d, rfl, m, dn, w.1, k _ _ S H w.2 (.str _) o.refl⟩
theorem d_repr (g : X.A.guards = some []) (hu : X.A.units + 64 < cLine) (hm : X.mg "repr" = none) {p : Pos} (ha : DC X G a ta wa) (hg : Gl X "repr" := by rfl) (hs : starEach [a] X.env = (false, eval a X.env) :: starEach [] X.env := by rfl) (hpl : (backTo pos (starEach [] X.env)).any (·.1) = false := by rfl) :
    DE X G (.Call (.Name "repr" p) [a] [] pos) (tCB (rRepr G) (tCons ta tNil)) (wOne reprW wa) := d_b1 (call_repr g hu) rc_repr hm bb_repr ha hg (by decide) (by decide) hs hpl
end

/-! ### what changes a thing of one's own -/
section
variable {X : Cx} {G : Gam} {a b e : Expr} {ta tb te : TE} {wa wb we : WE} {pos : Pos}
/-- x.append(e) -/
def wApp (i : Nat) (we : WE) : WS := fun M N ρ => match ρ[i]? with
  | some (.own (.lst ds)) => we M ρ fun d => ds.length < LIM ∧ N.nx (ρ.set i (.own (.lst (ds ++ [d]))))
  | _ => False
theorem s_append (i : Nat) {x : Str} {p apos cpos : Pos} (he : DE X G e te we) (hN : X.N[i]? = some x := by rfl) (hv : Vis X.env.scope x := by first | exact Or.inl rfl | exact Or.inr (Or.inl rfl) | exact Or.inr (Or.inr rfl)) (hd : (x == ("__debug__" : Str)) = false := by decide) (hcd : (x == ("__classdict__" : Str)) = false := by decide)
    (hbase : attributeBase (.Name x p) "append" X.env (eval (.Name x p) X.env) = eval (.Name x p) X.env := by rfl)
    (hfew : ((backTo cpos (starEach [e] X.env)).all (fun x => !x.1) && (backToKw cpos (keywordEach [] X.env)).all (fun x => x.1.isSome) && decide (([e] : List Expr).length + ([] : List Keyword).length + (if ([] : List Keyword).isEmpty then 0 else 1) < 30)) = true := by rfl)
    (hline : (apos.endLine == cpos.line) = true := by rfl) (hs : starEach [e] X.env = (false, eval e X.env) :: starEach [] X.env := by rfl) (hpl : (backTo cpos (starEach [] X.env)).any (·.1) = false := by rfl)
    (hsw : swapsWith (.Call (.Attribute (.Name x p) "append" apos) [e] [] cpos) none pos.line X.env = pure false := by rfl) :
    DS X G (.Expr (.Call (.Attribute (.Name x p) "append" apos) [e] [] cpos) pos) (tDrop (tBM X.K "list" rAppend (tVar i) (tCons te tNil))) (wApp i we) :=
  ⟨ps_expr (pe_bm PySem.F.plainAttrs_list PySem.F.slot_list_append PySem.F.type_list_append mt_append (pe_var hN hv hd hcd) (pa_cons he.pe pa_nil hs) hbase hfew hline hs hpl) hsw, fun M S0 H0 Sb ρ σ S H D N z L w => by
    unfold wApp at w
    split at w
    · rename_i ds hi
      obtain ⟨l, hl, hs, hf, vs, hv, dn⟩ := z.ok.ev i _ hi
      refine ⟨.ref l, hl, .inl ⟨rfl, vs, SqL.of hv⟩, he.se M ρ σ S H _ _ z.ok w fun d v S' H' r dv st => ?_⟩
      have z' := z.step st
      have hv' : H' l = some (.lst vs) := st.keep l _ hf hv
      refine ⟨l, vs, v, rfl, rfl, hv', ?_, L.nx _ _ _ _ (z'.put hi hl (e := .lst (ds ++ [d])) ⟨_, upd_same, (dn.mono st.mono).append (.one dv)⟩) r.2⟩
      rw [dn.len]
      exact lim1 r.1
    · exact w.elim⟩
/-- x.extend(e), e a list -/
def wExt (i : Nat) (we : WE) : WS := fun M N ρ => match ρ[i]? with
  | some (.own (.lst ds)) => we M ρ fun d => match d with
    | .lst es => ds.length + es.length ≤ LIM ∧ N.nx (ρ.set i (.own (.lst (ds ++ es))))
    | _ => False
  | _ => False
theorem s_extend (i : Nat) {x : Str} {p apos cpos : Pos} (he : DC X G e te we) (hN : X.N[i]? = some x := by rfl) (hv : Vis X.env.scope x := by first | exact Or.inl rfl | exact Or.inr (Or.inl rfl) | exact Or.inr (Or.inr rfl)) (hd : (x == ("__debug__" : Str)) = false := by decide) (hcd : (x == ("__classdict__" : Str)) = false := by decide)
    (hbase : attributeBase (.Name x p) "extend" X.env (eval (.Name x p) X.env) = eval (.Name x p) X.env := by rfl)
    (hfew : ((backTo cpos (starEach [e] X.env)).all (fun x => !x.1) && (backToKw cpos (keywordEach [] X.env)).all (fun x => x.1.isSome) && decide (([e] : List Expr).length + ([] : List Keyword).length + (if ([] : List Keyword).isEmpty then 0 else 1) < 30)) = true := by rfl)
    (hline : (apos.endLine == cpos.line) = true := by rfl) (hs : starEach [e] X.env = (false, eval e X.env) :: starEach [] X.env := by rfl) (hpl : (backTo cpos (starEach [] X.env)).any (·.1) = false := by rfl)
    (hsw : swapsWith (.Call (.Attribute (.Name x p) "extend" apos) [e] [] cpos) none pos.line X.env = pure false := by rfl) :
    DS X G (.Expr (.Call (.Attribute (.Name x p) "extend" apos) [e] [] cpos) pos) (tDrop (tBM X.K "list" rExtend (tVar i) (tCons te tNil))) (wExt i we) :=
  ⟨ps_expr (pe_bm PySem.F.plainAttrs_list PySem.F.slot_list_extend PySem.F.type_list_extend mt_extend (pe_var hN hv hd hcd) (pa_cons he.pe pa_nil hs) hbase hfew hline hs hpl) hsw, fun M S0 H0 Sb ρ σ S H D N z L w => by
    unfold wExt at w
    split at w
    · rename_i ds hi
      obtain ⟨l, hl, hs, hf, vs, hv, dn⟩ := z.ok.ev i _ hi
      refine ⟨.ref l, hl, .inl ⟨rfl, vs, SqL.of hv⟩, he.sc M ρ σ S H _ _ z.ok w fun d v S' H' r dv st => ?_⟩
      split at r
      · rename_i es
        have z' := z.step st
        have hv' : H' l = some (.lst vs) := st.keep l _ hf hv
        obtain ⟨q, us, rfl, hq, de⟩ := dv.lst z'.ok
        refine ⟨l, q, vs, us, rfl, rfl, hv', hq, ?_, L.nx _ _ _ _ (z'.put hi hl (e := .lst (ds ++ es)) ⟨_, upd_same, (dn.mono st.mono).append de⟩) r.2⟩
        rw [dn.len, de.len]
        exact lim r.1
      · exact r.elim
    · exact w.elim⟩
/-- x[k] = e, x a dict -/
def putD {κ : Type} [DecidableEq κ] (ds : List (κ × D)) (k : κ) (d : D) : List (κ × D) := if (ds.any fun p => decide (p.1 = k)) = true then ds.map (fun p => if p.1 = k then (p.1, d) else p) else ds ++ [(k, d)]
theorem Dks.any {S : Hp} (k : Key) : ∀ {ks : List (Key × V)} {ds : List (Key × D)}, Dks G S ks ds → (ks.any fun p => decide (p.1 = k)) = ds.any fun p => decide (p.1 = k)
  | _, _, .nil => rfl
  | _, _, .cons _ h => by rw [List.any_cons, List.any_cons, Dks.any k h]
theorem Dks.repl {S : Hp} (k : Key) {v : V} {d : D} (hv : Dn G S v d) : ∀ {ks : List (Key × V)} {ds : List (Key × D)}, Dks G S ks ds → Dks G S (ks.map fun p => if p.1 = k then (p.1, v) else p) (ds.map fun p => if p.1 = k then (p.1, d) else p)
  | _, _, .nil => .nil
  | _, _, .cons (k := k') h hs => by
    rw [List.map_cons, List.map_cons]
    by_cases e : k' = k
    · rw [if_pos e, if_pos e]
      exact .cons hv (Dks.repl k hv hs)
    · rw [if_neg e, if_neg e]
      exact .cons h (Dks.repl k hv hs)
theorem Dks.append {S : Hp} : ∀ {ks ls : List (Key × V)} {ds es : List (Key × D)}, Dks G S ks ds → Dks G S ls es → Dks G S (ks ++ ls) (ds ++ es)
  | _, _, _, _, .nil, h => h
  | _, _, _, _, .cons h hs, h2 => .cons h (Dks.append hs h2)
theorem Dks.put {S : Hp} (k : Key) {v : V} {d : D} (hv : Dn G S v d) {ks : List (Key × V)} {ds : List (Key × D)} (h : Dks G S ks ds) : Dks G S (putK ks k v) (putD ds k d) := by
  unfold putK putD
  rw [h.any k]
  split
  · exact h.repl k hv
  · exact h.append (.cons hv .nil)
def toKey : D → Option Key
  | .int i => some (.inl i)
  | .str x => some (.inr x)
  | _ => none
def wPut (i : Nat) (wk we : WE) : WS := fun M N ρ => match ρ[i]? with
  | some (.own (.dct ds)) => we M ρ fun d => wk M ρ fun kd => ∃ k, toKey kd = some k ∧ ds.length < LIM ∧ N.nx (ρ.set i (.own (.dct (putD ds k d))))
  | _ => False
theorem toKey_dn {S : Hp} {v : V} {d : D} {k : Key} (h : Dn G S v d) (e : toKey d = some k) : v = kV k := by
  cases h <;> simp [toKey] at e <;> subst e <;> rfl
theorem s_put (i : Nat) {x : Str} {p pos' : Pos} {kx : Expr} {tk : TE} {wk : WE} (hu : X.A.units + 1 < cLine) (hk : DE X G kx tk wk) (he : DE X G e te we) (hN : X.N[i]? = some x := by rfl) (hv : Vis X.env.scope x := by first | exact Or.inl rfl | exact Or.inr (Or.inl rfl) | exact Or.inr (Or.inr rfl)) (hd : (x == ("__debug__" : Str)) = false := by decide) (hcd : (x == ("__classdict__" : Str)) = false := by decide)
    (hs : swapsWith e (some (.Subscript (.Name x p) kx pos')) pos.line X.env = pure false := by rfl) : DS X G (.Assign [.Subscript (.Name x p) kx pos'] e pos) (sDPut (tVar i) tk te) (wPut i wk we) :=
  ⟨ps_dput hu (pe_var hN hv hd hcd) hk.pe he.pe hs, fun M S0 H0 Sb ρ σ S H D N z L w => by
    unfold wPut at w
    split at w
    · rename_i ds hi
      obtain ⟨l, hl, hs, hf, ks, hv, dn⟩ := z.ok.ev i _ hi
      refine he.se M ρ σ S H _ _ z.ok w fun d v S1 H1 r1 dv s1 => ⟨.ref l, hl, hk.se M ρ σ S1 H1 _ _ (z.ok.step s1) r1 fun kd kv S2 H2 r2 dk s2 => ?_⟩
      obtain ⟨k, ek, hlim, r2⟩ := r2
      have st := s1.trans s2
      have hv' : H2 l = some (.dK ks) := st.keep l _ hf hv
      have dn2 := dn.mono st.mono
      refine ⟨l, _, rfl, .inl ⟨ks, k, hv', toKey_dn dk ek, by rw [dn.len]; exact lim1 hlim, rfl⟩, L.nx _ _ _ _ ((z.step st).put hi hl (e := .dct (putD ds k d)) ⟨_, upd_same, dn2.put k (dv.mono s2.mono)⟩) r2⟩
    · exact w.elim⟩
end
end HB
namespace HB
open PySem L2

/-! ### draws -/
def DrawJ (dr cl : Addr) (H : Hp) : Prop := dr ≠ cl ∧ ∃ (i m : Int) (cs : List Int), H dr = some (.lst [.ref cl, .int i, .int m]) ∧ H cl = some (.lst (cs.map V.int)) ∧ 0 ≤ m ∧ m < 2147483647 ∧ cs ≠ [] ∧ cs.length ≤ 63 ∧ ∀ c ∈ cs, 0 ≤ c
def Mdr (dr cl : Addr) : Eff where
  F a := a = dr ∨ a = cl
  J := DrawJ dr cl
  loc H T e j := by
    obtain ⟨n, i, m, cs, h1, h2, r⟩ := j
    exact ⟨n, i, m, cs, (e dr (.inl rfl)).trans h1, (e cl (.inr rfl)).trans h2, r⟩
  dom H j a f := by
    obtain ⟨n, i, m, cs, h1, h2, r⟩ := j
    rcases f with rfl | rfl
    · rw [h1]; simp
    · rw [h2]; simp
/-- a draw: below many -/
def sDraw : Spec := fun M evs R => ∃ dr cl m, evs = [.fix (.ref dr), .dat (.int m)] ∧ M = Mdr dr cl ∧ 0 < m ∧ m < 2 ^ 62 ∧ ∀ r : Int, 0 ≤ r → r < m → R (.int r)
def spDraw : Sp := fun vs H Q _ => ∃ (dr cl : Addr) (m : Int), vs = [.ref dr, .int m] ∧ DrawJ dr cl H ∧ 0 < m ∧ m < 2 ^ 62 ∧ ∀ (r : Int) H', 0 ≤ r → r < m → DrawJ dr cl H' → (∀ a, a ≠ dr → a ≠ cl → H' a = H a) → Q (.int r) H'
theorem FG.draw {P : Program} {w : World} {K : PySem.W.Frag} {mg : Str → Option Value} {base : Heap} {CX : CXT} {k : Nat} {f : Addr} {fd : FuncData} {ps : List Str} {G : Gam} (hl : ps.length = 2) (F : FG P w K mg base CX k f fd ps spDraw) : FG P w K mg base CX k f fd ps (spF G 2 sDraw) :=
  ⟨fun vs H Q E h => by rw [spF_len h, hl], fun A outer s H args us vs Q E g r e b rv h => F.run A outer s H args us vs Q E g r e b rv (by
    obtain ⟨M, S, evs, R, ok, no, _, ⟨dr, cl, m, rfl, rfl, h0, h1, q⟩, k⟩ := h
    have hl := ok.len
    match vs, hl with
    | [a, b], _ =>
      have e1 := ok.ev 0 _ rfl
      have e2 := ok.ev 1 _ rfl
      obtain ⟨v, e2, dv⟩ := e2
      cases dv
      cases e1
      cases e2
      refine ⟨dr, cl, m, rfl, ok.j, h0, h1, fun r H' r0 r1 j fr => k _ _ S H' (q r r0 r1) (.int r) ⟨Mon.refl S, fun a u e => ?_, j, fun a u nf e => ?_, fun a u e => .inl ⟨u, e⟩, ok.nof, fun a e => ?_⟩⟩
      · have nf := ok.nof a u e
        rw [fr a (fun z => nf (.inl z)) fun z => nf (.inr z)]
        exact ok.sub a u e
      · rw [fr a (fun z => nf (.inl z)) fun z => nf (.inr z)]
        exact e
      · by_cases z1 : a = dr
        · obtain ⟨_, i, m, cs, h1, _⟩ := j
          rw [z1, h1]; simp
        · by_cases z2 : a = cl
          · obtain ⟨_, i, m, cs, _, h1, _⟩ := j
            rw [z2, h1]; simp
          · rw [fr a z1 z2]
            exact e)⟩
theorem at3 {a b c : V} : atI [a, b, c] 0 = some a ∧ atI [a, b, c] 1 = some b ∧ atI [a, b, c] 2 = some c := ⟨rfl, rfl, rfl⟩
end HB
namespace HB
open PySem PySem.Spec PyProof.Rows L2

/-! ### the end, for promises that ask for no guards -/
/-- the answer at the top: True, and all as it was -/
abbrev Yes (z : Shared) : Except Value Flow → Shared → Prop := fun r s' => r = .ok (.ret (.bool true)) ∧ OldK z.heap s'.heap ∧ s'.os = z.os ∧ AllBare s'.gens
/-- the script, alone in the tracked heap (or nothing, where it is the text's own) -/
structure Lone (K : PySem.W.Frag) (P : Program) (w : World) (z : Shared) (p : Addr) (ns : List Int) (H : Hp) : Prop where
  fz : Only H
  sq : SqL K H p (ns.map V.int)
  ok : HOk P w H z.heap
  at_ : ∀ b, H b ≠ none → b = p
  out : H p ≠ none → K.lookup p = none
theorem callG {P : Program} {w : World} {K : PySem.W.Frag} {mg mb : Str → Option Value} {CX : CXT} {k : Nat} {g p : Addr} {fd : FuncData} {x : Str} {sp : Sp} {z : Shared} {us : List Value} {ns : List Int} {H : Hp}
    (kin : K.In z.heap) (gl : z.heap.Ns mainGlobals mg) (bl : z.heap.Ns builtinsNs mb) (bt : ∀ y : Str, y ≠ "__name__" → mb y = bootBuiltins y) (lim : z.heap.NoLimit) (gn : z.gens = #[])
    (hp : z.heap.get? p = some { cls := .type "list", data := .seq us.toArray }) (room : Room k callerA) (L : Lone K P w z p ns H)
    (F : ∀ base : Heap, K.In base → base.Ns mainGlobals mg → FG P w K mg base CX k g fd [x] sp) (bnd : BindsTo z fd ⟨[.ref p], []⟩ [(x, .ref p)])
    (hs : sp [.ref p] H (fun v _ => v = .bl true) fun _ _ _ => False) (no : ∀ e s', CX [] H z (fun _ _ _ => False) e s' → False) : codeAny (model P w) callerA (.call (.ref g) ⟨[.ref p], []⟩) (Yes z) z := by
  have untracked : ∀ {b : Addr} {o : Obj}, z.heap.get? b = some o → b ≠ p → H b = none := fun {b o} _ n => Classical.byContradiction fun q => n (L.at_ b q)
  have kept : ∀ {b : Addr} {o : Obj}, z.heap.get? b = some o → H b = none → (hidT z.heap H).get? b = some o := fun a b => hidT_get a b
  have nsT : ∀ {b : Addr} {m : Str → Option Value}, z.heap.Ns b m → (hidT z.heap H).Ns b m := by
    rintro b m ⟨o, es, ep, e, d, r⟩
    refine ⟨o, es, ep, kept e (untracked e fun q => ?_), d, r⟩
    subst q
    rw [hp] at e
    cases e
    exact nomatch (show Data.seq us.toArray _ = Data.dict es ep from d)
  have kin' : K.In (hidT z.heap H) := by
    intro b o e
    refine kept (kin b o e) (Classical.byContradiction fun q => ?_)
    have q2 := L.at_ b q
    subst q2
    rw [L.out q] at e
    cases e
  obtain ⟨mc, hc1, hc2⟩ := lim
  have md : Mod K mg (hidT z.heap H) := ⟨kin', nsT gl, ⟨mb, nsT bl, bt⟩, ⟨mc, nsT hc1, hc2⟩⟩
  have e0 : Env0 P w K mg (hidT z.heap H) callerA [] z H := by
    refine ⟨rfl, md, fun b o e => of_hidT e, Nat.le_of_eq (hidT_size _ _), trivial, ?_, L.ok, .of_eq gn⟩
    intro b hb
    exact absurd (show b ∈ ([] : List Addr) from hb) (by simp)
  have run := (F _ kin' (nsT gl)).run callerA [] z H ⟨[.ref p], []⟩ [.ref p] [.ref p] _ _ rfl room e0 bnd (.cons rfl .nil) hs
  refine codeAny_mono run ?_
  rintro (e | fl) s' q
  · exact (no e s' q).elim
  cases fl with
  | ret u =>
    obtain ⟨v, H', os, bare, un, ok', rv, e⟩ := q
    cases (show v = .bl true from e)
    cases (show u = Value.bool true from rv)
    refine ⟨rfl, OldK.of_keep ?_, os, bare⟩
    intro b o hb
    cases hq : H b with
    | none => exact un.keep b o hb hq (by intro y; exact absurd (show b ∈ ([] : List Addr) from y) (by simp)) (by simp)
    | some y =>
      rcases L.fz b with n | ⟨ob, xs, n⟩
      · rw [hq] at n
        cases n
      · obtain ⟨a1, _⟩ := L.ok b _ n
        obtain ⟨a2, _⟩ := ok' b _ (un.frzs b ob _ n)
        rw [hb] at a1
        cases a1
        exact a2
  | _ => exact False.elim q
theorem lone {K : PySem.W.Frag} {P : Program} {w : World} {z : Shared} {p : Addr} {us : List Value} {ns : List Int} (kin : K.In z.heap) (hp : z.heap.get? p = some { cls := .type "list", data := .seq us.toArray }) (hi : IntsAre us ns) (hl : ns.length ≤ sizeLine) : ∃ H, Lone K P w z p ns H := by
  have rv := vals_ints hi
  have le := hi.length
  cases hk : K.lookup p with
  | some o =>
    have e := kin p o hk
    rw [hp] at e
    cases e
    refine ⟨fun _ => none, fun _ => .inl rfl, .inr ⟨_, us.toArray, _, hk, rfl, rfl, rfl, ?_, by simpa using rv⟩, ?_, ?_, ?_⟩
    · rw [List.size_toArray, le]
      exact hl
    · intro b u e
      exact nomatch (show (none : Option HO) = some u from e)
    · exact fun b e => absurd rfl e
    · exact fun e => absurd rfl e
  | none =>
    refine ⟨fun b => if b = p then some (.frz { cls := .type "list", data := .seq us.toArray } (.lst (ns.map V.int))) else none, ?_, .inl (.inr ⟨_, if_pos rfl⟩), ?_, ?_, fun _ => hk⟩
    · intro b
      by_cases q : b = p
      · exact .inr ⟨_, _, if_pos q⟩
      · exact .inl (if_neg q)
    · intro b u e
      by_cases q : b = p
      · cases (if_pos q).symm.trans e
        subst q
        exact ⟨hp, by rw [List.length_map]; exact hl, us, _, rv, hp⟩
      · exact nomatch (if_neg q).symm.trans e
    · intro b e
      exact Classical.byContradiction fun q => e (if_neg q)
theorem walkG {l : PySem.W.OpenLaw} {n k : Nat} {q : Program} {loose : List Str} {XP : (Str → Option Value) → Heap → Prop} {YP : World → Heap → Prop} {d : DefRec} {K : Params → PySem.W.Frag} {CX : CXT} {sp : PySem.W.Frag → Sp} {x : Str}
    (hn : l.most = some n) (small : n ≤ sizeLine) (hdf : d.params.defaults = []) (room : Room k callerA) (hY : ∀ (w : World) (h : Heap), YP w h → (K w.params).In h)
    (F : ∀ (w : World) (mg : Str → Option Value) (fa : Addr) (h : Heap), (K w.params).In h → h.Ns mainGlobals mg → mg d.name = some (.ref fa) → ∃ fd : FuncData, (∀ (s : Shared) (u : Value), BindsTo s fd ⟨[u], []⟩ [(x, u)]) ∧
        ∀ base : Heap, (K w.params).In base → base.Ns mainGlobals mg → FG l.prog w (K w.params) mg base CX k fa fd [x] (sp (K w.params)))
    (hs : ∀ (K : PySem.W.Frag) (H : Hp) (a : Addr) (ns : List Int), ns.length ≤ n → Only H → SqL K H a (ns.map V.int) → sp K [.ref a] H (fun v _ => v = .bl true) fun _ _ _ => False)
    (no : ∀ (H : Hp) (s : Shared) (e : Value) (s' : Shared), CX [] H s (fun _ _ _ => False) e s' → False) : PySem.W.WalkO q loose XP YP l.row.toRowW d [] (fun f vs => PySem.call f vs) := by
  refine Att.attach_call hn hdf ?_
  intro w s₀ z mg mb fa o pm cd doc a us ns G Y ho hd hcd hmg hobj hints hlen gn
  have kin := hY w _ Y
  obtain ⟨fd, bnd, hF⟩ := F w mg fa _ kin G.T.g hmg
  obtain ⟨H, L⟩ := lone (P := l.prog) (w := w) kin hobj hints (Nat.le_trans hlen small)
  exact callG kin G.T.g G.T.b G.T.builtins G.T.nolimit gn hobj room L hF (bnd z _) (hs _ H a ns hlen L.fz L.sq) fun e s' => no H z e s'

/-! ### the draws' beginning, the law -/
def spState (K : PySem.W.Frag) : Sp := fun vs H Q _ => ∃ (a : Addr) (ns : List Int), vs = [.ref a] ∧ SqL K H a (ns.map V.int) ∧ ns.length ≤ 63 ∧ Only H ∧ ∀ (dr cl : Addr) (H' : Hp), H dr = none → H cl = none → DrawJ dr cl H' → (∀ b u, H b = some u → H' b = some u) → Q (.ref dr) H'
def spLaw (K : PySem.W.Frag) : Sp := fun vs H Q _ => ∃ (a : Addr) (ns : List Int), vs = [.ref a] ∧ SqL K H a (ns.map V.int) ∧ ns.length ≤ 63 ∧ Only H ∧ ∀ H', Q (.bl true) H'
section
variable {P : Program} {w : World} {K : PySem.W.Frag} {mg : Str → Option Value} {base : Heap} {CX : CXT} {k : Nat} {G : Gam}
def cellsOf (ns : List Int) : List Int := if (ns.take 63).isEmpty = true then [1] else (ns.take 63).map fun i => if i < 0 then -i else i
/-- the def whose body is `return [[abs(cell) for cell in script[:63]] or [1], 0, 1]` -/
theorem state_of {f : Addr} {fd : FuncData} {x qual : Str} {st : Stmt} {N : List Str} {e : Expr} {pos : Pos} {W : WE} (F : L2.Fun K x qual st f fd) (S : FnScope N ["script"] (defScope st)) (hK : G.K = K) (hbody : defBody st = [.Return (some e) pos])
    (hb : ∀ (cdv : Value) (A : Around) (outer : List PySem.Env) (s : Shared) (H : Hp) (E : XK), Room k (A.deeper (envOfC qual (defScope st) s.heap.objs.size f cdv)) → ∃ t, DN (cxOf CX P w K mg base N qual (defScope st) f cdv A outer s H E).nox G e t W)
    (hw : ∀ (ns : List Int) (R : D → Prop), R (.lst [.lst ((cellsOf ns).map .int), .int 0, .int 1]) → W eff0 (.dat (.scr ns) :: List.replicate (N.length - 1) .no) R) : FG P w K mg base CX (k + 1) f fd ["script"] (spState K) :=
  Fun.okG F S (fun vs H Q E h => by obtain ⟨a, ns, rfl, _⟩ := h; rfl) fun cdv A outer s H vs Q E g r h => by
    obtain ⟨t, b⟩ := hb cdv A outer s H E r
    rw [hbody]
    refine ⟨_, pss_one (ps_ret b.pe), ?_⟩
    obtain ⟨a, ns, rfl, sq, len, only, q⟩ := h
    have o0 : Ok G eff0 [.dat (.scr ns)] (([V.ref a]).map some) H H := by
      refine ⟨rfl, fun i x e => ?_, fun i j d e l h1 => ?_, Mon.refl H, trivial, fun _ _ _ => id⟩
      · cases i with
        | zero =>
          cases e
          exact ⟨_, rfl, .scr (hK ▸ sq)⟩
        | succ i => simp at e
      · cases i with
        | zero => cases h1
        | succ i => simp at h1
    have o1 := o0.start (N := N)
    refine b.sn eff0 _ _ H H (fun d => d = .lst [.lst ((cellsOf ns).map .int), .int 0, .int 1]) _ o1 (hw ns _ rfl) fun d l S' H' rd hl hs ow t => ?_
    subst rd
    obtain ⟨vs, hv, dn⟩ := ow
    cases dn with
    | cons h1 dn =>
      cases dn with
      | cons h2 dn =>
        cases dn with
        | cons h3 dn =>
          cases dn
          cases h2
          cases h3
          cases h1 with
          | @lst cl us _ hc hcs =>
            have hc' := t.sub.lst hc
            have us' : us = (cellsOf ns).map V.int := by
              have key : ∀ (us : List V) (cs : List Int), Dns G S' us (cs.map D.int) → us = cs.map V.int := by
                intro us cs
                induction cs generalizing us with
                | nil =>
                  intro h
                  cases h
                  rfl
                | cons c cs ih =>
                  intro h
                  cases h with
                  | cons h hs =>
                    cases h
                    rw [ih _ hs]
                    rfl
              exact key _ _ hcs
            subst us'
            have c0 : H cl = none := by
              rcases t.fresh cl _ hc with ⟨u, z⟩ | z
              · rcases only cl with n | ⟨ob, xs, n⟩
                · exact n
                · have := t.mono.get n rfl
                  rw [hc] at this
                  cases this
              · exact z
            refine q l cl H' hl c0 ⟨fun e => ?_, 0, 1, cellsOf ns, hv, hc', by decide, by decide, ?_, ?_, ?_⟩ fun b u e => t.keep b u id e
            · subst e
              rw [hs] at hc
              cases hc
            · unfold cellsOf
              split
              · simp
              · rename_i h
                intro z
                apply h
                simpa using z
            · unfold cellsOf
              split
              · simp
              · simp
                omega
            · unfold cellsOf
              intro c hc
              split at hc
              · simp at hc
                omega
              · simp only [List.mem_map] at hc
                obtain ⟨y, _, rfl⟩ := hc
                split <;> omega
/-- the law: its first line begins the draws, the rest is about data -/
theorem law_of {fl fs : Addr} {fd fds : FuncData} {x qual y z : Str} {st s0 : Stmt} {rest : List Stmt} {N : List Str} {W : WS} {p p1 p2 p3 : Pos} (FL : L2.Fun K x qual st fl fd) (S : FnScope N ["script"] (defScope st)) (hK : G.K = K) (FS : FG P w K mg base CX k fs fds ["script"] (spState K)) (hm : mg y = some (.ref fs)) (hk : PySem.W.keepIn K (.ref fs) = true) (hbd : Binds K fds ["script"] []) 
    (hx : ∀ X : Cx, Passes CX X fun _ _ _ => False) (hbody : defBody st = .Assign [.Name z p] (.Call (.Name y p1) [.Name "script" p2] [] p3) ⟨p.line, p.col, p3.endLine, p3.endCol⟩ :: rest)
    (hz : N[1]? = some z) : True := trivial
end
end HB
namespace HB
open PySem PySem.Spec PyProof.Rows L2

/-! ### defs by name, with their promise -/
structure DefAt (K : PySem.W.Frag) (mg : Str → Option Value) (x : Str) (st : Stmt) (ps : List Str) (f : Addr) (fd : FuncData) : Prop where
  F : L2.Fun K x x st f fd
  m : mg x = some (.ref f)
  b : Binds K fd ps []
def OKS (P : Program) (w : World) (K : PySem.W.Frag) (mg : Str → Option Value) (base : Heap) (CX : CXT) (k : Nat) (x : Str) (st : Stmt) (ps : List Str) (sp : Sp) : Prop := ∃ f fd, DefAt K mg x st ps f fd ∧ FG P w K mg base CX k f fd ps sp
theorem OKS.mono {P : Program} {w : World} {K : PySem.W.Frag} {mg : Str → Option Value} {base : Heap} {CX : CXT} {j k : Nat} {x : Str} {st : Stmt} {ps : List Str} {sp : Sp} (O : OKS P w K mg base CX j x st ps sp) (h : j ≤ k) : OKS P w K mg base CX k x st ps sp := by
  obtain ⟨f, fd, D, F⟩ := O
  refine ⟨f, fd, D, F.len, fun A outer s H args us vs Q E g r => F.run A outer s H args us vs Q E g (r.mono h)⟩
def wCallO (n : Nat) (spec : Spec) (W : Eff → Rho → (List EV → Prop) → Prop) : WE := fun M ρ R => W M ρ fun evs => evs.length = n ∧ spec M evs R
section
variable {X : Cx} {G : Gam} {CX : CXT} {k n : Nat} {x : Str} {st : Stmt} {ps : List Str} {spec : Spec} {E : XK} {p pos : Pos} {e : Expr} {es : List Expr} {t : TA} {W : Eff → Rho → (List EV → Prop) → Prop}
theorem se_callO (h : SX G t W) : SE G (fun σ H Q => t σ H fun vs T => spF G n spec vs T Q E) (wCallO n spec W) := fun M ρ σ S H R Q o w k =>
  h M ρ σ S H _ _ o w fun evs vs S1 H1 r1 o1 no s1 => ⟨M, S1, evs, R, o1, no, r1.1, r1.2, fun d v S' H' rd dn st => k d v S' H' rd dn (s1.trans st)⟩
theorem d_callO (O : OKS X.prog X.w X.K X.mg X.base CX k x st ps (spF G n spec)) (g : X.A.guards = some []) (room : Room k X.A) (hx : Passes CX X E) (ha : DX X G (e :: es) t W) (hg : Gl X x := by rfl) (hdb : (x == ("__debug__" : Str)) = false := by decide)
    (he : starEach (e :: es) X.env = (false, eval e X.env) :: starEach es X.env := by rfl) (hpl : (backTo pos (starEach es X.env)).any (·.1) = false := by rfl) : DE X G (.Call (.Name x p) (e :: es) [] pos) (fun σ H Q => t σ H fun vs T => spF G n spec vs T Q E) (wCallO n spec W) := by
  obtain ⟨f, fd, D, F⟩ := O
  exact ⟨pe_callG F g room hg D.m D.F.2 D.b hx ha.pa hdb he hpl, se_callO ha.sx⟩
/-- f() -/
theorem d_callO0 (O : OKS X.prog X.w X.K X.mg X.base CX k x st ps (spF G n spec)) (g : X.A.guards = some []) (room : Room k X.A) (hx : Passes CX X E) (hg : Gl X x := by rfl) (hdb : (x == ("__debug__" : Str)) = false := by decide) :
    DE X G (.Call (.Name x p) [] [] pos) (fun σ H Q => tNil σ H fun vs T => spF G n spec vs T Q E) (wCallO n spec xNil) := by
  obtain ⟨f, fd, D, F⟩ := O
  refine ⟨⟨fun pins s σ H Q I h => ?_⟩, se_callO (x_nil (X := X)).sx⟩
  exact wpAny_Call_Name_kw (ld_glob I hg D.m (PySem.W.callWith_K0 I.kIn D.F.2 (run_fg (us := []) F g room D.b hx I .nil h)) hdb)
/-- f(k=e, ..) -/
structure KB (K : PySem.W.Frag) (fd : FuncData) (ps ks : List Str) (n : Nat) : Prop where
  to : ∀ (s : Shared) (us ws : List Value), us.length = n → ws.length = ks.length → BindsTo s fd ⟨us, ks.zip ws⟩ (ps.zip (us ++ ws))
structure DXK (X : Cx) (G : Gam) (kws : List Keyword) (t : TA) (W : Eff → Rho → (List EV → Prop) → Prop) : Prop where
  pk : PK X kws t
  sx : SX G t W
theorem k_nil : DXK X G [] tNil xNil := ⟨pk_nil, (x_nil (X := X)).sx⟩
theorem k_cons {nm : Option Str} {kpos : Pos} {te : TE} {we : WE} {kws : List Keyword} (he : DE X G e te we) (hr : DXK X G kws t W) : DXK X G (⟨nm, e, kpos⟩ :: kws) (tCons te t) (xCons we W) :=
  ⟨pk_cons he.pe hr.pk, fun M ρ σ S H R Q o w k => he.se M ρ σ S H _ _ o w fun d v S1 H1 r1 c1 s1 => hr.sx M ρ σ S1 H1 _ _ (o.step s1) r1 fun evs vs S2 H2 r2 o2 no s2 => by
    obtain ⟨o3, n3⟩ := o2.arg no (x := .dat d) (v := v) ⟨v, rfl, c1.mono s2.mono⟩ (fun d e => by cases e)
    exact k _ _ S2 H2 r2 o3 n3 (s1.trans s2)⟩
theorem d_callK0 {ks : List Str} {kws : List Keyword} (O : OKS X.prog X.w X.K X.mg X.base CX k x st ps (spF G n spec)) (g : X.A.guards = some []) (room : Room k X.A) (hx : Passes CX X E) (hkb : ∀ f fd, DefAt X.K X.mg x st ps f fd → KB X.K fd ps ks 0) (hlen : ps.length = ks.length) (ha : DXK X G kws t W) (hg : Gl X x := by rfl) (hdb : (x == ("__debug__" : Str)) = false := by decide)
    (hall : (backToKw pos (keywordEach kws X.env)).all (·.1.isSome) = true := by rfl) (hks : (backToKw pos (keywordEach kws X.env)).filterMap (·.1) = ks := by rfl) (hpl : ((backTo pos (starEach [] X.env)).any (·.1) || (backToKw pos (keywordEach kws X.env)).any (·.1.isNone)) = false := by rfl) :
    DE X G (.Call (.Name x p) [] kws pos) (fun σ H Q => t σ H fun vs T => spF G n spec vs T Q E) (wCallO n spec W) := by
  obtain ⟨f, fd, D, F⟩ := O
  refine ⟨⟨fun pins s σ H Q I h => ?_⟩, se_callO ha.sx⟩
  refine wpAny_Call_Name_kw (ld_glob I hg D.m ?_ hdb)
  refine PySem.W.callWith_KW0 (h₀ := X.base) I.ok.mod.kin D.F.2 hall (thn (ha.pk.run pos pins s σ H _ I h) fun ws s2 z => ?_) hpl
  obtain ⟨zs, H2, I2, rz, q2⟩ := z
  refine ⟨I2.kIn, ?_⟩
  rw [hks]
  have hl : ws.length = ps.length := rz.length.symm.trans (F.len _ _ _ _ q2)
  have bd := (hkb f fd D).to s2 [] ws rfl (hl.trans hlen)
  refine wpAny_call (codeAny_mono (F.run X.A X.stack s2 H2 ⟨[], ks.zip ws⟩ ws zs Q E g room I2.env0 (by simpa using bd) rz q2) ?_)
  rintro (e | fl) s' q
  · exact hx pins σ H2 s2 e s' I2 q
  · cases fl with
    | ret u => exact I2.after q
    | _ => exact False.elim q

/-! ### a module's constants; a thing of one's own made still -/
theorem d_glS {z : Str} (hm : ∃ t, X.mg x = some (.str z t)) (hg : Gl X x := by rfl) (hd : (x == ("__debug__" : Str)) = false := by decide) : DE X G (.Name x pos) (tC (.str z)) (wC (.str z)) := by
  obtain ⟨t, h⟩ := hm
  exact d_gl h ⟨t, rfl⟩ (fun _ => .str _) hg hd
theorem d_glI {i : Int} (hm : ∃ t, X.mg x = some (.int i t)) (hg : Gl X x := by rfl) (hd : (x == ("__debug__" : Str)) = false := by decide) : DE X G (.Name x pos) (tC (.int i)) (wC (.int i)) := by
  obtain ⟨t, h⟩ := hm
  exact d_gl h ⟨t, rfl⟩ (fun _ => .int _) hg hd
def frzR (i : Nat) (ρ : Rho) : Rho := match ρ[i]? with
  | some (.own d) => ρ.set i (.dat d)
  | _ => ρ
theorem Stt.frz {M : Eff} {S0 H0 Sb : Hp} {ρ : Rho} {σ : L2.St} {S H : Hp} (z : Stt G M S0 H0 Sb ρ σ S H) (i : Nat) : ∃ S', Stt G M S0 H0 Sb (frzR i ρ) σ S' H := by
  unfold frzR
  split
  · rename_i d hi
    obtain ⟨l, hl, hs, hf, ow⟩ := z.ok.ev i _ hi
    have h0 := z.yg i d l hi hl
    -- the slot forgotten first
    have mk : ∀ u, H l = some u → Step M S0 H0 (upd S l u) H ∧ Mon S (upd S l u) := fun u e => by
      have m : Mon S (upd S l u) := Mon.of fun a w q => by
        rw [upd_ne (ne_of_none q hs)]
        exact q
      refine ⟨⟨z.st.mono.trans m, fun a w q => ?_, z.st.j, z.st.keep, fun a w q => ?_, fun a w q => ?_, z.st.there⟩, m⟩
      · by_cases e2 : a = l
        · subst e2
          rw [upd_same] at q
          cases q
          exact ⟨_, e, rfl, fun _ => rfl⟩
        · rw [upd_ne e2] at q
          exact z.st.sub a w q
      · by_cases e2 : a = l
        · subst e2
          exact .inr h0
        · rw [upd_ne e2] at q
          exact z.st.fresh a w q
      · by_cases e2 : a = l
        · subst e2
          exact hf
        · rw [upd_ne e2] at q
          exact z.st.nof a w q
    have fin : ∀ u, H l = some u → (∀ T, Mon S T → T l = some u → Dn G T (.ref l) d) → ∃ S', Stt G M S0 H0 Sb (ρ.set i (.dat d)) σ S' H := fun u e dn => by
      obtain ⟨st, m⟩ := mk u e
      have get : ∀ {j : Nat} {y : EV}, (ρ.set i (.dat d))[j]? = some y → (j = i ∧ y = .dat d) ∨ (j ≠ i ∧ ρ[j]? = some y) := fun {j y} q => by
        by_cases e2 : i = j
        · subst e2
          rw [List.getElem?_set_self (List.getElem?_eq_some_iff.mp hi).1] at q
          cases q
          exact .inl ⟨rfl, rfl⟩
        · rw [List.getElem?_set_ne e2] at q
          exact .inr ⟨fun e => e2 e.symm, q⟩
      refine ⟨upd S l u, ⟨⟨by simpa using z.ok.len, fun j y q => ?_, fun j j' d1 d2 l' a b c1 c2 => ?_, st.sub, st.j, st.nof⟩, st, fun j d1 l' a b => ?_, z.mo.trans m⟩⟩
      · rcases get q with ⟨rfl, rfl⟩ | ⟨ne, q⟩
        · exact ⟨_, hl, dn _ m upd_same⟩
        · have h := z.ok.ev j y q
          cases y with
          | no => trivial
          | dat d => exact let ⟨v, a, b⟩ := h; ⟨v, a, b.mono m⟩
          | own d2 =>
            obtain ⟨l2, a1, a2, a3, a4⟩ := h
            refine ⟨l2, a1, ?_, a3, a4.mono m fun _ e => e⟩
            rw [upd_ne]
            · exact a2
            · intro e2
              subst e2
              exact ne (z.ok.dist j i d2 d l2 q hi a1 hl)
          | fix v => exact h
      · rcases get a with ⟨_, e1⟩ | ⟨_, a⟩
        · cases e1
        · rcases get b with ⟨_, e1⟩ | ⟨_, b⟩
          · cases e1
          · exact z.ok.dist j j' d1 d2 l' a b c1 c2
      · rcases get a with ⟨_, e1⟩ | ⟨_, a⟩
        · cases e1
        · exact z.yg j d1 l' a b
    cases d with
    | lst ds =>
      obtain ⟨vs, h1, h2⟩ := ow
      exact fin _ h1 fun T m e => .lst e (h2.mono m)
    | dct ds =>
      obtain ⟨vs, h1, h2⟩ := ow
      exact fin _ h1 fun T m e => .dct (.inl e) (h2.mono m)
    | dtt ds =>
      obtain ⟨vs, h1, h2⟩ := ow
      exact fin _ h1 fun T m e => .dcT (.inl e) (h2.mono m)
    | _ => exact ow.elim
  · exact ⟨S, z⟩
def wFrz (i : Nat) (W : WS) : WS := fun M N ρ => W M N (frzR i ρ)
theorem ss_frz (i : Nat) {sts : List Stmt} {t : TS} {W : WS} (h : DSs X G sts t W) : DSs X G sts t (wFrz i W) := ⟨h.ps, fun M S0 H0 Sb ρ σ S H D N z L w => by
  obtain ⟨S', z'⟩ := z.frz i
  exact h.ss M S0 H0 Sb _ σ S' H D N z' L w⟩
/-- the law's own run behind the draws' beginning -/
theorem law_run {K : PySem.W.Frag} {t : TS} {W : WS} {N : List Str} {vs : List V} {H : Hp} {Q : VK} {E E' : XK} (hK : G.K = K) (h : spLaw K vs H Q E) (b : SS G t W)
    (hw : ∀ (ns : List Int) (dr cl : Addr), ns.length ≤ 63 → W (Mdr dr cl) ⟨fun _ => False, fun d => d = .bl true, fun _ => False, fun _ => False⟩ (.dat (.scr ns) :: .fix (.ref dr) :: List.replicate (N.length - 2) .no)) (hN : 2 ≤ N.length := by decide) :
    tSeq (tAsg (fun σ H Q => tCons (tVar 0) tNil σ H fun vs T => spState K vs T Q E') (gName 1)) t ⟨fun _ T => Q .non T, Q, fun _ _ => False, fun _ _ => False⟩ (L2.start N vs) H := by
  obtain ⟨a, ns, rfl, sq, len, only, q⟩ := h
  obtain ⟨m, hm⟩ : ∃ m, N.length = m + 2 := ⟨N.length - 2, by omega⟩
  have hst : L2.start N [V.ref a] = some (.ref a) :: none :: List.replicate (N.length - 2) none := by
    unfold L2.start
    rw [hm]
    rfl
  rw [hst]
  refine ⟨_, rfl, a, ns, rfl, sq, len, only, fun dr cl H' hd hc j kp => ?_⟩
  have mo : Mon H H' := Mon.of kp
  have nof : ∀ b u, H b = some u → ¬ (Mdr dr cl).F b := fun b u e f => by
    rcases f with rfl | rfl
    · rw [hd] at e; cases e
    · rw [hc] at e; cases e
  have ok : Ok G (Mdr dr cl) (.dat (.scr ns) :: .fix (.ref dr) :: List.replicate (N.length - 2) .no) (some (.ref a) :: some (.ref dr) :: List.replicate (N.length - 2) none) H H' := by
    refine ⟨by simp, fun i y e => ?_, fun i j d e l h1 => ?_, mo, j, nof⟩
    · match i, e with
      | 0, e => cases e; exact ⟨_, rfl, .scr (hK ▸ sq)⟩
      | 1, e => cases e; exact rfl
      | i + 2, e =>
        simp only [List.getElem?_cons_succ, List.getElem?_replicate] at e
        split at e
        · cases e
          trivial
        · cases e
    · match i, h1 with
      | 0, h1 => cases h1
      | 1, h1 => cases h1
      | i + 2, h1 =>
        simp only [List.getElem?_cons_succ, List.getElem?_replicate] at h1
        split at h1 <;> cases h1
  refine b _ H H' H _ _ H H' _ ⟨fun _ => False, fun d => d = .bl true, fun _ => False, fun _ => False⟩ ⟨ok, ok.refl, fun i d l h1 _ => ?_, Mon.refl H⟩ ⟨fun ρ σ S H z w => w.elim, fun ρ σ S H2 v d z c e => ?_, fun _ _ _ _ _ w => w.elim, fun _ _ _ _ _ w => w.elim⟩ (hw ns dr cl len)
  · match i, h1 with
    | 0, h1 => cases h1
    | 1, h1 => cases h1
    | i + 2, h1 =>
      simp only [List.getElem?_cons_succ, List.getElem?_replicate] at h1
      split at h1 <;> cases h1
  · subst e
    rw [c.bl z.ok]
    exact q H2
end
end HB
namespace HB
open PySem PySem.Spec PyProof.Rows L2

/-! ### a dict written out -/
abbrev WK := Eff → Rho → (List (Key × D) → Prop) → Prop
structure DDs (X : Cx) (G : Gam) (pos : Pos) (ks : List (Option Expr)) (vs : List Expr) (trs : List (TE × TE)) (W : WK) : Prop where
  pp : PPs X pos ks vs trs
  sd : ∀ (M : Eff) (ρ : Rho) (σ : L2.St) (S H : Hp) (R : List (Key × D) → Prop) (Q : List (V × V) → Hp → Prop), Ok G M ρ σ S H → W M ρ R →
    (∀ ds kvs S' H', R ds → Dks G S' kvs ds → Step M S H S' H' → Q (kvs.map fun kv => (kV kv.1, kv.2)) H') → tPairs trs σ H Q
def mergeD (acc more : List (Key × D)) : List (Key × D) := more.foldl (fun a kv => putD a kv.1 kv.2) acc
theorem Dks.merge {G : Gam} {S : Hp} : ∀ {ks ls : List (Key × V)} {ds es : List (Key × D)}, Dks G S ks ds → Dks G S ls es → Dks G S (mergeK ks ls) (mergeD ds es)
  | _, _, _, _, h, .nil => h
  | _, _, _, _, h, .cons (k := k) hv hs => show Dks G S (mergeK (putK _ _ _) _) (mergeD (putD _ _ _) _) from Dks.merge (h.put k hv) hs
section
variable {X : Cx} {G : Gam} {a b e : Expr} {ta tb te : TE} {wa wb we : WE} {pos : Pos} {ks : List (Option Expr)} {vs : List Expr} {trs : List (TE × TE)} {W : WK}
def wDn : WK := fun _ _ R => R []
def wDc (wa wb : WE) (W : WK) : WK := fun M ρ R => wa M ρ fun d => wb M ρ fun e => ∃ k, toKey d = some k ∧ W M ρ fun r => R ((k, e) :: r)
def wDisp (W : WK) : WE := fun M ρ R => W M ρ fun ds => ds.length ≤ 15 ∧ R (.dct (mergeD [] ds))
theorem dd_nil : DDs X G pos [] [] [] wDn := ⟨pps_nil, fun M ρ σ S H R Q o w k => k [] [] S H w .nil o.refl⟩
theorem dd_cons (ha : DE X G a ta wa) (hb : DE X G b tb wb) (hr : DDs X G pos ks vs trs W) : DDs X G pos (some a :: ks) (b :: vs) ((ta, tb) :: trs) (wDc wa wb W) :=
  ⟨pps_cons ha.pe hb.pe hr.pp, fun M ρ σ S H R Q o w k => ha.se M ρ σ S H _ _ o w fun d x S1 H1 r1 c1 s1 => hb.se M ρ σ S1 H1 _ _ (o.step s1) r1 fun e y S2 H2 r2 c2 s2 => by
    obtain ⟨ky, ek, r2⟩ := r2
    cases toKey_dn c1 ek
    refine hr.sd M ρ σ S2 H2 _ _ (o.step (s1.trans s2)) r2 fun ds kvs S3 H3 r3 c3 s3 => ?_
    exact k ((ky, e) :: ds) ((ky, y) :: kvs) S3 H3 r3 (.cons (c2.mono s3.mono) c3) ((s1.trans s2).trans s3)⟩
theorem d_disp (h : DDs X G pos ks vs trs W) (hall : ks.all (·.isSome) = true := by rfl) (hl : ks.length = vs.length := by rfl) (h0 : ks ≠ [] := by simp) (h15 : ks.length ≤ 15 := by decide) : DN X G (.Dict ks vs pos) (tDisp trs) (wDisp W) :=
  ⟨pe_disp h.pp hall hl h0 h15, fun M ρ σ S H R Q o w k p hp => by
    have st := o.laidO hp (.dK [])
    have sp := o.sub.free hp
    have fp : ¬ M.F p := fun f => M.dom H o.j p f hp
    refine h.sd M ρ σ S _ _ _ (o.step st) w fun ds kvs S' H' r c s => ?_
    have e : H' p = some (.dK []) := s.keep p _ fp upd_same
    have np : S' p = none := s.none sp (by rw [upd_same]; simp)
    refine ⟨e, kvs, rfl, by rw [c.len]; exact r.1, k _ p S' _ r.2 hp np ⟨_, upd_same, Dks.merge .nil c⟩ ((st.trans s).mut hp np fp _)⟩⟩

/-! ### in a constant tuple of the text -/
theorem KTup.dn {K : PySem.W.Frag} {H : Hp} {a : Addr} {xs : List V} (h : ∀ H, SqT K H a xs) : SqT K H a xs := h H
/-- e in T, T a module's tuple of texts -/
def wInT (ng : Bool) (zs : List Str) (we : WE) : WE := fun M ρ R => we M ρ fun d => d.flat = true ∧ R (.bl (if ng = true then !inL (zs.map .str) d else inL (zs.map .str) d))
theorem dns_strs' {G : Gam} {S : Hp} : ∀ zs : List Str, Dns G S (zs.map V.str) (zs.map D.str)
  | [] => .nil
  | z :: zs => .cons (.str z) (dns_strs' zs)
theorem flats (zs : List Str) : (zs.map D.str).all D.flat = true := by
  induction zs with
  | nil => rfl
  | cons z zs ih => simp [D.flat, ih]
def tKc (K : PySem.W.Frag) (zs : List Str) : TE := fun _ H Q => ∀ u, (∀ H, SqT K H u (zs.map V.str)) → Q (.ref u) H
theorem pe_kc {x : Str} {p2 : Pos} {zs : List Str} (hm : ∃ u, X.mg x = some (.ref u) ∧ ∀ H, SqT X.K H u (zs.map V.str)) (hg : Gl X x) (hd : (x == ("__debug__" : Str)) = false) : PE X (.Name x p2) (tKc X.K zs) := by
  obtain ⟨u, h1, h2⟩ := hm
  exact ⟨fun pins s σ H Q I q => (pe_glob hg h1 (v := .ref u) rfl hd).run pins s σ H Q I (q u h2)⟩
theorem rInT {ng : Bool} {op : CmpOp} (hop : op = if ng = true then .NotIn else .In) : OpR X (compareOp op) (rIn X.K ng) := by
  subst hop
  cases ng
  · exact op_in_seq
  · exact op_notIn_seq
theorem se_inT {ng : Bool} {zs : List Str} (ha : SC G ta wa) : SE G (tOp (rIn G.K ng) ta (tKc G.K zs)) (wInT ng zs wa) := fun M ρ σ S H R Q o w k => ha M ρ σ S H _ _ o w fun d v S' H' r c s => by
  intro u h2
  have hx := c.dnf (o.step s) r.1
  refine ⟨u, zs.map V.str, rfl, .inr (h2 H'), flatV_of hx r.1, (dns_strs' (G := G) (S := S') zs).flat (flats zs), ?_⟩
  rw [inV_of hx r.1 (dns_strs' (G := G) (S := S') zs) (flats zs)]
  exact k _ _ S' H' r.2 (.bl _) s
theorem d_inT {ng : Bool} {op : CmpOp} {x : Str} {p2 : Pos} (zs : List Str) (hK : X.K = G.K) (hop : op = if ng = true then .NotIn else .In) (hm : ∃ u, X.mg x = some (.ref u) ∧ ∀ H, SqT X.K H u (zs.map V.str)) (ha : DC X G a ta wa) (hg : Gl X x := by rfl) (hd : (x == ("__debug__" : Str)) = false := by decide) (hmk : behindInMarks op (.Name x p2) = false := by rfl) :
    DE X G (.Compare a [op] [.Name x p2] pos) (tOp (rIn G.K ng) ta (tKc G.K zs)) (wInT ng zs wa) := ⟨hK ▸ pe_cmpR (rInT hop) ha.pe (pe_kc hm hg hd) hmk, se_inT ha.sc⟩
theorem t_inT {ng : Bool} {op : CmpOp} {x : Str} {p2 : Pos} (zs : List Str) (hK : X.K = G.K) (hop : op = if ng = true then .NotIn else .In) (hm : ∃ u, X.mg x = some (.ref u) ∧ ∀ H, SqT X.K H u (zs.map V.str)) (ha : DC X G a ta wa) (hg : Gl X x := by rfl) (hd : (x == ("__debug__" : Str)) = false := by decide) (hmk : behindInMarks op (.Name x p2) = false := by rfl) :
    DT X G (.Compare a [op] [.Name x p2] pos) (tTest (tOp (rIn G.K ng) ta (tKc G.K zs))) (wTst (wInT ng zs wa)) := ⟨hK ▸ pt_cmpR (rInT hop) ha.pe (pe_kc hm hg hd) hmk, st_tst (se_inT ha.sc).c⟩

/-! ### choosing -/
/-- one of these -/
def sPick : Spec := fun M evs R => ∃ dr cl d, evs = [.fix (.ref dr), .dat d] ∧ M = Mdr dr cl ∧ match d with
  | .lst ds => (ds ≠ [] ∧ ds.length ≤ LIM) ∧ ∀ x ∈ ds, R x
  | .tup ds => (ds ≠ [] ∧ ds.length ≤ LIM) ∧ ∀ x ∈ ds, R x
  | .str z => (z.length ≠ 0 ∧ z.length ≤ LIM) ∧ ∀ c ∈ z.cps.toList, R (.str ⟨#[c]⟩)
  | _ => False
theorem atI_mem {α : Type} {xs : List α} {r : Int} (h0 : 0 ≤ r) (h1 : r < xs.length) : ∃ x, atI xs r = some x ∧ x ∈ xs := by
  obtain ⟨n, rfl⟩ : ∃ n : Nat, r = n := ⟨r.toNat, by omega⟩
  have hn : n < xs.length := by omega
  exact ⟨xs[n], atI_nat (List.getElem?_eq_getElem hn), List.getElem_mem hn⟩
/-- the wish of `return some[draw(draws, len(some))]` -/
theorem pick_ok {M : Eff} {evs : List EV} {R : D → Prop} {n : Nat} (h : sPick M evs R) : wBin ixW (wNm 1) (wCallO 2 sDraw (xFix 0 (xCons (wOne lenW (wNm 1)) xNil))) M (evs ++ List.replicate n .no) R := by
  obtain ⟨dr, cl, d, rfl, rfl, h⟩ := h
  have big : (LIM : Int) < 2 ^ 62 := by decide
  cases d with
  | lst ds =>
    have hn : 0 < ds.length := List.length_pos_iff.mpr h.1.1
    refine ⟨rfl, dr, cl, _, rfl, rfl, ?_, ?_, fun r h0 h1 => ?_⟩
    · omega
    · have := h.1.2
      omega
    · obtain ⟨x, e, m⟩ := atI_mem h0 h1
      exact ⟨x, e, h.2 x m⟩
  | tup ds =>
    have hn : 0 < ds.length := List.length_pos_iff.mpr h.1.1
    refine ⟨rfl, dr, cl, _, rfl, rfl, ?_, ?_, fun r h0 h1 => ?_⟩
    · omega
    · have := h.1.2
      omega
    · obtain ⟨x, e, m⟩ := atI_mem h0 h1
      exact ⟨x, e, h.2 x m⟩
  | str z =>
    have hn : 0 < z.length := by have := h.1.1; omega
    refine ⟨h.1.2, rfl, dr, cl, _, rfl, rfl, ?_, ?_, fun r h0 h1 => ?_⟩
    · omega
    · have := h.1.2
      omega
    · have e : z.length = z.cps.toList.length := by simp [Str.length]
      rw [e] at h1
      obtain ⟨x, e, m⟩ := atI_mem h0 h1
      exact ⟨h.1.2, x, e, h.2 x m⟩
  | _ => exact h.elim
end
end HB
namespace HB
open PySem PySem.Spec PyProof.Rows L2
section
variable {X : Cx} {G : Gam} {tg a b e : Expr} {ta tb te : TE} {wa wb we : WE} {pos : Pos}
def wIOr (W W' : WI) : WI := fun M ρ R => W M ρ R ∨ W' M ρ R
theorem DI.or {wi wj : TI} {W W' : WI} (h : DI X G tg a wi W) (h' : DI X G tg a wj W') : DI X G tg a (fun σ H R => wi σ H R ∨ wj σ H R) (wIOr W W') :=
  ⟨⟨fun pins s σ H R I q => q.elim (h.pi.run pins s σ H R I) (h'.pi.run pins s σ H R I)⟩, fun M ρ σ S H R Q o w k => w.elim (fun w => .inl (h.si M ρ σ S H R Q o w k)) fun w => .inr (h'.si M ρ σ S H R Q o w k)⟩
theorem hu65 {A : Around} {k : Nat} (hr : Room k A) : A.units + 65 < cLine := by have := hr.un; omega
/-- a starting list of slots: the arguments, the rest open -/
abbrev NEr (R : D → Prop) : NE := ⟨fun _ => R .non, R, fun _ => False, fun _ => False⟩
end
end HB
/-! The plain side: how wishes are met. -/
namespace HB
open PySem L2
theorem sIx_to {n k : Nat} : HT.sIx n n (some (k : Int)) = min k n := HT.sIx_nat n n k
theorem cut_to {α : Type} (xs : List α) (k : Nat) : cut xs none (some (k : Int)) = xs.take k := by
  unfold cut
  rw [HT.sIx_nat, HT.sIx_none, List.drop_zero, Nat.sub_zero]
  by_cases h : k ≤ xs.length
  · rw [Nat.min_eq_left h]
  · rw [Nat.min_eq_right (by omega), List.take_length, List.take_of_length_le (by omega)]
theorem cut_from {α : Type} (xs : List α) (k : Nat) : cut xs (some (k : Int)) none = xs.drop k := by
  unfold cut
  rw [HT.sIx_nat, HT.sIx_none]
  by_cases h : k ≤ xs.length
  · rw [Nat.min_eq_left h, List.take_of_length_le (by simp)]
  · rw [Nat.min_eq_right (by omega), List.drop_length, List.take_nil, List.drop_of_length_le (by omega)]

theorem filT (ds : List D) : ds.filter (fun _ => true) = ds := List.filter_eq_self.mpr fun _ _ => rfl
/-- a comprehension over one name, each turn known -/
theorem lcN {i : Nat} {tst : Rho → (Bool → Prop) → Prop} {elt : Rho → (D → Prop) → Prop} {ρ : Rho} (p : D → Bool) (f : D → D) {ds : List D} {R : List D → Prop}
    (h : ∀ d ∈ ds, (∀ T : Bool → Prop, T (p d) → tst (ρ.set i (.dat d)) T) ∧ (p d = true → ∀ T : D → Prop, T (f d) → elt (ρ.set i (.dat d)) T)) (r : R ((ds.filter p).map f)) : lcW (wGN i) tst elt ρ ds R :=
  lcW_map (fun d hd R' k => k _ (h d hd).1 (h d hd).2) r
/-- a comprehension by what holds of what is left and made so far -/
theorem lcI {bind : WG} {tst : Rho → (Bool → Prop) → Prop} {elt : Rho → (D → Prop) → Prop} {ρ : Rho} (I : List D → List D → Prop)
    (step : ∀ d r acc (Kt : List D → Prop), I (d :: r) acc → (∀ a, I r a → Kt a) → bind d ρ fun ρ' => tst ρ' fun b => if b = true then elt ρ' fun y => Kt (acc ++ [y]) else Kt acc) :
    ∀ {ds : List D} (acc : List D) {R : List D → Prop}, I ds acc → (∀ a, I [] a → R a) → lcW bind tst elt ρ ds fun ys => R (acc ++ ys)
  | [], acc, R, h, r => by
    show R (acc ++ [])
    rw [List.append_nil]
    exact r acc h
  | d :: ds, acc, R, h, r => by
    have key := step d ds acc (fun a => lcW bind tst elt ρ ds fun ys => R (a ++ ys)) h fun a ha => lcI I step a ha r
    simp only [List.append_assoc, List.singleton_append] at key
    exact key
/-- each element has P, however it is drawn -/
theorem lcA {i : Nat} {elt : Rho → (D → Prop) → Prop} {ρ : Rho} (Pd : D → Prop) {ds : List D} {R : List D → Prop} (h : ∀ d ∈ ds, ∀ T : D → Prop, (∀ y, Pd y → T y) → elt (ρ.set i (.dat d)) T) (r : ∀ ys, ys.length = ds.length → (∀ y ∈ ys, Pd y) → R ys) :
    lcW (wGN i) (fun _ T => T true) elt ρ ds R := by
  have key := lcI (bind := wGN i) (tst := fun _ T => T true) (elt := elt) (ρ := ρ) (I := fun r acc => (∃ pre, ds = pre ++ r ∧ acc.length = pre.length) ∧ ∀ y ∈ acc, Pd y) (fun d r acc Kt hI k => by
    obtain ⟨⟨pre, e, hl⟩, ha⟩ := hI
    show elt _ _
    refine h d (by rw [e]; simp) _ fun y hy => k _ ⟨⟨pre ++ [d], by rw [e]; simp, by simp [hl]⟩, fun z hz => ?_⟩
    rcases List.mem_append.mp hz with h | h
    · exact ha z h
    · rw [List.mem_singleton.mp h]
      exact hy) (ds := ds) [] (R := R) ⟨⟨[], by simp⟩, by simp⟩ fun a ha => by
    obtain ⟨⟨pre, e, hl⟩, ha⟩ := ha
    rw [List.append_nil] at e
    exact r a (by rw [hl, e]) ha
  simpa using key
theorem forI {bg : WG} {wb : WS} {M : Eff} {N : NE} (I : List D → Rho → Prop) (step : ∀ d r ρ (Nx : Rho → Prop), I (d :: r) ρ → (∀ ρ', I r ρ' → Nx ρ') → bg d ρ fun ρ' => wb M { N with nx := Nx, ct := Nx, bk := N.nx } ρ') (fin : ∀ ρ, I [] ρ → N.nx ρ) :
    ∀ {ds : List D} {ρ : Rho}, I ds ρ → forW bg wb M N ds ρ
  | [], ρ, h => fin ρ h
  | d :: r, ρ, h => step d r ρ (forW bg wb M N r) h fun ρ' h' => forI I step fin h'
/-- a loop that keeps I -/
theorem forK {bg : WG} {wb : WS} {M : Eff} {N : NE} (I : Rho → Prop) {ds : List D} {ρ : Rho} (step : ∀ d ∈ ds, ∀ ρ (Nx : Rho → Prop), I ρ → (∀ ρ', I ρ' → Nx ρ') → bg d ρ fun ρ' => wb M { N with nx := Nx, ct := Nx, bk := N.nx } ρ') (h : I ρ) (fin : ∀ ρ, I ρ → N.nx ρ) : forW bg wb M N ds ρ :=
  forI (fun r ρ => (∀ d ∈ r, d ∈ ds) ∧ I ρ) (fun d r ρ Nx hI k => step d (hI.1 d (by simp)) ρ Nx hI.2 fun ρ' h' => k ρ' ⟨fun e he => hI.1 e (by simp [he]), h'⟩) (fun ρ h => fin ρ h.2) ⟨fun _ h => h, h⟩
theorem isi_ty {ns : List String} {d : D} {T : String} {R : D → Prop} (h : d.ty = some T) (r : R (.bl (ns.any (subTy T)))) : isiW ns d R := by
  unfold isiW
  rw [h]
  exact r
end HB
namespace LK
open PySem L2 HB TL PySem.StrLaws

/-! ### fine data: of texts, numbers, lists, tuples, not deep -/
def sOk (z : Str) : Prop := z.length ≤ LIM ∧ PyData.strOk z = true
mutual
inductive Fine : Nat → D → Prop
  | non {n : Nat} : Fine n .non
  | bl {n : Nat} (b : Bool) : Fine n (.bl b)
  | int {n : Nat} (i : Int) : Fine n (.int i)
  | str {n : Nat} {z : Str} : PyData.strOk z = true → Fine n (.str z)
  | lst {n : Nat} {ds : List D} : Fines n ds → Fine (n + 1) (.lst ds)
  | tup {n : Nat} {ds : List D} : Fines n ds → Fine (n + 1) (.tup ds)
inductive Fines : Nat → List D → Prop
  | nil {n : Nat} : Fines n []
  | cons {n : Nat} {d : D} {ds : List D} : Fine n d → Fines n ds → Fines n (d :: ds)
end
theorem Fines.of {n : Nat} : ∀ {ds : List D}, (∀ d ∈ ds, Fine n d) → Fines n ds
  | [], _ => .nil
  | d :: ds, h => .cons (h d (by simp)) (Fines.of fun e he => h e (by simp [he]))
theorem Fines.mem {n : Nat} : ∀ {ds : List D}, Fines n ds → ∀ d ∈ ds, Fine n d
  | _, .nil, d, h => by cases h
  | _, .cons h hs, d, m => by
    rcases List.mem_cons.mp m with rfl | m
    · exact h
    · exact Fines.mem hs d m
mutual
theorem Fine.lay : ∀ {n : Nat} {d : D}, Fine n d → d.py.canLay0 = true ∧ d.py.depth ≤ n
  | _, _, .non => by simp [D.py, PyData.canLay0, PyData.depth]
  | _, _, .bl b => by simp [D.py, PyData.canLay0, PyData.depth]
  | _, _, .int i => by simp [D.py, PyData.canLay0, PyData.depth]
  | _, _, .str h => by simp [D.py, PyData.canLay0, PyData.depth, h]
  | _, _, .lst h => by
    obtain ⟨a, b⟩ := Fines.lay h
    simp [D.py, PyData.canLay0, PyData.depth, a, b]
  | _, _, .tup h => by
    obtain ⟨a, b⟩ := Fines.lay h
    simp [D.py, PyData.canLay0, PyData.depth, a, b]
theorem Fines.lay : ∀ {n : Nat} {ds : List D}, Fines n ds → PyData.canLayAll0 (D.pys ds) = true ∧ PyData.depthAll (D.pys ds) ≤ n
  | _, _, .nil => by simp [D.pys, PyData.canLayAll0, PyData.depthAll]
  | _, _, .cons h hs => by
    obtain ⟨a, b⟩ := Fine.lay h
    obtain ⟨c, d⟩ := Fines.lay hs
    simp [D.pys, PyData.canLayAll0, PyData.depthAll, a, c]
    omega
end
theorem Fine.ok {n : Nat} {d : D} (h : Fine n d) (hn : n ≤ 64 := by decide) : d.ok = true := by
  obtain ⟨a, b⟩ := h.lay
  unfold D.ok SeqAt.shaped
  rw [a, decide_eq_true (by omega)]
  rfl
mutual
theorem Fine.mono : ∀ {n m : Nat} {d : D}, Fine n d → n ≤ m → Fine m d
  | _, _, _, .non, _ => .non
  | _, _, _, .bl b, _ => .bl b
  | _, _, _, .int i, _ => .int i
  | _, _, _, .str h, _ => .str h
  | _, m, _, .lst h, e => match m, e with
    | m + 1, e => .lst (Fines.mono h (by omega))
  | _, m, _, .tup h, e => match m, e with
    | m + 1, e => .tup (Fines.mono h (by omega))
theorem Fines.mono : ∀ {n m : Nat} {ds : List D}, Fines n ds → n ≤ m → Fines m ds
  | _, _, _, .nil, _ => .nil
  | _, _, _, .cons h hs, e => .cons (Fine.mono h e) (Fines.mono hs e)
end

/-! ### names -/
def letters : List Nat := ("abcdefghijklmnopqrstuvwxyz" : Str).cps.toList
def nameS (z : Str) : Bool := decide (1 ≤ z.length) && (decide (z.length ≤ 6) && z.cps.toList.all fun c => decide (c ∈ letters))
def nameD : D → Bool
  | .str z => nameS z
  | _ => false
/-- data that may be asked for its class and length -/
def tame (d : D) : Prop := d.ty.isSome = true ∧ ∀ z, d = .str z → z.length ≤ LIM ∧ PyData.strOk z = true
theorem nstr : ∀ d : D, d.ty.isSome = true → (∃ z, d = .str z) ∨ (∃ T, d.ty = some T ∧ (["str"].any (subTy T)) = false ∧ nameD d = false)
  | .str z, _ => .inl ⟨z, rfl⟩
  | .non, _ => .inr ⟨_, rfl, by decide, rfl⟩
  | .bl _, _ => .inr ⟨_, rfl, by decide, rfl⟩
  | .int _, _ => .inr ⟨_, rfl, by decide, rfl⟩
  | .lst _, _ => .inr ⟨_, rfl, by decide, rfl⟩
  | .tup _, _ => .inr ⟨_, rfl, by decide, rfl⟩
  | .dct _, _ => .inr ⟨_, rfl, by decide, rfl⟩
  | .dtt _, _ => .inr ⟨_, rfl, by decide, rfl⟩
  | .obj _ _, h => by simp [D.ty] at h
  | .scr _, h => by simp [D.ty] at h
theorem boolsOf_mapf (f : D → Bool) (ds : List D) : boolsOf (ds.map fun d => .bl (f d)) = some (ds.map f) := by
  rw [show (ds.map fun d => D.bl (f d)) = (ds.map f).map D.bl by rw [List.map_map]; rfl]
  exact boolsOf_map _
/-- a sign in these -/
def inLet (d : D) : Bool := match d with
  | .str z => z.cps.toList.all fun c => decide (c ∈ letters)
  | _ => false
theorem isName_top {M : Eff} {ρ : Rho} {d : D} {i : Nat} {R : Bool → Prop} (hd : ρ[i]? = some (.dat d)) (t : tame d) (h : (∀ z, d = .str z → 1 ≤ z.length ∧ z.length ≤ 6 → R false) ∧ (¬ (∃ z, d = .str z ∧ 1 ≤ z.length ∧ z.length ≤ 6) → R true)) :
    wOr (wNot (wTst (wOne (isiW ["str"]) (wNm i)))) (wNot (wTst (wChn (ordW (fun i j => decide (i ≤ j)) fun x y => !decide (y.cps.toList < x.cps.toList)) (ordW (fun i j => decide (i ≤ j)) fun x y => !decide (y.cps.toList < x.cps.toList)) (wC (.int 1)) (wOne lenW (wNm i)) (wC (.int 6))))) M ρ R := by
  simp only [HB.wNm, HB.wOwn, HB.wC, HB.wBin, HB.wNeg, HB.wTst, HB.wChn, HB.wTru, HB.wAnd, HB.wOr, HB.wNot, HB.wAndV, HB.wOrV, HB.wNotV, HB.wIf, HB.wNil, HB.wCons, HB.wTup, HB.wLst, HB.wPn, HB.wPs, HB.wSl, HB.wOne, HB.wS1, HB.wS0, HB.wGN, HB.wGsN, HB.wGsC, HB.wGT, HB.wILst, HB.wITup, HB.wIStr, HB.wIR1, HB.wIR2, HB.wIEn, HB.wIZip, HB.wIOr, HB.wYes, HB.wLC, HB.wNext, HB.wSeq, HB.wBrk, HB.wCnt, HB.wRetN, HB.wSet, HB.wNew, HB.wAsg, HB.wPar, HB.wParNE, HB.wParEN, HB.wParNN, HB.wRet, HB.wIfS, HB.wFor, HB.wApp, HB.wExt, HB.wPut, HB.xNil, HB.xCons, HB.xFix, HB.wCallO, HB.wDn, HB.wDc, HB.wDisp, HB.wInT, HB.frzR, HB.wFrz, HB.intW, HB.addW, HB.eqW, HB.neW, HB.ordW, HB.truW, HB.ixW, HB.slW, HB.lenW, HB.allW, HB.absW, HB.intTW, HB.tupTW, HB.lstTW, HB.joinW, HB.mulW, HB.isNW, hd]
  rcases nstr d t.1 with ⟨z, rfl⟩ | ⟨T, hT, hs, _⟩
  · refine isi_ty rfl ?_
    have e : (["str"].any (subTy "str")) = true := by decide
    rw [e]
    refine ⟨(t.2 z rfl).1, ?_⟩
    by_cases h1 : (1 : Int) ≤ (z.length : Int)
    · by_cases h2 : (z.length : Int) ≤ 6
      · simpa [h1, h2] using h.1 z rfl ⟨by omega, by omega⟩
      · simpa [h1, h2] using h.2 fun ⟨y, ey, q1, q2⟩ => by cases ey; omega
    · simpa [h1] using h.2 fun ⟨y, ey, q1, q2⟩ => by cases ey; omega
  · refine isi_ty hT ?_
    rw [hs]
    exact h.2 fun ⟨z, e, _⟩ => by
      subst e
      cases hT
      revert hs
      decide
theorem not_name {d : D} (t : tame d) (h : ¬ (∃ z, d = .str z ∧ 1 ≤ z.length ∧ z.length ≤ 6)) : nameD d = false := by
  rcases nstr d t.1 with ⟨z, rfl⟩ | ⟨T, hT, hs, e⟩
  · show nameS z = false
    unfold nameS
    by_cases h1 : 1 ≤ z.length
    · by_cases h2 : z.length ≤ 6
      · exact absurd ⟨z, rfl, h1, h2⟩ h
      · simp [h2]
    · simp [h1]
  · exact e
theorem strs_eqv : ∀ (ds : List D), (∀ d ∈ ds, ∃ z, d = .str z) → (D.lst ds).eqv (.lst []) = ds.isEmpty
  | [], _ => by simp [D.eqv, D.py, D.pys, PyData.eqv, PyData.eqvAll]
  | d :: r, h => by
    obtain ⟨z, rfl⟩ := h d (by simp)
    simp [D.eqv, D.py, D.pys, PyData.eqv, PyData.eqvAll]
theorem strOk_all {z : Str} (h : PyData.strOk z = true) {c : Nat} (hc : c ∈ z.cps.toList) : PyData.strOk ⟨#[c]⟩ = true := by
  simp only [PyData.strOk, Array.all_eq_true] at h ⊢
  intro i hi
  obtain ⟨j, hj, e⟩ := List.getElem_of_mem hc
  have : i = 0 := by
    have : i < 1 := hi
    omega
  subst this
  have := h j (by simpa using hj)
  simpa [← e] using this
theorem signs_fine {n : Nat} {z : Str} (h : PyData.strOk z = true) : ∀ d ∈ signs z, Fine n d := fun d hd => by
  obtain ⟨c, hc, rfl⟩ := List.mem_map.mp hd
  exact .str (strOk_all h hc)

/-! ### texts -/
theorem strOk_iff {z : Str} : PyData.strOk z = true ↔ ∀ c ∈ tl z, c < 0x110000 := by
  unfold PyData.strOk
  rw [Array.all_eq_true]
  constructor
  · intro h c hc
    obtain ⟨i, hi, e⟩ := List.getElem_of_mem hc
    have := h i (by simpa using hi)
    simpa [← e] using this
  · intro h i hi
    have := h z.cps[i] (by rw [Array.mem_toList_iff]; exact Array.getElem_mem hi)
    simpa using this
theorem len_tl (z : Str) : z.length = (tl z).length := by simp [Str.length]
theorem tl_join0 : ∀ ys : List Str, tl (Txt.join "" ys) = (ys.map tl).flatten := by
  intro ys
  rw [join_eq]
  induction ys with
  | nil => rfl
  | cons x r ih =>
    cases r with
    | nil =>
      show tl x = _
      simp
    | cons y r =>
      show tl (x ++ ("" : Str) ++ Str.join "" (y :: r)) = _
      rw [tl_append, tl_append, ih]
      have e : tl ("" : Str) = [] := by decide +kernel
      rw [e, List.append_nil]
      simp
theorem repr_len {z : Str} (h : PyData.strOk z = true) : (reprText z).length ≤ 10 * z.length + 2 :=
  reprText_len z fun c hc => Nat.lt_trans (strOk_iff.mp h c hc) (by decide)
theorem shw_str {z : Str} (h : PyData.strOk z = true) (hl : z.length ≤ 90000) : (D.str z).shw := by
  refine ⟨rfl, by simp [D.py, PyData.showable], ?_, by simp [D.py, PyData.depth], fun e => by simp [D.py, PyData.hasDict] at e⟩
  have := repr_len h
  have e : LIM = 1000000 := rfl
  simp only [D.py, PyData.shown]
  omega
/-- texts of one sign -/
def OneS (d : D) : Prop := ∃ c : Nat, c < 0x110000 ∧ d = .str ⟨#[c]⟩
theorem ones_join : ∀ {ys : List D}, (∀ y ∈ ys, OneS y) → ∃ zs : List Str, strsOf ys = some zs ∧ zs.length = ys.length ∧ (zs.map (·.length)).sum = ys.length ∧ (Txt.join "" zs).length = ys.length ∧ PyData.strOk (Txt.join "" zs) = true
  | [], _ => ⟨[], rfl, rfl, rfl, by decide +kernel, by decide +kernel⟩
  | y :: ys, h => by
    obtain ⟨zs, e1, e2, e3, e4, e5⟩ := ones_join (ys := ys) fun z hz => h z (by simp [hz])
    obtain ⟨c, hc, rfl⟩ := h y (by simp)
    rw [len_tl, tl_join0] at e4
    rw [strOk_iff, tl_join0] at e5
    refine ⟨⟨#[c]⟩ :: zs, by simp [strsOf, e1], by simp [e2], ?_, ?_, ?_⟩
    · simp only [List.map_cons, List.sum_cons, List.length_cons, e3]
      show 1 + ys.length = ys.length + 1
      omega
    · rw [len_tl, tl_join0, List.map_cons, List.flatten_cons, List.length_append, e4]
      show 1 + ys.length = ys.length + 1
      omega
    · rw [strOk_iff, tl_join0, List.map_cons, List.flatten_cons]
      intro x hx
      rcases List.mem_append.mp hx with h | h
      · have : x = c := by simpa [tl] using h
        omega
      · exact e5 x h
theorem fold_rep (a : Array Nat) : ∀ (n : Nat) (acc : Array Nat), ((List.replicate n a).foldl (· ++ ·) acc).toList = acc.toList ++ (List.replicate n a.toList).flatten
  | 0, acc => by simp
  | n + 1, acc => by
    rw [List.replicate_succ, List.foldl_cons, fold_rep a n, Array.toList_append, List.replicate_succ, List.flatten_cons, List.append_assoc]
theorem tl_mul (z : Str) {n : Int} (h : 1 ≤ n) : tl (Txt.mul z n) = (List.replicate n.toNat (tl z)).flatten := by
  unfold Txt.mul
  rw [if_neg (by omega)]
  split
  · rename_i e
    rw [Bool.or_eq_true] at e
    rcases e with e | e
    · have : n = 1 := by simpa using e
      subst this
      simp
    · have e2 : z.length = 0 := by simpa using e
      rw [len_tl] at e2
      have e3 : tl z = [] := List.length_eq_zero_iff.mp e2
      rw [e3]
      simp
  · show (List.foldl (· ++ ·) #[] _).toList = _
    rw [fold_rep]
    simp
theorem mul_ok {z : Str} {n : Int} (h : 1 ≤ n) (hz : PyData.strOk z = true) : PyData.strOk (Txt.mul z n) = true := by
  rw [strOk_iff, tl_mul z h]
  intro c hc
  rw [List.mem_flatten] at hc
  obtain ⟨l, hl, hc⟩ := hc
  rw [List.eq_of_mem_replicate hl] at hc
  exact strOk_iff.mp hz c hc
theorem mul_len {z : Str} {n : Int} (h : 1 ≤ n) : (Txt.mul z n).length = n.toNat * z.length := by
  rw [len_tl, tl_mul z h, len_tl]
  simp
end LK
namespace LK
open PySem L2 HB
def top (i : Nat) : Stmt := PySem.Challenge.pw_halfbuilt_k02_names_judged.main.body.getD i (.Pass ⟨0, 0, 0, 0⟩)
/-- what the walk asks of the text's names -/
structure Txt (K : PySem.W.Frag) (mg : Str → Option Value) : Prop where
  n_law_state_ : ∃ f fd, DefAt K mg "_law_state" (top 5) ["script"] f fd
  n_abs : mg "abs" = none
  n_law_draw_ : ∃ f fd, DefAt K mg "_law_draw" (top 6) ["draws", "many"] f fd
  n_len : mg "len" = none
  n_int : mg "int" = none
  n_law_pick_ : ∃ f fd, DefAt K mg "_law_pick" (top 7) ["draws", "some"] f fd
  n_law_any_value_ : ∃ f fd, DefAt K mg "_law_any_value" (top 9) ["draws"] f fd
  n_range : mg "range" = none
  n_law_is_name_ : ∃ f fd, DefAt K mg "_law_is_name" (top 8) ["value"] f fd
  n_isinstance : mg "isinstance" = none
  n_str : mg "str" = none
  n_is_name : ∃ f fd, DefAt K mg "is_name" (top 3) ["thing"] f fd
  n_MOST_LETTERS : ∃ t, mg "MOST_LETTERS" = some (.int 6 t)
  n_all : mg "all" = none
  n_LETTERS : ∃ t, mg "LETTERS" = some (.str "abcdefghijklmnopqrstuvwxyz" t)
  n_law : ∃ f fd, DefAt K mg "law" (top 10) ["script"] f fd
  n_min : mg "min" = none
  n_repr : mg "repr" = none
theorem kb_is_name {K : PySem.W.Frag} {mg : Str → Option Value} {f : Addr} {fd : FuncData} (D : DefAt K mg "is_name" (top 3) ["thing"] f fd) : KB K fd ["thing"] ["thing"] 0 := by
  obtain ⟨oc, od, kV, doc, pm, an, cdv, ct, osl, rfl, lk, co⟩ := D.F.ex
  exact ⟨fun s us ws h1 h2 => match us, ws, h1, h2 with | [], [_], _, _ => .of_eq rfl⟩
section
variable {P : Program} {w : World} {G : Gam} {mg : Str → Option Value} {base : Heap}
/-! ### _law_state -/
theorem sc_law_state : FnScope ["script", "cell"] ["script"] (defScope (top 5)) := ⟨rfl, rfl, rfl, by decide +kernel, rfl, by decide +kernel, by decide +kernel⟩
def W_law_state : WE := (wLst (wCons (wOrV (wLC (wILst (wSl (wNm 0) wPn (wPs (wC (.int 63))))) (wGN 1) wYes (wOne absW (wNm 1)) [1]) (wLst (wCons (wC (.int 1)) wNil))) (wCons (wC (.int 0)) (wCons (wC (.int 1)) wNil))))
theorem hw_law_state : ∀ (ns : List Int) (R : D → Prop), R (.lst [.lst ((cellsOf ns).map .int), .int 0, .int 1]) → W_law_state eff0 (.dat (.scr ns) :: List.replicate (["script", "cell"].length - 1) .no) R := by
  intro ns R r
  have e63 : cut (ns.map D.int) none (some 63) = (ns.take 63).map D.int := by
    rw [show (63 : Int) = ((63 : Nat) : Int) from rfl, cut_to, List.map_take]
  have len : ((ns.take 63).map D.int).length ≤ LIM := by
    have : LIM = 1000000 := rfl
    simp
    omega
  simp only [W_law_state, HB.wNm, HB.wOwn, HB.wC, HB.wBin, HB.wNeg, HB.wTst, HB.wChn, HB.wTru, HB.wAnd, HB.wOr, HB.wNot, HB.wAndV, HB.wOrV, HB.wNotV, HB.wIf, HB.wNil, HB.wCons, HB.wTup, HB.wLst, HB.wPn, HB.wPs, HB.wSl, HB.wOne, HB.wS1, HB.wS0, HB.wGN, HB.wGsN, HB.wGsC, HB.wGT, HB.wILst, HB.wITup, HB.wIStr, HB.wIR1, HB.wIR2, HB.wIEn, HB.wIZip, HB.wIOr, HB.wYes, HB.wLC, HB.wNext, HB.wSeq, HB.wBrk, HB.wCnt, HB.wRetN, HB.wSet, HB.wNew, HB.wAsg, HB.wPar, HB.wParNE, HB.wParEN, HB.wParNN, HB.wRet, HB.wIfS, HB.wFor, HB.wApp, HB.wExt, HB.wPut, HB.xNil, HB.xCons, HB.xFix, HB.wCallO, HB.wDn, HB.wDc, HB.wDisp, HB.wInT, HB.frzR, HB.wFrz, HB.intW, HB.addW, HB.eqW, HB.neW, HB.ordW, HB.truW, HB.ixW, HB.slW, HB.lenW, HB.allW, HB.absW, HB.intTW, HB.tupTW, HB.lstTW, HB.joinW, HB.mulW, HB.isNW, List.getElem?_cons_zero, e63]
  refine ⟨len, lcN (fun _ => true) (fun d => match d with | .int i => .int (if i < 0 then -i else i) | d => d) (fun d hd => ⟨fun T t => t, fun _ T t => ?_⟩) ?_⟩
  · obtain ⟨i, _, rfl⟩ := List.mem_map.mp hd
    exact t
  · rw [filT, List.map_map]
    have e : ((fun d : D => match d with | .int i => D.int (if i < 0 then -i else i) | d => d) ∘ D.int) = D.int ∘ fun i => if i < 0 then -i else i := rfl
    rw [e, ← List.map_map]
    have key : (if (ns.take 63).isEmpty = true then [1] else (ns.take 63).map fun i => if i < 0 then -i else i) = cellsOf ns := rfl
    cases q : (ns.take 63).isEmpty with
    | true =>
      rw [q, if_pos rfl] at key
      have e2 : (((ns.take 63).map fun i : Int => if i < 0 then -i else i).map D.int).isEmpty = true := by
        simpa using q
      rw [e2]
      rw [← key] at r
      exact ⟨(by show 1 ≤ 1000000; decide), (by show 3 ≤ 1000000; decide), r⟩
    | false =>
      rw [q, if_neg (by simp)] at key
      have e2 : (((ns.take 63).map fun i : Int => if i < 0 then -i else i).map D.int).isEmpty = false := by
        simpa using q
      rw [e2, key]
      exact ⟨(by show 3 ≤ 1000000; decide), r⟩
theorem ok_law_state (T : Txt G.K mg) : OKS P w G.K mg base CX0 1 "_law_state" (top 5) ["script"] (spState G.K) := by
  obtain ⟨f, fd, D⟩ := T.n_law_state_
  have ND := sc_law_state.nd
  exact ⟨f, fd, D, state_of (k := 0) (G := G) (W := W_law_state) D.F sc_law_state rfl rfl (fun cdv A outer s H E hr => ⟨_, (d_lst (a_cons (d_or rfl (d_lc rfl ND (i_lst rfl (d_slice rfl (d_nm 0).c p_none (p_some d_int.c))).c (own := [("cell", 1)]) (blkOk_by rfl) (fun s H C cl fp => (g_nm 1 ND)) (fun s H C cl fp => ts_nil) (fun s H C cl fp => (d_abs T.n_abs (d_nm 1).c))).e (d_one (d_lst (a_cons d_int a_nil)).e)) (a_cons d_int (a_cons d_int a_nil))))⟩) hw_law_state⟩

/-! ### _law_draw -/
theorem sc_law_draw : FnScope ["draws", "many", "cells", "spot", "cell", "mixed"] ["draws", "many"] (defScope (top 6)) := ⟨rfl, rfl, rfl, by decide +kernel, rfl, by decide +kernel, by decide +kernel⟩
theorem run_law_draw {f : Addr} {fd : FuncData} (F : Fun G.K "_law_draw" "_law_draw" (top 6) f fd) (ml : mg "len" = none) (mi : mg "int" = none) : FG P w G.K mg base CX0 1 f fd ["draws", "many"] spDraw := by
  refine Fun.okG F sc_law_draw (fun vs H Q E h => ?_) (fun cdv A outer s H vs Q E g hr h => ?_)
  · obtain ⟨dr, cl, m, rfl, _⟩ := h
    rfl
  · obtain ⟨dr, cl, m, rfl, j, m0, m1, k⟩ := h
    refine ⟨_, pss_cons (ps_set (i := 2) sc_law_draw.nd rfl (Or.inl rfl) (pe_ix ix_list (pv 0) pe_int (fun _ _ => rfl)))
      (pss_cons (ps_set (i := 3) sc_law_draw.nd rfl (Or.inl rfl) (pe_op op_mod (pe_callTy call_int1 rfl mi bb_int (pa_cons (pe_ix ix_list (pv 0) pe_int (fun _ _ => rfl)) pa_nil)) (pe_callB call_len_seq rfl ml bb_len (pa_cons (pv 2) pa_nil))))
      (pss_cons (ps_set (i := 4) sc_law_draw.nd rfl (Or.inl rfl) (pe_ix ix_list (pv 2) (pv 3) (fun _ _ => rfl)))
      (pss_cons (ps_if (pt_cmpR op_ge (pv 4) (pe_op op_pow pe_int pe_int) (nomark _))
        (pss_cons (ps_asg (pe_op op_fdivW (pv 4) (pv 1)) (pg_sub (pv 2) (pv 3) set_list))
        (pss_one (ps_ret (pe_op op_mod (pe_callTy call_int1 rfl mi bb_int (pa_cons (pv 4) pa_nil)) (pv 1))))) pss_nil)
      (pss_cons (ps_asg (pe_op op_add (pe_ix ix_list (pv 0) pe_int (fun _ _ => rfl)) pe_int) (pg_sub (pv 0) pe_int set_list))
      (pss_cons (ps_asg (pe_op op_mod (pe_callTy call_int1 rfl mi bb_int (pa_cons (pe_op op_add (pe_op op_add (pe_op op_add (pe_op op_mul (pe_ix ix_list (pv 0) pe_int (fun _ _ => rfl)) pe_int) (pv 4)) (pe_op op_mul pe_int (pe_ix ix_list (pv 0) pe_int (fun _ _ => rfl)))) pe_int) pa_nil)) pe_int) (pg_sub (pv 0) pe_int set_list))
      (pss_cons (ps_set (i := 5) sc_law_draw.nd rfl (Or.inl rfl) (pe_op op_mod (pe_callTy call_int1 rfl mi bb_int (pa_cons (pe_op op_mul (pe_ix ix_list (pv 0) pe_int (fun _ _ => rfl)) (pe_ix ix_list (pv 0) pe_int (fun _ _ => rfl))) pa_nil)) pe_int))
      (pss_one (ps_ret (pe_op op_mod (pe_callTy call_int1 rfl mi bb_int (pa_cons (pe_op op_fdivW (pv 5) pe_int) pa_nil)) (pv 1)))))))))), ?_⟩
    obtain ⟨ne, i, z, cs, hd, hc, z0, z1, cne, cl63, cpos⟩ := j
    have cl0 : 0 < cs.length := by cases cs <;> simp_all
    have sd : ∀ {H : Hp} {xs : List V} {a : Addr}, H a = some (.lst xs) → SqL G.K H a xs := fun h => SqL.of h
    -- cells = draws[0]
    refine ⟨_, rfl, _, _, _, _, rfl, rfl, sd hd, at3.1, ?_⟩
    -- spot = int(draws[1]) % len(cells)
    refine ⟨_, rfl, _, _, _, _, rfl, rfl, sd hd, at3.2.1, .inl ⟨_, rfl, _, rfl, _, _, rfl, .inl (sd hc), _, _, rfl, rfl, ?_, ?_⟩⟩
    · rw [List.length_map]; omega
    rw [List.length_map]
    have s0 := Int.emod_nonneg i (b := (cs.length : Int)) (by omega)
    have s1 := Int.emod_lt_of_pos i (b := (cs.length : Int)) (by omega)
    obtain ⟨n, hsp⟩ : ∃ n : Nat, i % (cs.length : Int) = n := ⟨(i % (cs.length : Int)).toNat, by omega⟩
    have hn : n < cs.length := by omega
    obtain ⟨c, hcell, c0⟩ : ∃ c : Int, atI (cs.map V.int) (i % (cs.length : Int)) = some (.int c) ∧ 0 ≤ c :=
      ⟨cs[n], by rw [hsp]; exact atI_nat (by rw [List.getElem?_map, List.getElem?_eq_getElem hn]; rfl), cpos _ (List.getElem_mem hn)⟩
    have hin : ixN cs.length (i % (cs.length : Int)) = some n := by
      rw [hsp]
      unfold ixN
      simp
      omega
    -- cell = cells[spot]
    refine ⟨_, rfl, _, rfl, _, _, _, _, rfl, rfl, sd hc, hcell, ?_⟩
    refine ⟨_, rfl, _, _, rfl, rfl, ⟨by decide, by decide, by decide⟩, _, _, rfl, rfl, _, rfl, ?_⟩
    refine ite2 (fun q => ?_) (fun q => ?_)
    · have dw : CDivW c m := ⟨m0, Nat.lt_trans ((Nat.log2_lt (by omega)).mpr (show m.natAbs < 2 ^ 62 by omega)) (by decide)⟩
      refine ⟨_, rfl, _, rfl, _, _, rfl, rfl, dw, _, rfl, _, rfl, _, _, _, _, rfl, rfl, hc, by rw [List.length_map]; exact hin, ?_⟩
      refine ⟨_, rfl, .inl ⟨_, rfl, _, rfl, _, _, rfl, rfl, m0, ?_⟩⟩
      refine k _ _ (Int.emod_nonneg _ (by omega)) (Int.emod_lt_of_pos _ m0) ⟨ne, i, z, cs.set n (c / m), by rw [upd_ne ne]; exact hd, by rw [upd_same, List.map_set], z0, z1, by simpa using cne, by simpa using cl63, fun x hx => ?_⟩ fun a n1 n2 => upd_ne n2
      rcases List.mem_or_eq_of_mem_set hx with h | rfl
      · exact cpos x h
      · exact Int.ediv_nonneg c0 (by omega)
    · have hcl : c < 10 ^ 18 := by
        have := of_decide_eq_false (Bool.eq_false_iff.mpr q)
        have e : ((10 : Int) ^ (18 : Int).toNat) = 10 ^ 18 := by decide
        rw [e] at this
        omega
      -- draws[1] = draws[1] + 1
      refine ⟨_, rfl, _, _, _, _, rfl, rfl, sd hd, at3.2.1, _, _, rfl, rfl, _, rfl, _, _, _, 1, rfl, rfl, hd, rfl, ?_⟩
      have ne' := ne.symm
      have hc1 : ∀ o, (upd H dr o) cl = some (.lst (cs.map V.int)) := fun o => by rw [upd_ne ne']; exact hc
      -- draws[2] = ..
      refine ⟨_, rfl, _, _, _, _, rfl, rfl, sd upd_same, at3.2.2, _, _, rfl, rfl, .inr ⟨by decide, by decide⟩, _, rfl, _, _, rfl, rfl, _, rfl, _, _, _, _, rfl, rfl, sd upd_same, at3.2.1, _, _, rfl, rfl, .inl ⟨by decide, by decide⟩, _, _, rfl, rfl, _, _, rfl, rfl, .inl ⟨_, rfl, _, _, rfl, rfl, (by show (0 : Int) < 2147483647; decide), _, rfl, _, _, _, 2, rfl, rfl, upd_same, rfl, ?_⟩⟩
      have y0 : 0 ≤ (z * 48271 + c + 7919 * (i + 1) + 12345) % 2147483647 := Int.emod_nonneg _ (by decide)
      have y1 : (z * 48271 + c + 7919 * (i + 1) + 12345) % 2147483647 < 2147483647 := Int.emod_lt_of_pos _ (by decide)
      -- mixed
      refine ⟨_, rfl, _, _, _, _, rfl, rfl, sd upd_same, at3.2.2, _, rfl, _, _, _, _, rfl, rfl, sd upd_same, at3.2.2, _, _, rfl, rfl, .inl ⟨by show -(2 ^ 64) < (z * 48271 + c + 7919 * (i + 1) + 12345) % 2147483647; omega, by show (z * 48271 + c + 7919 * (i + 1) + 12345) % 2147483647 < 2 ^ 64; omega⟩, .inl ⟨_, rfl, _, _, rfl, rfl, (by show (0 : Int) < 2147483629; decide), ?_⟩⟩
      refine ⟨_, rfl, _, _, rfl, rfl, ⟨by decide, by decide⟩, .inl ⟨_, rfl, _, rfl, _, _, rfl, rfl, m0, ?_⟩⟩
      refine k _ _ (Int.emod_nonneg _ (by omega)) (Int.emod_lt_of_pos _ m0) ⟨ne, i + 1, (z * 48271 + c + 7919 * (i + 1) + 12345) % 2147483647, cs, upd_same, by rw [upd_ne ne']; exact hc1 _, y0, y1, cne, cl63, cpos⟩ fun a n1 n2 => by rw [upd_ne n1, upd_ne n1]
theorem ok_law_draw (T : Txt G.K mg) : OKS P w G.K mg base CX0 1 "_law_draw" (top 6) ["draws", "many"] (spF G 2 sDraw) := by
  obtain ⟨f, fd, D⟩ := T.n_law_draw_
  exact ⟨f, fd, D, FG.draw rfl (run_law_draw D.F T.n_len T.n_int)⟩

/-! ### _law_pick -/
theorem sc_law_pick : FnScope ["draws", "some"] ["draws", "some"] (defScope (top 7)) := ⟨rfl, rfl, rfl, by decide +kernel, rfl, by decide +kernel, by decide +kernel⟩

def W_law_pick : WS := (wRet (wBin ixW (wNm 1) (wCallO 2 sDraw (xFix 0 (xCons (wOne lenW (wNm 1)) xNil)))))
theorem hs_law_pick : ∀ M evs R, sPick M evs R → evs.length = 2 → W_law_pick M (NEr R) (evs ++ List.replicate (2 - 2) .no) := fun M evs R h _ => pick_ok h
theorem ok_law_pick (T : Txt G.K mg) : OKS P w G.K mg base CX0 2 "_law_pick" (top 7) ["draws", "some"] (spF G 2 sPick) := by
  have O_law_draw : OKS P w G.K mg base CX0 1 "_law_draw" (top 6) ["draws", "many"] (spF G 2 sDraw) := ok_law_draw T
  obtain ⟨f, fd, D⟩ := T.n_law_pick_
  have ND := sc_law_pick.nd
  exact ⟨f, fd, D, fn_DG (W := W_law_pick) D.F sc_law_pick rfl (fun cdv A outer s H E g hr => ⟨_, (ss_one (s_ret (d_ix rfl (hu_of hr) (d_nm 1).c (d_callO O_law_draw (deeper_guards g _) (hr.mono (by decide)) pass0 (x_fix 0 (x_cons (d_len rfl T.n_len (d_nm 1).c) x_nil))).c).c))⟩) hs_law_pick⟩
/-! ### _law_any_value -/
theorem sc_law_any_value : FnScope ["draws", "signs", "word", "k", "others"] ["draws"] (defScope (top 9)) := ⟨rfl, rfl, rfl, by decide +kernel, rfl, by decide +kernel, by decide +kernel⟩
def AnyV (d : D) : Prop := tame d ∧ d.shw
def s_law_any_value : HB.Spec := fun M evs R => ∃ dr cl, evs = [.fix (.ref dr)] ∧ M = Mdr dr cl ∧ ∀ d, AnyV d → R d
theorem any_str {z : Str} (h : PyData.strOk z = true) (hl : z.length ≤ 90000) : AnyV (.str z) :=
  ⟨⟨rfl, fun y e => by cases e; exact ⟨Nat.le_trans hl (by decide), h⟩⟩, shw_str h hl⟩
theorem any_of {d : D} (h1 : d.ty.isSome = true) (h2 : ∀ z, d ≠ .str z) (h3 : d.noO = true) (h4 : d.py.showable = true) (h5 : d.py.shown.length ≤ 100) (h6 : d.py.depth ≤ 60) (h7 : d.py.hasDict = true → d.noL = true) : AnyV d :=
  ⟨⟨h1, fun z e => absurd e (h2 z)⟩, ⟨h3, h4, Nat.le_trans h5 (by decide), h6, h7⟩⟩
def W_law_any_value : WS := (wSeq (wSet 1 (wBin addW (wBin mulW (wC (.str "abcxyz")) (wC (.int 6))) (wC (.str "A1 -#"))))
  (wSeq (wSet 2 (wS1 joinW (wC (.str "")) (wLC (wIR1 (wCallO 2 sDraw (xFix 0 (xCons (wC (.int 9)) xNil)))) (wGN 3) wYes (wCallO 2 sPick (xFix 0 (xCons (wNm 1) xNil))) [3])))
  (wSeq (wSet 4 (wLst (wCons (wC .non) (wCons (wC (.bl true)) (wCons (wC (.bl false)) (wCons (wC (.int 0)) (wCons (wC (.int 5)) (wCons (wTup wNil) (wCons (wLst wNil) (wCons (wC (.dct [])) (wCons (wTup (wCons (wC (.str "a")) wNil)) (wCons (wLst (wCons (wC (.str "a")) wNil)) (wCons (wDisp (wDc (wC (.str "a")) (wC (.int 1)) wDn)) (wCons (wBin mulW (wC (.str "a")) (wC (.int 6))) (wCons (wBin mulW (wC (.str "a")) (wC (.int 7))) (wCons (wBin mulW (wC (.str "z")) (wC (.int 5000))) wNil))))))))))))))))
  (wRet (wCallO 2 sPick (xFix 0 (xCons (wLst (wCons (wNm 2) (wCons (wNm 2) (wCons (wNm 2) (wCons (wCallO 2 sPick (xFix 0 (xCons (wNm 4) xNil))) wNil))))) xNil)))))))
theorem hs_law_any_value : ∀ M evs R, s_law_any_value M evs R → evs.length = 1 → W_law_any_value M (NEr R) (evs ++ List.replicate (5 - 1) .no) := by
  intro M evs R h _
  obtain ⟨dr, cl, rfl, rfl, r⟩ := h
  have sl : (Txt.mul "abcxyz" 6 ++ ("A1 -#" : Str)).length = 41 := by decide +kernel
  have so : PyData.strOk (Txt.mul "abcxyz" 6 ++ ("A1 -#" : Str)) = true := by decide +kernel
  refine ⟨⟨by decide, by decide, by decide +kernel⟩, (by decide +kernel), ?_⟩
  refine ⟨rfl, dr, cl, 9, rfl, rfl, by decide, by decide, fun n h0 h1 => ⟨⟨by omega, by omega⟩, ?_, lcA OneS (fun d hd T t => ?_) fun ys hl hy => ?_⟩⟩
  · simp [rngD]
    have : LIM = 1000000 := rfl
    omega
  · refine ⟨rfl, dr, cl, _, rfl, rfl, ⟨by rw [sl]; decide, by rw [sl]; decide⟩, fun c hc => t _ ⟨c, strOk_iff.mp so c hc, rfl⟩⟩
  · obtain ⟨zs, e1, e2, e3, e4, e5⟩ := ones_join hy
    have hn : ys.length ≤ 8 := by
      rw [hl]
      simp [rngD]
      omega
    have big : LIM = 1000000 := rfl
    refine ⟨zs, e1, by rw [e3, e2]; show _ + _ * 0 ≤ _; omega, ?_⟩
    have wd : AnyV (.str (Txt.join "" zs)) := any_str e5 (by omega)
    generalize Txt.join "" zs = word at wd
    have l0 : ∀ n : Nat, n ≤ 20 → n ≤ LIM := fun n h => by omega
    refine ⟨l0 _ (by decide), l0 _ (by decide), l0 _ (by decide), l0 _ (by decide), .inr "a", rfl, by decide, ⟨by decide, by decide, by decide +kernel⟩, ⟨by decide, by decide, by decide +kernel⟩, ⟨by decide, by decide, by decide +kernel⟩, l0 _ (by simp), ?_⟩
    refine ⟨rfl, dr, cl, _, rfl, rfl, ⟨by simp, l0 _ (by simp)⟩, fun x hx => ⟨l0 _ (by simp), rfl, dr, cl, _, rfl, rfl, ⟨by simp, l0 _ (by simp)⟩, fun y hy => r y ?_⟩⟩
    have hxa : AnyV x := by
      simp only [List.mem_cons, List.not_mem_nil, or_false] at hx
      rcases hx with rfl | rfl | rfl | rfl | rfl | rfl | rfl | rfl | rfl | rfl | rfl | rfl | rfl | rfl
      · exact any_of rfl (fun z e => by cases e) rfl (by decide +kernel) (by decide +kernel) (by decide +kernel) (by decide +kernel)
      · exact any_of rfl (fun z e => by cases e) rfl (by decide +kernel) (by decide +kernel) (by decide +kernel) (by decide +kernel)
      · exact any_of rfl (fun z e => by cases e) rfl (by decide +kernel) (by decide +kernel) (by decide +kernel) (by decide +kernel)
      · exact any_of rfl (fun z e => by cases e) rfl (by decide +kernel) (by decide +kernel) (by decide +kernel) (by decide +kernel)
      · exact any_of rfl (fun z e => by cases e) rfl (by decide +kernel) (by decide +kernel) (by decide +kernel) (by decide +kernel)
      · exact any_of rfl (fun z e => by cases e) rfl (by decide +kernel) (by decide +kernel) (by decide +kernel) (by decide +kernel)
      · exact any_of rfl (fun z e => by cases e) rfl (by decide +kernel) (by decide +kernel) (by decide +kernel) (by decide +kernel)
      · exact any_of rfl (fun z e => by cases e) rfl (by decide +kernel) (by decide +kernel) (by decide +kernel) (by decide +kernel)
      · exact any_of rfl (fun z e => by cases e) rfl (by decide +kernel) (by decide +kernel) (by decide +kernel) (by decide +kernel)
      · exact any_of rfl (fun z e => by cases e) rfl (by decide +kernel) (by decide +kernel) (by decide +kernel) (by decide +kernel)
      · exact any_of rfl (fun z e => by cases e) rfl (by decide +kernel) (by decide +kernel) (by decide +kernel) (by decide +kernel)
      · exact any_str (mul_ok (by decide) (by decide +kernel)) (by rw [mul_len (by decide)]; decide +kernel)
      · exact any_str (mul_ok (by decide) (by decide +kernel)) (by rw [mul_len (by decide)]; decide +kernel)
      · exact any_str (mul_ok (by decide) (by decide +kernel)) (by rw [mul_len (by decide)]; decide +kernel)
    simp only [List.mem_cons, List.not_mem_nil, or_false] at hy
    rcases hy with rfl | rfl | rfl | rfl
    · exact wd
    · exact wd
    · exact wd
    · exact hxa
theorem ok_law_any_value (T : Txt G.K mg) : OKS P w G.K mg base CX0 3 "_law_any_value" (top 9) ["draws"] (spF G 1 s_law_any_value) := by
  have O_law_draw : OKS P w G.K mg base CX0 1 "_law_draw" (top 6) ["draws", "many"] (spF G 2 sDraw) := ok_law_draw T
  have O_law_pick : OKS P w G.K mg base CX0 2 "_law_pick" (top 7) ["draws", "some"] (spF G 2 sPick) := ok_law_pick T
  obtain ⟨f, fd, D⟩ := T.n_law_any_value_
  have ND := sc_law_any_value.nd
  exact ⟨f, fd, D, fn_DG (W := W_law_any_value) D.F sc_law_any_value rfl (fun cdv A outer s H E g hr => ⟨_, (ss_cons (s_set 1 ND (d_add rfl (d_mulA d_str.c d_int.c).c d_str.c))
      (ss_cons (s_set 2 ND (d_join rfl d_str.c (d_lc rfl ND (i_rng1 T.n_range (d_callO O_law_draw (deeper_guards g _) (hr.mono (by decide)) pass0 (x_fix 0 (x_cons d_int x_nil))).c).c (own := [("k", 3)]) (blkOk_by rfl) (fun s H C cl fp => (g_nm 3 ND)) (fun s H C cl fp => ts_nil) (fun s H C cl fp => (d_callO O_law_pick (deeper_guards g _) (hr.mono (by decide)) pass0 (x_fix 0 (x_cons (d_nm 1) x_nil))))).e.c))
      (ss_cons (s_set 4 ND (d_lst (a_cons d_non (a_cons d_bl (a_cons d_bl (a_cons d_int (a_cons d_int (a_cons (d_tup a_nil) (a_cons (d_lst a_nil).e (a_cons d_dnew.e (a_cons (d_tup (a_cons d_str a_nil)) (a_cons (d_lst (a_cons d_str a_nil)).e (a_cons (d_disp (dd_cons d_str d_int dd_nil)).e (a_cons (d_mulA d_str.c d_int.c) (a_cons (d_mulA d_str.c d_int.c) (a_cons (d_mulA d_str.c d_int.c) a_nil))))))))))))))).e)
      (ss_one (s_ret (d_callO O_law_pick (deeper_guards g _) (hr.mono (by decide)) pass0 (x_fix 0 (x_cons (d_lst (a_cons (d_nm 2) (a_cons (d_nm 2) (a_cons (d_nm 2) (a_cons (d_callO O_law_pick (deeper_guards g _) (hr.mono (by decide)) pass0 (x_fix 0 (x_cons (d_nm 4) x_nil))) a_nil))))).e x_nil))).c)))))⟩) hs_law_any_value⟩
/-! ### _law_is_name -/
theorem sc_law_is_name : FnScope ["value", "sign"] ["value"] (defScope (top 8)) := ⟨rfl, rfl, rfl, by decide +kernel, rfl, by decide +kernel, by decide +kernel⟩
--HINT value => str
def s_law_is_name : HB.Spec := fun M evs R => ∃ d, evs = [.dat d] ∧ tame d ∧ R (.bl (nameD d))
def W_law_is_name : WS := (wSeq (wIfS (wOr (wNot (wTst (wOne (isiW ["str"]) (wNm 0)))) (wNot (wTst (wChn (ordW (fun i j => decide (i ≤ j)) fun x y => !decide (y.cps.toList < x.cps.toList)) (ordW (fun i j => decide (i ≤ j)) fun x y => !decide (y.cps.toList < x.cps.toList)) (wC (.int 1)) (wOne lenW (wNm 0)) (wC (.int 6)))))) (wRet (wC (.bl false))) wNext)
  (wRet (wBin eqW (wLC (wIStr (wNm 0)) (wGN 1) (wTst (wBin (inW true) (wNm 1) (wC (.str "abcdefghijklmnopqrstuvwxyz")))) (wNm 1) [1]) (wLst wNil))))
theorem hs_law_is_name : ∀ M evs R, s_law_is_name M evs R → evs.length = 1 → W_law_is_name M (NEr R) (evs ++ List.replicate (2 - 1) .no) := by
  intro M evs R h _
  obtain ⟨d, rfl, t, r⟩ := h
  refine isName_top (ρ := [.dat d] ++ List.replicate (2 - 1) .no) (i := 0) (d := d) rfl t ⟨fun z e h => ?_, fun h => ?_⟩
  · subst e
    rw [if_neg (by simp)]
    have hl := t.2 z rfl
    simp only [HB.wNm, HB.wOwn, HB.wC, HB.wBin, HB.wNeg, HB.wTst, HB.wChn, HB.wTru, HB.wAnd, HB.wOr, HB.wNot, HB.wAndV, HB.wOrV, HB.wNotV, HB.wIf, HB.wNil, HB.wCons, HB.wTup, HB.wLst, HB.wPn, HB.wPs, HB.wSl, HB.wOne, HB.wS1, HB.wS0, HB.wGN, HB.wGsN, HB.wGsC, HB.wGT, HB.wILst, HB.wITup, HB.wIStr, HB.wIR1, HB.wIR2, HB.wIEn, HB.wIZip, HB.wIOr, HB.wYes, HB.wLC, HB.wNext, HB.wSeq, HB.wBrk, HB.wCnt, HB.wRetN, HB.wSet, HB.wNew, HB.wAsg, HB.wPar, HB.wParNE, HB.wParEN, HB.wParNN, HB.wRet, HB.wIfS, HB.wFor, HB.wApp, HB.wExt, HB.wPut, HB.xNil, HB.xCons, HB.xFix, HB.wCallO, HB.wDn, HB.wDc, HB.wDisp, HB.wInT, HB.frzR, HB.wFrz, HB.intW, HB.addW, HB.eqW, HB.neW, HB.ordW, HB.truW, HB.ixW, HB.slW, HB.lenW, HB.allW, HB.absW, HB.intTW, HB.tupTW, HB.lstTW, HB.joinW, HB.mulW, HB.isNW, List.cons_append, List.getElem?_cons_zero]
    refine ⟨by simpa [signs, Str.length] using hl.1, lcN (fun d => !inLet d) (fun d => d) (fun d hd => ⟨fun T t => ?_, fun _ T t => t⟩) ?_⟩
    · obtain ⟨c, _, rfl⟩ := List.mem_map.mp hd
      have t' : T (!decide (c ∈ letters)) := by simpa [inLet] using t
      exact t'
    · rw [List.map_id'']
      · refine ⟨by show 0 ≤ 1000000; decide, ⟨?_, by decide⟩, ?_⟩
        · exact (Fine.lst (n := 0) (.of fun d hd => signs_fine hl.2 d (List.mem_filter.mp hd).1)).ok
        · rw [strs_eqv _ fun d hd => by
            obtain ⟨c, _, rfl⟩ := List.mem_map.mp (List.mem_filter.mp hd).1
            exact ⟨_, rfl⟩]
          have e : ((signs z).filter fun d => !inLet d).isEmpty = nameS z := by
            rw [Bool.eq_iff_iff]
            simp only [signs, nameS, h.1, h.2, inLet, decide_true, Bool.true_and, List.isEmpty_iff, List.filter_eq_nil_iff, List.mem_map, List.all_eq_true, decide_eq_true_eq]
            exact ⟨fun q c hc => by simpa using q _ ⟨c, hc, rfl⟩, fun q d ⟨c, hc, e⟩ => by subst e; simpa using q c hc⟩
          rw [e]
          exact r
      · intro x; rfl
  · rw [if_pos rfl]
    rw [not_name t h] at r
    exact r
theorem ok_law_is_name (T : Txt G.K mg) : OKS P w G.K mg base CX0 1 "_law_is_name" (top 8) ["value"] (spF G 1 s_law_is_name) := by
  obtain ⟨f, fd, D⟩ := T.n_law_is_name_
  have ND := sc_law_is_name.nd
  exact ⟨f, fd, D, fn_DG (W := W_law_is_name) D.F sc_law_is_name rfl (fun cdv A outer s H E g hr => ⟨_, (ss_cons (s_if (w_or (t_not (t_val (d_isi "str" rfl T.n_isinstance T.n_str (d_nm 0).c).c)) (w_or1 (t_not (t_chn op_leA rb_rOrd op_leA rb_rOrd d_int.c (d_len rfl T.n_len (d_nm 0).c).c d_int.c)))).t (ss_one (s_ret d_bl.c)) ss_nil)
      (ss_one (s_ret (d_cmp (op_eqA hr.units) rb_eq (d_lc rfl ND (i_str (d_nm 0).c).c (own := [("sign", 1)]) (blkOk_by rfl) (fun s H C cl fp => (g_nm 1 ND)) (fun s H C cl fp => (ts_one (t_cmp (op_notInA (hu65 hr)) rb_in (d_nm 1).c d_str.c rfl))) (fun s H C cl fp => (d_nm 1))).e.c (d_lst a_nil).e.c (nomark _)).c)))⟩) hs_law_is_name⟩
/-! ### is_name -/
theorem sc_is_name : FnScope ["thing", "sign"] ["thing"] (defScope (top 3)) := ⟨rfl, rfl, rfl, by decide +kernel, rfl, by decide +kernel, by decide +kernel⟩
--HINT thing => str
def s_is_name : HB.Spec := fun M evs R => ∃ d, evs = [.dat d] ∧ tame d ∧ R (.bl (nameD d))
def W_is_name : WS := (wSeq (wIfS (wOr (wNot (wTst (wOne (isiW ["str"]) (wNm 0)))) (wNot (wTst (wChn (ordW (fun i j => decide (i ≤ j)) fun x y => !decide (y.cps.toList < x.cps.toList)) (ordW (fun i j => decide (i ≤ j)) fun x y => !decide (y.cps.toList < x.cps.toList)) (wC (.int 1)) (wOne lenW (wNm 0)) (wC (.int 6)))))) (wRet (wC (.bl false))) wNext)
  (wRet (wOne (allW fun bs => bs.all id) (wLC (wIStr (wNm 0)) (wGN 1) wYes (wBin (inW false) (wNm 1) (wC (.str "abcdefghijklmnopqrstuvwxyz"))) [1]))))
theorem hs_is_name : ∀ M evs R, s_is_name M evs R → evs.length = 1 → W_is_name M (NEr R) (evs ++ List.replicate (2 - 1) .no) := by
  intro M evs R h _
  obtain ⟨d, rfl, t, r⟩ := h
  refine isName_top (ρ := [.dat d] ++ List.replicate (2 - 1) .no) (i := 0) (d := d) rfl t ⟨fun z e h => ?_, fun h => ?_⟩
  · subst e
    rw [if_neg (by simp)]
    have hl := (t.2 z rfl).1
    simp only [HB.wNm, HB.wOwn, HB.wC, HB.wBin, HB.wNeg, HB.wTst, HB.wChn, HB.wTru, HB.wAnd, HB.wOr, HB.wNot, HB.wAndV, HB.wOrV, HB.wNotV, HB.wIf, HB.wNil, HB.wCons, HB.wTup, HB.wLst, HB.wPn, HB.wPs, HB.wSl, HB.wOne, HB.wS1, HB.wS0, HB.wGN, HB.wGsN, HB.wGsC, HB.wGT, HB.wILst, HB.wITup, HB.wIStr, HB.wIR1, HB.wIR2, HB.wIEn, HB.wIZip, HB.wIOr, HB.wYes, HB.wLC, HB.wNext, HB.wSeq, HB.wBrk, HB.wCnt, HB.wRetN, HB.wSet, HB.wNew, HB.wAsg, HB.wPar, HB.wParNE, HB.wParEN, HB.wParNN, HB.wRet, HB.wIfS, HB.wFor, HB.wApp, HB.wExt, HB.wPut, HB.xNil, HB.xCons, HB.xFix, HB.wCallO, HB.wDn, HB.wDc, HB.wDisp, HB.wInT, HB.frzR, HB.wFrz, HB.intW, HB.addW, HB.eqW, HB.neW, HB.ordW, HB.truW, HB.ixW, HB.slW, HB.lenW, HB.allW, HB.absW, HB.intTW, HB.tupTW, HB.lstTW, HB.joinW, HB.mulW, HB.isNW, List.cons_append, List.getElem?_cons_zero]
    refine ⟨by simpa [signs, Str.length] using hl, lcN (fun _ => true) (fun d => .bl (inLet d)) (fun d hd => ⟨fun T t => t, fun _ T t => ?_⟩) ?_⟩
    · obtain ⟨c, _, rfl⟩ := List.mem_map.mp hd
      have t' : T (.bl (decide (c ∈ letters))) := by simpa [inLet] using t
      exact t'
    · refine ⟨_, by rw [filT]; exact boolsOf_mapf inLet _, ?_⟩
      have e : ((signs z).map inLet).all id = nameS z := by
        simp [signs, nameS, h.1, h.2, List.all_map, Function.comp_def, inLet]
      rw [e]
      exact r
  · rw [if_pos rfl]
    rw [not_name t h] at r
    exact r
theorem ok_is_name (T : Txt G.K mg) : OKS P w G.K mg base CX0 1 "is_name" (top 3) ["thing"] (spF G 1 s_is_name) := by
  obtain ⟨f, fd, D⟩ := T.n_is_name
  have ND := sc_is_name.nd
  exact ⟨f, fd, D, fn_DG (W := W_is_name) D.F sc_is_name rfl (fun cdv A outer s H E g hr => ⟨_, (ss_cons (s_if (w_or (t_not (t_val (d_isi "str" rfl T.n_isinstance T.n_str (d_nm 0).c).c)) (w_or1 (t_not (t_chn op_leA rb_rOrd op_leA rb_rOrd d_int.c (d_len rfl T.n_len (d_nm 0).c).c (d_glI T.n_MOST_LETTERS).c)))).t (ss_one (s_ret d_bl.c)) ss_nil)
      (ss_one (s_ret (d_all rfl rfl T.n_all (d_lc rfl ND (i_str (d_nm 0).c).c (own := [("sign", 1)]) (blkOk_by rfl) (fun s H C cl fp => (g_nm 1 ND)) (fun s H C cl fp => ts_nil) (fun s H C cl fp => (d_cmp (op_inA (hu65 hr)) rb_in (d_nm 1).c (d_glS T.n_LETTERS).c rfl))).e.c).c)))⟩) hs_is_name⟩
/-! ### law -/
theorem sc_law : FnScope ["script", "draws", "turn", "value", "before", "due"] ["script"] (defScope (top 10)) := ⟨rfl, rfl, rfl, by decide +kernel, rfl, by decide +kernel, by decide +kernel⟩
def W_law : WS := (wSeq (wFor (wIR1 (wBin addW (wC (.int 20)) (wBin (intW (fun _ _ => True) fun i j => .int (if j < i then j else i)) (wOne lenW (wNm 0)) (wC (.int 40))))) (wGN 2) (wSeq (wSet 3 (wCallO 1 s_law_any_value (xFix 1 xNil)))
  (wSeq (wPar 4 5 (wOne reprW (wNm 3)) (wCallO 1 s_law_is_name (xCons (wNm 3) xNil)))
  (wIfS (wOr (wTst (wBin neW (wOne reprW (wLst (wCons (wCallO 1 s_is_name (xCons (wNm 3) xNil)) (wCons (wCallO 1 s_is_name (xCons (wNm 3) xNil)) wNil)))) (wOne reprW (wLst (wCons (wNm 5) (wCons (wNm 5) wNil)))))) (wTst (wBin neW (wOne reprW (wNm 3)) (wNm 4)))) (wRet (wC (.bl false))) wNext))))
  (wRet (wC (.bl true))))
theorem eq_self (z : Str) : (z == z) = true := by simp
theorem hw_law : ∀ (ns : List Int) (dr cl : Addr), ns.length ≤ 63 → W_law (Mdr dr cl) ⟨fun _ => False, fun d => d = .bl true, fun _ => False, fun _ => False⟩ (.dat (.scr ns) :: .fix (.ref dr) :: List.replicate (6 - 2) .no) := by
  intro ns dr cl hn
  have big : LIM = 1000000 := rfl
  refine ⟨trivial, ?_⟩
  have hm : ((20 : Int) + (if (40 : Int) < (ns.length : Int) then 40 else (ns.length : Int))) ≤ 60 ∧ 0 ≤ ((20 : Int) + (if (40 : Int) < (ns.length : Int) then 40 else (ns.length : Int))) := by
    split <;> omega
  refine ⟨⟨by omega, by omega⟩, forK (fun ρ => ∃ a b c d, ρ = [.dat (.scr ns), .fix (.ref dr), a, b, c, d]) (fun d hd ρ Nx hI k => ?_) ⟨_, _, _, _, rfl⟩ fun ρ h => rfl⟩
  obtain ⟨a, b, c, e, rfl⟩ := hI
  refine ⟨rfl, dr, cl, rfl, rfl, fun v hv => ?_⟩
  refine ⟨hv.2, rfl, v, rfl, hv.1, ?_⟩
  refine ⟨rfl, v, rfl, hv.1, rfl, v, rfl, hv.1, (by show 2 ≤ LIM; omega), ?_⟩
  have sh : (D.lst [.bl (nameD v), .bl (nameD v)]).shw := by
    cases nameD v <;> exact ⟨rfl, by decide +kernel, by decide +kernel, by decide +kernel, fun h => by simp [D.py, D.pys, PyData.hasDict, PyData.hasDictAll] at h⟩
  refine ⟨sh, (by show 2 ≤ LIM; omega), sh, ?_⟩
  simp only [HB.wNm, HB.wOwn, HB.wC, HB.wBin, HB.wNeg, HB.wTst, HB.wChn, HB.wTru, HB.wAnd, HB.wOr, HB.wNot, HB.wAndV, HB.wOrV, HB.wNotV, HB.wIf, HB.wNil, HB.wCons, HB.wTup, HB.wLst, HB.wPn, HB.wPs, HB.wSl, HB.wOne, HB.wS1, HB.wS0, HB.wGN, HB.wGsN, HB.wGsC, HB.wGT, HB.wILst, HB.wITup, HB.wIStr, HB.wIR1, HB.wIR2, HB.wIEn, HB.wIZip, HB.wIOr, HB.wYes, HB.wLC, HB.wNext, HB.wSeq, HB.wBrk, HB.wCnt, HB.wRetN, HB.wSet, HB.wNew, HB.wAsg, HB.wPar, HB.wParNE, HB.wParEN, HB.wParNN, HB.wRet, HB.wIfS, HB.wFor, HB.wApp, HB.wExt, HB.wPut, HB.xNil, HB.xCons, HB.xFix, HB.wCallO, HB.wDn, HB.wDc, HB.wDisp, HB.wInT, HB.frzR, HB.wFrz, HB.intW, HB.addW, HB.eqW, HB.neW, HB.ordW, HB.truW, HB.ixW, HB.slW, HB.lenW, HB.allW, HB.absW, HB.intTW, HB.tupTW, HB.lstTW, HB.joinW, HB.mulW, HB.isNW, eq_self, Bool.not_true, Bool.false_eq_true, if_false, List.set_cons_succ, List.set_cons_zero, List.getElem?_cons_succ, List.getElem?_cons_zero]
  refine ⟨hv.2, ?_⟩
  simp only [eq_self, Bool.not_true, Bool.false_eq_true, if_false]
  exact k _ ⟨_, _, _, _, rfl⟩
theorem ok_law (T : Txt G.K mg) : OKS P w G.K mg base CX0 4 "law" (top 10) ["script"] (spLaw G.K) := by
  have O_law_any_value : OKS P w G.K mg base CX0 3 "_law_any_value" (top 9) ["draws"] (spF G 1 s_law_any_value) := ok_law_any_value T
  have O_law_is_name : OKS P w G.K mg base CX0 1 "_law_is_name" (top 8) ["value"] (spF G 1 s_law_is_name) := ok_law_is_name T
  have Ois_name : OKS P w G.K mg base CX0 1 "is_name" (top 3) ["thing"] (spF G 1 s_is_name) := ok_is_name T
  obtain ⟨f, fd, D⟩ := T.n_law
  have ND := sc_law.nd
  obtain ⟨fs, fds, DS, FS⟩ := ok_law_state (P := P) (w := w) (base := base) T
  refine ⟨f, fd, D, Fun.okG D.F sc_law (fun vs H Q E h => by obtain ⟨a, ns, rfl, _⟩ := h; rfl) fun cdv A outer s H vs Q E g hr h => ?_⟩
  obtain ⟨t, b⟩ : ∃ t, DSs (cxOf CX0 P w G.K mg base ["script", "draws", "turn", "value", "before", "due"] "law" (defScope (top 10)) f cdv A outer s H E).nox G ((defBody (top 10)).tail) t W_law := ⟨_, (ss_cons (s_for PassesOwn.never rfl (i_rng1 T.n_range (d_add rfl d_int.c (d_min2 rfl T.n_min (d_len rfl T.n_len (d_nm 0).c).c d_int.c).c).c) (g_nm 2 ND)
      (ss_cons (s_set 3 ND (d_callO O_law_any_value (deeper_guards g _) (hr.mono (by decide)) pass0 (x_fix 1 x_nil)))
      (ss_cons (s_par 4 5 rfl ND (d_repr (deeper_guards g _) hr.units T.n_repr (d_nm 3).c) (d_callO O_law_is_name (deeper_guards g _) (hr.mono (by decide)) pass0 (x_cons (d_nm 3) x_nil)))
      (ss_one (s_if (w_or (t_cmp (op_neA hr.units) rb_ne (d_repr (deeper_guards g _) hr.units T.n_repr (d_lst (a_cons (d_callO Ois_name (deeper_guards g _) (hr.mono (by decide)) pass0 (x_cons (d_nm 3) x_nil)) (a_cons (d_callK0 Ois_name (deeper_guards g _) (hr.mono (by decide)) pass0 (fun f fd D => kb_is_name D) rfl (k_cons (d_nm 3) k_nil)) a_nil))).e.c).c (d_repr (deeper_guards g _) hr.units T.n_repr (d_lst (a_cons (d_nm 5) (a_cons (d_nm 5) a_nil))).e.c).c (nomark _)) (w_or1 (t_cmp (op_neA hr.units) rb_ne (d_repr (deeper_guards g _) hr.units T.n_repr (d_nm 3).c).c (d_nm 4).c (nomark _)))).t (ss_one (s_ret d_bl.c)) ss_nil)))))
      (ss_one (s_ret d_bl.c)))⟩
  exact ⟨_, pss_cons (ps_set (i := 1) sc_law.nd rfl (by first | exact Or.inl rfl | exact Or.inr rfl) (pe_callG (E := fun _ _ _ => False) FS (deeper_guards g _) (hr.mono (by decide)) rfl DS.m DS.F.2 DS.b pass0 (pa_cons (pv 0) pa_nil))) b.ps, law_run rfl h b.ss hw_law⟩
end
theorem txt_mk {K : PySem.W.Frag} {mg : Str → Option Value} {h : Heap} (X : K.In h) (N : h.Ns mainGlobals mg) {f_n_law_state_ : Addr} {od_n_law_state_ an_n_law_state_ : Option Addr} {sl_n_law_state_ : Array (Option Value)} {oc_n_law_state_ kV_n_law_state_ dc_n_law_state_ pm_n_law_state_ cd_n_law_state_ ct_n_law_state_ : Value}
  {f_n_law_draw_ : Addr} {od_n_law_draw_ an_n_law_draw_ : Option Addr} {sl_n_law_draw_ : Array (Option Value)} {oc_n_law_draw_ kV_n_law_draw_ dc_n_law_draw_ pm_n_law_draw_ cd_n_law_draw_ ct_n_law_draw_ : Value}
  {f_n_law_pick_ : Addr} {od_n_law_pick_ an_n_law_pick_ : Option Addr} {sl_n_law_pick_ : Array (Option Value)} {oc_n_law_pick_ kV_n_law_pick_ dc_n_law_pick_ pm_n_law_pick_ cd_n_law_pick_ ct_n_law_pick_ : Value}
  {f_n_law_any_value_ : Addr} {od_n_law_any_value_ an_n_law_any_value_ : Option Addr} {sl_n_law_any_value_ : Array (Option Value)} {oc_n_law_any_value_ kV_n_law_any_value_ dc_n_law_any_value_ pm_n_law_any_value_ cd_n_law_any_value_ ct_n_law_any_value_ : Value}
  {f_n_law_is_name_ : Addr} {od_n_law_is_name_ an_n_law_is_name_ : Option Addr} {sl_n_law_is_name_ : Array (Option Value)} {oc_n_law_is_name_ kV_n_law_is_name_ dc_n_law_is_name_ pm_n_law_is_name_ cd_n_law_is_name_ ct_n_law_is_name_ : Value}
  {f_n_is_name : Addr} {od_n_is_name an_n_is_name : Option Addr} {sl_n_is_name : Array (Option Value)} {oc_n_is_name kV_n_is_name dc_n_is_name pm_n_is_name cd_n_is_name ct_n_is_name : Value}
  {t_n_MOST_LETTERS : Tok}
  {t_n_LETTERS : Tok}
  {f_n_law : Addr} {od_n_law an_n_law : Option Addr} {sl_n_law : Array (Option Value)} {oc_n_law kV_n_law dc_n_law pm_n_law cd_n_law ct_n_law : Value}
  (a_n_law_state_ : PySem.W.nsIn K mainGlobals "_law_state" = some (some (.ref f_n_law_state_)))
  (l_n_law_state_ : K.lookup f_n_law_state_ = some ⟨oc_n_law_state_, od_n_law_state_, .func (PySem.W.fnOf "_law_state" "_law_state" (defArgs (top 5)) (defBody (top 5)) (defScope (top 5)) .none kV_n_law_state_ dc_n_law_state_ pm_n_law_state_ an_n_law_state_ cd_n_law_state_ ct_n_law_state_), sl_n_law_state_⟩)
  (c_n_law_state_ : PySem.W.codeIn K cd_n_law_state_ "_law_state" = true)
  (k_n_law_state_ : PySem.W.keepIn K (.ref f_n_law_state_) = true)
  (a_n_abs : PySem.W.nsIn K mainGlobals "abs" = some none)
  (a_n_law_draw_ : PySem.W.nsIn K mainGlobals "_law_draw" = some (some (.ref f_n_law_draw_)))
  (l_n_law_draw_ : K.lookup f_n_law_draw_ = some ⟨oc_n_law_draw_, od_n_law_draw_, .func (PySem.W.fnOf "_law_draw" "_law_draw" (defArgs (top 6)) (defBody (top 6)) (defScope (top 6)) .none kV_n_law_draw_ dc_n_law_draw_ pm_n_law_draw_ an_n_law_draw_ cd_n_law_draw_ ct_n_law_draw_), sl_n_law_draw_⟩)
  (c_n_law_draw_ : PySem.W.codeIn K cd_n_law_draw_ "_law_draw" = true)
  (k_n_law_draw_ : PySem.W.keepIn K (.ref f_n_law_draw_) = true)
  (a_n_len : PySem.W.nsIn K mainGlobals "len" = some none)
  (a_n_int : PySem.W.nsIn K mainGlobals "int" = some none)
  (a_n_law_pick_ : PySem.W.nsIn K mainGlobals "_law_pick" = some (some (.ref f_n_law_pick_)))
  (l_n_law_pick_ : K.lookup f_n_law_pick_ = some ⟨oc_n_law_pick_, od_n_law_pick_, .func (PySem.W.fnOf "_law_pick" "_law_pick" (defArgs (top 7)) (defBody (top 7)) (defScope (top 7)) .none kV_n_law_pick_ dc_n_law_pick_ pm_n_law_pick_ an_n_law_pick_ cd_n_law_pick_ ct_n_law_pick_), sl_n_law_pick_⟩)
  (c_n_law_pick_ : PySem.W.codeIn K cd_n_law_pick_ "_law_pick" = true)
  (k_n_law_pick_ : PySem.W.keepIn K (.ref f_n_law_pick_) = true)
  (a_n_law_any_value_ : PySem.W.nsIn K mainGlobals "_law_any_value" = some (some (.ref f_n_law_any_value_)))
  (l_n_law_any_value_ : K.lookup f_n_law_any_value_ = some ⟨oc_n_law_any_value_, od_n_law_any_value_, .func (PySem.W.fnOf "_law_any_value" "_law_any_value" (defArgs (top 9)) (defBody (top 9)) (defScope (top 9)) .none kV_n_law_any_value_ dc_n_law_any_value_ pm_n_law_any_value_ an_n_law_any_value_ cd_n_law_any_value_ ct_n_law_any_value_), sl_n_law_any_value_⟩)
  (c_n_law_any_value_ : PySem.W.codeIn K cd_n_law_any_value_ "_law_any_value" = true)
  (k_n_law_any_value_ : PySem.W.keepIn K (.ref f_n_law_any_value_) = true)
  (a_n_range : PySem.W.nsIn K mainGlobals "range" = some none)
  (a_n_law_is_name_ : PySem.W.nsIn K mainGlobals "_law_is_name" = some (some (.ref f_n_law_is_name_)))
  (l_n_law_is_name_ : K.lookup f_n_law_is_name_ = some ⟨oc_n_law_is_name_, od_n_law_is_name_, .func (PySem.W.fnOf "_law_is_name" "_law_is_name" (defArgs (top 8)) (defBody (top 8)) (defScope (top 8)) .none kV_n_law_is_name_ dc_n_law_is_name_ pm_n_law_is_name_ an_n_law_is_name_ cd_n_law_is_name_ ct_n_law_is_name_), sl_n_law_is_name_⟩)
  (c_n_law_is_name_ : PySem.W.codeIn K cd_n_law_is_name_ "_law_is_name" = true)
  (k_n_law_is_name_ : PySem.W.keepIn K (.ref f_n_law_is_name_) = true)
  (a_n_isinstance : PySem.W.nsIn K mainGlobals "isinstance" = some none)
  (a_n_str : PySem.W.nsIn K mainGlobals "str" = some none)
  (a_n_is_name : PySem.W.nsIn K mainGlobals "is_name" = some (some (.ref f_n_is_name)))
  (l_n_is_name : K.lookup f_n_is_name = some ⟨oc_n_is_name, od_n_is_name, .func (PySem.W.fnOf "is_name" "is_name" (defArgs (top 3)) (defBody (top 3)) (defScope (top 3)) .none kV_n_is_name dc_n_is_name pm_n_is_name an_n_is_name cd_n_is_name ct_n_is_name), sl_n_is_name⟩)
  (c_n_is_name : PySem.W.codeIn K cd_n_is_name "is_name" = true)
  (k_n_is_name : PySem.W.keepIn K (.ref f_n_is_name) = true)
  (a_n_MOST_LETTERS : PySem.W.nsIn K mainGlobals "MOST_LETTERS" = some (some (.int 6 t_n_MOST_LETTERS)))
  (a_n_all : PySem.W.nsIn K mainGlobals "all" = some none)
  (a_n_LETTERS : PySem.W.nsIn K mainGlobals "LETTERS" = some (some (.str "abcdefghijklmnopqrstuvwxyz" t_n_LETTERS)))
  (a_n_law : PySem.W.nsIn K mainGlobals "law" = some (some (.ref f_n_law)))
  (l_n_law : K.lookup f_n_law = some ⟨oc_n_law, od_n_law, .func (PySem.W.fnOf "law" "law" (defArgs (top 10)) (defBody (top 10)) (defScope (top 10)) .none kV_n_law dc_n_law pm_n_law an_n_law cd_n_law ct_n_law), sl_n_law⟩)
  (c_n_law : PySem.W.codeIn K cd_n_law "law" = true)
  (k_n_law : PySem.W.keepIn K (.ref f_n_law) = true)
  (a_n_min : PySem.W.nsIn K mainGlobals "min" = some none)
  (a_n_repr : PySem.W.nsIn K mainGlobals "repr" = some none) : Txt K mg :=
  ⟨⟨_, _, ⟨fun_mk (st := (top 5)) l_n_law_state_ c_n_law_state_ k_n_law_state_, PySem.W.mg_of X N a_n_law_state_, (fun_mk (st := (top 5)) l_n_law_state_ c_n_law_state_ k_n_law_state_).binds fun _ _ _ _ _ _ us hl => match us, hl with | [_], _ => rfl⟩⟩,
   PySem.W.mg_none_of X N a_n_abs,
   ⟨_, _, ⟨fun_mk (st := (top 6)) l_n_law_draw_ c_n_law_draw_ k_n_law_draw_, PySem.W.mg_of X N a_n_law_draw_, (fun_mk (st := (top 6)) l_n_law_draw_ c_n_law_draw_ k_n_law_draw_).binds fun _ _ _ _ _ _ us hl => match us, hl with | [_, _], _ => rfl⟩⟩,
   PySem.W.mg_none_of X N a_n_len,
   PySem.W.mg_none_of X N a_n_int,
   ⟨_, _, ⟨fun_mk (st := (top 7)) l_n_law_pick_ c_n_law_pick_ k_n_law_pick_, PySem.W.mg_of X N a_n_law_pick_, (fun_mk (st := (top 7)) l_n_law_pick_ c_n_law_pick_ k_n_law_pick_).binds fun _ _ _ _ _ _ us hl => match us, hl with | [_, _], _ => rfl⟩⟩,
   ⟨_, _, ⟨fun_mk (st := (top 9)) l_n_law_any_value_ c_n_law_any_value_ k_n_law_any_value_, PySem.W.mg_of X N a_n_law_any_value_, (fun_mk (st := (top 9)) l_n_law_any_value_ c_n_law_any_value_ k_n_law_any_value_).binds fun _ _ _ _ _ _ us hl => match us, hl with | [_], _ => rfl⟩⟩,
   PySem.W.mg_none_of X N a_n_range,
   ⟨_, _, ⟨fun_mk (st := (top 8)) l_n_law_is_name_ c_n_law_is_name_ k_n_law_is_name_, PySem.W.mg_of X N a_n_law_is_name_, (fun_mk (st := (top 8)) l_n_law_is_name_ c_n_law_is_name_ k_n_law_is_name_).binds fun _ _ _ _ _ _ us hl => match us, hl with | [_], _ => rfl⟩⟩,
   PySem.W.mg_none_of X N a_n_isinstance,
   PySem.W.mg_none_of X N a_n_str,
   ⟨_, _, ⟨fun_mk (st := (top 3)) l_n_is_name c_n_is_name k_n_is_name, PySem.W.mg_of X N a_n_is_name, (fun_mk (st := (top 3)) l_n_is_name c_n_is_name k_n_is_name).binds fun _ _ _ _ _ _ us hl => match us, hl with | [_], _ => rfl⟩⟩,
   ⟨_, PySem.W.mg_of X N a_n_MOST_LETTERS⟩,
   PySem.W.mg_none_of X N a_n_all,
   ⟨_, PySem.W.mg_of X N a_n_LETTERS⟩,
   ⟨_, _, ⟨fun_mk (st := (top 10)) l_n_law c_n_law k_n_law, PySem.W.mg_of X N a_n_law, (fun_mk (st := (top 10)) l_n_law c_n_law k_n_law).binds fun _ _ _ _ _ _ us hl => match us, hl with | [_], _ => rfl⟩⟩,
   PySem.W.mg_none_of X N a_n_min,
   PySem.W.mg_none_of X N a_n_repr⟩
theorem all_mk {P : Program} {w : World} {K : PySem.W.Frag} {mg : Str → Option Value} {h : Heap} {fa : Addr} (X : K.In h) (N : h.Ns mainGlobals mg) (hfa : mg "law" = some (.ref fa)) (T : Txt K mg) :
    ∃ fd : FuncData, (∀ (s : Shared) (u : Value), BindsTo s fd ⟨[u], []⟩ [("script", u)]) ∧ ∀ base : Heap, K.In base → base.Ns mainGlobals mg → FG P w K mg base CX0 4 fa fd ["script"] (spLaw K) := by
  obtain ⟨f, fd, D⟩ := T.n_law
  have e := hfa.symm.trans D.m
  cases e
  refine ⟨fd, fun s u => ?_, fun base _ _ => ?_⟩
  · obtain ⟨oc, od, kV, doc, pm, an, cdv, ct, osl, rfl, lk, co⟩ := D.F.ex
    exact .of_eq rfl
  · obtain ⟨f2, fd2, D2, F2⟩ := ok_law (P := P) (w := w) (G := ⟨K, fun _ => 0, fun _ => []⟩) (base := base) T
    have e := D.m.symm.trans D2.m
    cases e
    obtain ⟨oc, od, kV, doc, pm, an, cdv, ct, osl, rfl, lk, co⟩ := D.F.ex
    obtain ⟨oc2, od2, kV2, doc2, pm2, an2, cdv2, ct2, osl2, rfl, lk2, co2⟩ := D2.F.ex
    rw [lk] at lk2
    cases lk2
    exact F2
end LK
open PySem PySem.W PyProof.Rows
set_option maxRecDepth 100000 in
set_option maxHeartbeats 0 in
theorem PySem.Challenge.cw_halfbuilt_k02_names_judged_holds : PySem.Challenge.rw_halfbuilt_k02_names_judged.Holds := by
  w_on; o_law; k_head; (case hw => w_witness2)
  k_fill
  refine HB.walkG (l := PySem.Challenge.rw_halfbuilt_k02_names_judged) (n := 63) (k := 4) (x := "script") (CX := L2.CX0) (sp := HB.spLaw) rfl (by decide) rfl ⟨rfl, by decide, by decide⟩ (fun w h Y => PySem.W.kIn_of Y) ?F (fun K H a ns hl ho hs => ⟨a, ns, rfl, hs, hl, ho, fun _ => rfl⟩) (fun _ _ _ _ z => z)
  case F =>
    intro w mg fa h KX G hmg
    refine LK.all_mk KX G hmg ?T
    refine' LK.txt_mk KX G ?a_n_law_state_ ?l_n_law_state_ ?c_n_law_state_ ?k_n_law_state_ ?a_n_abs ?a_n_law_draw_ ?l_n_law_draw_ ?c_n_law_draw_ ?k_n_law_draw_ ?a_n_len ?a_n_int ?a_n_law_pick_ ?l_n_law_pick_ ?c_n_law_pick_ ?k_n_law_pick_ ?a_n_law_any_value_ ?l_n_law_any_value_ ?c_n_law_any_value_ ?k_n_law_any_value_ ?a_n_range ?a_n_law_is_name_ ?l_n_law_is_name_ ?c_n_law_is_name_ ?k_n_law_is_name_ ?a_n_isinstance ?a_n_str ?a_n_is_name ?l_n_is_name ?c_n_is_name ?k_n_is_name ?a_n_MOST_LETTERS ?a_n_all ?a_n_LETTERS ?a_n_law ?l_n_law ?c_n_law ?k_n_law ?a_n_min ?a_n_repr
    (case a_n_law_state_ => k_is); (case l_n_law_state_ => k_is); (case c_n_law_state_ => k_is); (case k_n_law_state_ => k_is)
    (case a_n_abs => k_is); (case a_n_law_draw_ => k_is); (case l_n_law_draw_ => k_is); (case c_n_law_draw_ => k_is)
    (case k_n_law_draw_ => k_is); (case a_n_len => k_is); (case a_n_int => k_is); (case a_n_law_pick_ => k_is)
    (case l_n_law_pick_ => k_is); (case c_n_law_pick_ => k_is); (case k_n_law_pick_ => k_is); (case a_n_law_any_value_ => k_is)
    (case l_n_law_any_value_ => k_is); (case c_n_law_any_value_ => k_is); (case k_n_law_any_value_ => k_is); (case a_n_range => k_is)
    (case a_n_law_is_name_ => k_is); (case l_n_law_is_name_ => k_is); (case c_n_law_is_name_ => k_is); (case k_n_law_is_name_ => k_is)
    (case a_n_isinstance => k_is); (case a_n_str => k_is); (case a_n_is_name => k_is); (case l_n_is_name => k_is)
    (case c_n_is_name => k_is); (case k_n_is_name => k_is); (case a_n_MOST_LETTERS => k_is); (case a_n_all => k_is)
    (case a_n_LETTERS => k_is); (case a_n_law => k_is); (case l_n_law => k_is); (case c_n_law => k_is)
    (case k_n_law => k_is); (case a_n_min => k_is); (case a_n_repr => k_is)
#print axioms PySem.Challenge.cw_halfbuilt_k02_names_judged_holds
