import PyProof.Rows.All
import Wide.All
import OpenK.AllK
import Wide.FinOn
import HandS.ForMost
import HandS.IsInst
import HandS.Style
import HandS.TupAny
import HandS.Flow
import HandS.Defaults
import HandS.Walk
import HandS.Deep
import HandS.StrMore
import HandS.Wide
import PyProof.ReprReads
import HandS.ExcInit
import HandS.Zip
import PyProof.Rows.CallKwBuiltin
import PyProof.Rows.CallKw2
import HandS.TupMul
import HandS.Replace
import HandS.Star
import HandS.Text
import PyProof.StrOps2
import PyProof.StrBlock2
import KE.KRevSl
import HandS.ExcSuper
import HandS.ExcCtx
import KE.KSuper
import HandS.ForExc
import HandS.TryOnly
import HandS.ExcOwn
import HandS.ExcField
import KE.KExcIs
import HandS.ExcIs
import HandS.Codes
import PyProof.StrLawsFirst
import PyProof.Rows.StrCut
import PySem.Challenge.RW_finishable_k43_lengths_and_tokens_of_pie
set_option Elab.async false
set_option linter.all false
set_option maxRecDepth 100000
set_option maxHeartbeats 4000000
namespace Fx
open PySem PySem.Spec PyProof.Rows L2

/-! the data level: values as trees; what may change stands in a map of its own -/
/-- sorts of objects: the error that a suite holds; an error as a value; an instance that never changes -/
inductive OK where
  | cau (a : Addr) (n : String) (d : Option Addr)
  | err (n : String)
  | ins (n : String)
def clsA (K : PySem.W.Frag) (n : String) (C : Addr) : Prop := PySem.W.nsIn K mainGlobals (Str.ofString n) = some (some (.ref C))
def OAt (K : PySem.W.Frag) (G : Hp) (a : Addr) (fvs : List (Str × V)) : OK → Prop
  | .cau a' n d => a = a' ∧ match d with
    | none => fvs = []
    | some d => G d = some (.xd fvs)
  | .err n => ∃ C, clsA K n C ∧ ((fvs = [] ∧ G a = some (exo a C none)) ∨ ∃ d, G a = some (exo a C (some d)) ∧ G d = some (exd d fvs))
  | .ins n => ∃ C dx, clsA K n C ∧ G a = some (.ins C dx fvs) ∧ G dx = some (.own a)
theorem OAt.mono {K : PySem.W.Frag} {G G' : Hp} {a : Addr} {fvs : List (Str × V)} (e : Same G G') : ∀ {k : OK}, OAt K G a fvs k → OAt K G' a fvs k
  | .cau a' n none, h => h
  | .cau a' n (some d), h => ⟨h.1, e _ _ h.2⟩
  | .err n, ⟨C, h1, .inl ⟨h2, h3⟩⟩ => ⟨C, h1, .inl ⟨h2, e _ _ h3⟩⟩
  | .err n, ⟨C, h1, .inr ⟨d, h2, h3⟩⟩ => ⟨C, h1, .inr ⟨d, e _ _ h2, e _ _ h3⟩⟩
  | .ins n, ⟨C, dx, h1, h2, h3⟩ => ⟨C, dx, h1, e _ _ h2, e _ _ h3⟩
inductive D where
  | non
  | bl (b : Bool)
  | int (i : Int)
  | str (x : Str)
  | tup (ds : List D)
  | lst (ds : List D)
  | slst (ds : List D)
  | dic (kvs : List (Key × D))
  | ref (a : Addr)
  | ty (n : String)
  | dtp (ks : List (List Key)) (ds : List D)
  | obj (k : OK) (ns : List Str) (ds : List D)

/-- an object that may change -/
inductive MO where
  | lst (ds : List D)
  | dic (kvs : List (Key × D))
  | dtp (ks : List (List Key)) (ds : List D)
  | ins (n : String) (ns : List Str) (ds : List D)

abbrev Mp := Addr → Option MO
def updM (M : Mp) (a : Addr) (o : MO) : Mp := fun b => if b = a then some o else M b
def delM (M : Mp) (a : Addr) : Mp := fun b => if b = a then none else M b
theorem updM_same {M : Mp} {a : Addr} {o : MO} : updM M a o a = some o := by unfold updM; rw [if_pos rfl]
theorem updM_ne {M : Mp} {a b : Addr} {o : MO} (h : b ≠ a) : updM M a o b = M b := by unfold updM; rw [if_neg h]
theorem delM_same {M : Mp} {a : Addr} : delM M a a = none := by unfold delM; rw [if_pos rfl]
theorem delM_ne {M : Mp} {a b : Addr} (h : b ≠ a) : delM M a b = M b := by unfold delM; rw [if_neg h]

/-- what never changes -/
def hid (M : Mp) (H : Hp) : Hp := fun a => match M a with
  | some _ => none
  | none => H a
theorem hid_some {M : Mp} {H : Hp} {a : Addr} {o : HO} (h : hid M H a = some o) : M a = none ∧ H a = some o := by
  unfold hid at h
  cases e : M a with
  | none => rw [e] at h; exact ⟨rfl, h⟩
  | some m => rw [e] at h; cases h
theorem hid_of {M : Mp} {H : Hp} {a : Addr} (e : M a = none) : hid M H a = H a := by
  unfold hid; rw [e]
theorem hid_sub {M : Mp} {H : Hp} : Same (hid M H) H := fun _ _ h => (hid_some h).2

mutual
inductive Dt (K : PySem.W.Frag) (G : Hp) : V → D → Prop
  | non : Dt K G .non .non
  | bl (b : Bool) : Dt K G (.bl b) (.bl b)
  | int (i : Int) : Dt K G (.int i) (.int i)
  | str (x : Str) : Dt K G (.str x) (.str x)
  | lst {a : Addr} {xs : List V} {ds : List D} : G a = some (.lst xs) → Dts K G xs ds → Dt K G (.ref a) (.lst ds)
  | slst {a : Addr} {xs : List V} {ds : List D} : SqL K G a xs → Dts K G xs ds → Dt K G (.ref a) (.slst ds)
  | tup {a : Addr} {xs : List V} {ds : List D} : SqT K G a xs → Dts K G xs ds → Dt K G (.ref a) (.tup ds)
  | dic {a : Addr} {xs : List (Key × V)} {ds : List (Key × D)} : G a = some (.dK xs) → Dtk K G xs ds → Dt K G (.ref a) (.dic ds)
  | ref (a : Addr) : Dt K G (.ref a) (.ref a)
  | ty (n : String) : Dt K G (.ty n) (.ty n)
  | dtp {a : Addr} {ks : List (List Key)} {xs : List V} {ds : List D} : G a = some (.dT (ks.zip xs)) → ks.length = xs.length → Dts K G xs ds → Dt K G (.ref a) (.dtp ks ds)
  | obj {a : Addr} {k : OK} {ns : List Str} {xs : List V} {ds : List D} : OAt K G a (ns.zip xs) k → ns.length = xs.length → Dts K G xs ds → Dt K G (.ref a) (.obj k ns ds)
inductive Dts (K : PySem.W.Frag) (G : Hp) : List V → List D → Prop
  | nil : Dts K G [] []
  | cons {v : V} {vs : List V} {d : D} {ds : List D} : Dt K G v d → Dts K G vs ds → Dts K G (v :: vs) (d :: ds)
inductive Dtk (K : PySem.W.Frag) (G : Hp) : List (Key × V) → List (Key × D) → Prop
  | nil : Dtk K G [] []
  | cons {k : Key} {v : V} {vs : List (Key × V)} {d : D} {ds : List (Key × D)} : Dt K G v d → Dtk K G vs ds → Dtk K G ((k, v) :: vs) ((k, d) :: ds)
end

theorem sqT_same {K : PySem.W.Frag} {H H' : Hp} {a : Addr} {xs : List V} (e : Same H H') (h : SqT K H a xs) : SqT K H' a xs := by
  rcases h with (h | ⟨o, h⟩) | h
  · exact .inl (.inl (e _ _ h))
  · exact .inl (.inr ⟨o, e _ _ h⟩)
  · exact .inr h

section
variable {K : PySem.W.Frag} {G G' : Hp}
mutual
theorem Dt.mono (e : Same G G') : ∀ {v : V} {d : D}, Dt K G v d → Dt K G' v d
  | _, _, .non => .non
  | _, _, .bl b => .bl b
  | _, _, .int i => .int i
  | _, _, .str x => .str x
  | _, _, .lst h1 h2 => .lst (e _ _ h1) (Dts.mono e h2)
  | _, _, .slst h1 h2 => .slst (e.seq h1) (Dts.mono e h2)
  | _, _, .tup h1 h2 => .tup (sqT_same e h1) (Dts.mono e h2)
  | _, _, .dic h1 h2 => .dic (e _ _ h1) (Dtk.mono e h2)
  | _, _, .ref a => .ref a
  | _, _, .ty n => .ty n
  | _, _, .dtp h1 h2 h3 => .dtp (e _ _ h1) h2 (Dts.mono e h3)
  | _, _, .obj h1 h2 h3 => .obj (h1.mono e) h2 (Dts.mono e h3)
theorem Dts.mono (e : Same G G') : ∀ {vs : List V} {ds : List D}, Dts K G vs ds → Dts K G' vs ds
  | _, _, .nil => .nil
  | _, _, .cons h1 h2 => .cons (Dt.mono e h1) (Dts.mono e h2)
theorem Dtk.mono (e : Same G G') : ∀ {vs : List (Key × V)} {ds : List (Key × D)}, Dtk K G vs ds → Dtk K G' vs ds
  | _, _, .nil => .nil
  | _, _, .cons h1 h2 => .cons (Dt.mono e h1) (Dtk.mono e h2)
end
theorem Dts.length : ∀ {vs : List V} {ds : List D}, Dts K G vs ds → vs.length = ds.length
  | _, _, .nil => rfl
  | _, _, .cons _ h2 => by rw [List.length_cons, List.length_cons, h2.length]
theorem Dts.get : ∀ {vs : List V} {ds : List D} {i : Nat} {d : D}, Dts K G vs ds → ds[i]? = some d → ∃ v, vs[i]? = some v ∧ Dt K G v d
  | _, _, _, _, .nil, e => by simp at e
  | _, _, 0, _, .cons h1 _, e => by simp at e; subst e; exact ⟨_, rfl, h1⟩
  | _, _, i + 1, _, .cons _ h2, e => by
    obtain ⟨v, h, r⟩ := Dts.get h2 (i := i) (by simpa using e)
    exact ⟨v, by simpa using h, r⟩
theorem Dts.getV : ∀ {vs : List V} {ds : List D} {i : Nat} {v : V}, Dts K G vs ds → vs[i]? = some v → ∃ d, ds[i]? = some d ∧ Dt K G v d
  | _, _, _, _, .nil, e => by simp at e
  | _, _, 0, _, .cons h1 _, e => by simp at e; subst e; exact ⟨_, rfl, h1⟩
  | _, _, i + 1, _, .cons _ h2, e => by
    obtain ⟨v, h, r⟩ := Dts.getV h2 (i := i) (by simpa using e)
    exact ⟨v, by simpa using h, r⟩
theorem Dts.append : ∀ {vs ws : List V} {ds es : List D}, Dts K G vs ds → Dts K G ws es → Dts K G (vs ++ ws) (ds ++ es)
  | _, _, _, _, .nil, h => h
  | _, _, _, _, .cons h1 h2, h => .cons h1 (Dts.append h2 h)
theorem Dts.take : ∀ {vs : List V} {ds : List D} (n : Nat), Dts K G vs ds → Dts K G (vs.take n) (ds.take n)
  | _, _, 0, _ => .nil
  | _, _, _ + 1, .nil => .nil
  | _, _, n + 1, .cons h1 h2 => .cons h1 (Dts.take n h2)
theorem Dts.drop : ∀ {vs : List V} {ds : List D} (n : Nat), Dts K G vs ds → Dts K G (vs.drop n) (ds.drop n)
  | _, _, 0, h => h
  | _, _, _ + 1, .nil => .nil
  | _, _, n + 1, .cons h1 h2 => Dts.drop n h2
theorem Dts.set : ∀ {vs : List V} {ds : List D} {v : V} {d : D} (n : Nat), Dts K G vs ds → Dt K G v d → Dts K G (vs.set n v) (ds.set n d)
  | _, _, _, _, _, .nil, _ => .nil
  | _, _, _, _, 0, .cons _ h2, h => .cons h h2
  | _, _, _, _, n + 1, .cons h1 h2, h => .cons h1 (Dts.set n h2 h)
theorem Dts.rev : ∀ {vs : List V} {ds : List D}, Dts K G vs ds → Dts K G vs.reverse ds.reverse
  | _, _, .nil => .nil
  | _, _, .cons h1 h2 => by
    rw [List.reverse_cons, List.reverse_cons]
    exact Dts.append (Dts.rev h2) (.cons h1 .nil)
theorem Dts.ints (ns : List Int) : Dts K G (ns.map V.int) (ns.map D.int) := by
  induction ns with
  | nil => exact .nil
  | cons n ns ih => exact .cons (.int n) ih
end

/-- what the map tells holds in the heap -/
def MOk (K : PySem.W.Frag) (M : Mp) (H : Hp) (a : Addr) : MO → Prop
  | .lst ds => ∃ xs, H a = some (.lst xs) ∧ Dts K (hid M H) xs ds
  | .dic ds => ∃ xs, H a = some (.dK xs) ∧ Dtk K (hid M H) xs ds
  | .dtp ks ds => ∃ xs, H a = some (.dT (ks.zip xs)) ∧ ks.length = xs.length ∧ Dts K (hid M H) xs ds
  | .ins n ns ds => ∃ xs C dx, H a = some (.ins C dx (ns.zip xs)) ∧ ns.length = xs.length ∧ clsA K n C ∧ hid M H dx = some (.own a) ∧ Dts K (hid M H) xs ds
theorem MOk.at {K : PySem.W.Frag} {M : Mp} {H : Hp} {a : Addr} : ∀ {o : MO}, MOk K M H a o → ∃ u, H a = some u
  | .lst _, ⟨_, h, _⟩ => ⟨_, h⟩
  | .dic _, ⟨_, h, _⟩ => ⟨_, h⟩
  | .dtp _ _, ⟨_, h, _⟩ => ⟨_, h⟩
  | .ins _ _ _, ⟨_, _, _, h, _⟩ => ⟨_, h⟩
theorem MOk.later {K : PySem.W.Frag} {M M' : Mp} {H H' : Hp} {a : Addr} (k : ∀ u, H a = some u → H' a = some u) (s : Same (hid M H) (hid M' H')) : ∀ {o : MO}, MOk K M H a o → MOk K M' H' a o
  | .lst _, ⟨xs, h, d⟩ => ⟨xs, k _ h, d.mono s⟩
  | .dic _, ⟨xs, h, d⟩ => ⟨xs, k _ h, d.mono s⟩
  | .dtp _ _, ⟨xs, h, l, d⟩ => ⟨xs, k _ h, l, d.mono s⟩
  | .ins _ _ _, ⟨xs, C, dx, h, l, c, o, d⟩ => ⟨xs, C, dx, k _ h, l, c, s _ _ o, d.mono s⟩

/-- later -/
def Lat (M : Mp) (H : Hp) (M' : Mp) (H' : Hp) : Prop := ∀ b o, H b = some o → M b = none → H' b = some o ∧ M' b = none
theorem Lat.refl (M : Mp) (H : Hp) : Lat M H M H := fun _ _ h n => ⟨h, n⟩
theorem Lat.trans {M M1 M2 : Mp} {H H1 H2 : Hp} (a : Lat M H M1 H1) (b : Lat M1 H1 M2 H2) : Lat M H M2 H2 := fun c o h n => b c o (a c o h n).1 (a c o h n).2
theorem Lat.same {M M' : Mp} {H H' : Hp} (l : Lat M H M' H') : Same (hid M H) (hid M' H') := fun b o h => by
  obtain ⟨n, e⟩ := hid_some h
  obtain ⟨e', n'⟩ := l b o e n
  rw [hid_of n']
  exact e'

theorem Lat.of_same {M M' : Mp} {H H' : Hp} (s : Same (hid M H) (hid M' H')) : Lat M H M' H' := fun b o h n => by
  have z := s b o (by rw [hid_of n]; exact h)
  exact ⟨(hid_some z).2, (hid_some z).1⟩
/-- the ground: what is known all along -/
class Grd where
  gr : Mp → Hp → Prop
  up : ∀ {M H M' H'}, gr M H → Lat M H M' H' → gr M' H'
@[reducible] def Grd.triv : Grd := ⟨fun _ _ => True, fun _ _ => trivial⟩
/-- later than a state -/
@[reducible] def Grd.from (M0 : Mp) (H0 : Hp) : Grd := ⟨fun M H => Lat M0 H0 M H, fun a b => a.trans b⟩
variable [Grd]
def HpOk (K : PySem.W.Frag) (M : Mp) (H : Hp) : Prop := (∀ a o, M a = some o → MOk K M H a o) ∧ Grd.gr M H
instance {K : PySem.W.Frag} {M : Mp} {H : Hp} : CoeFun (HpOk K M H) (fun _ => ∀ a o, M a = some o → MOk K M H a o) := ⟨And.left⟩
omit [Grd] in
theorem HpOk.triv {K : PySem.W.Frag} {M : Mp} {H : Hp} {g : Grd} (h : @HpOk g K M H) : @HpOk Grd.triv K M H := ⟨h.1, trivial⟩
omit [Grd] in
theorem HpOk.back {K : PySem.W.Frag} {M M' : Mp} {H H' : Hp} {g0 g : Grd} (h : @HpOk g0 K M H) (l : Lat M H M' H') (h' : @HpOk g K M' H') : @HpOk g0 K M' H' := ⟨h'.1, g0.up h.2 l⟩
section
variable {K : PySem.W.Frag} {M M' : Mp} {H H' : Hp}
theorem HpOk.free (h : HpOk K M H) {p : Addr} (n : H p = none) : M p = none := by
  cases e : M p with
  | none => rfl
  | some o =>
    obtain ⟨u, q⟩ := (h p o e).at
    rw [n] at q
    cases q
/-- a new thing that never changes -/
theorem HpOk.lay (h : HpOk K M H) {p : Addr} {o : HO} (n : H p = none) : HpOk K M (upd H p o) ∧ Lat M H M (upd H p o) := by
  have l : Lat M H M (upd H p o) := fun b u e nb => ⟨by rw [upd_ne (ne_of_none e n)]; exact e, nb⟩
  exact ⟨⟨fun a u e => (h a u e).later (fun v e1 => by rw [upd_ne (ne_of_none e1 n)]; exact e1) l.same, Grd.up h.2 l⟩, l⟩
theorem HpOk.ofLat (h : HpOk K M H) (l : Lat M H M H') (k : ∀ b o, M b ≠ none → H b = some o → H' b = some o) : HpOk K M H' := ⟨fun a u e =>
  (h a u e).later (fun v e1 => k _ _ (by rw [e]; simp) e1) l.same, Grd.up h.2 l⟩
/-- all that is tracked is kept -/
theorem HpOk.ofSame (h : HpOk K M H) (e : Same H H') : HpOk K M H' ∧ Lat M H M H' :=
  have l : Lat M H M H' := fun b o q n => ⟨e b o q, n⟩
  ⟨h.ofLat l fun b o _ q => e b o q, l⟩
/-- what may change is changed, or is new -/
theorem HpOk.put (h : HpOk K M H) {p : Addr} {o : HO} {m : MO} (hp : M p ≠ none ∨ H p = none) (hm : MOk K (updM M p m) (upd H p o) p m) : HpOk K (updM M p m) (upd H p o) ∧ Lat M H (updM M p m) (upd H p o) := by
  have l : Lat M H (updM M p m) (upd H p o) := fun b u e nb => by
    have ne : b ≠ p := fun z => by
      subst z
      rcases hp with q | q
      · exact q nb
      · rw [e] at q; cases q
    exact ⟨by rw [upd_ne ne]; exact e, by rw [updM_ne ne]; exact nb⟩
  refine ⟨⟨fun a u e => ?_, Grd.up h.2 l⟩, l⟩
  by_cases ea : a = p
  · subst ea
    rw [updM_same] at e
    cases e
    exact hm
  · rw [updM_ne ea] at e
    exact (h a u e).later (fun v e1 => by rw [upd_ne ea]; exact e1) l.same
/-- from now on it never changes -/
theorem HpOk.frz (h : HpOk K M H) (p : Addr) : HpOk K (delM M p) H ∧ Lat M H (delM M p) H := by
  have l : Lat M H (delM M p) H := fun b u e nb => ⟨e, by
    unfold delM
    split
    · rfl
    · exact nb⟩
  refine ⟨⟨fun a u e => ?_, Grd.up h.2 l⟩, l⟩
  have ea : a ≠ p := fun z => by
    subst z
    rw [delM_same] at e
    cases e
  rw [delM_ne ea] at e
  exact (h a u e).later (fun v e1 => e1) l.same
end
/-! slots -/
abbrev Ds := List (Option D)
def Env (K : PySem.W.Frag) (M : Mp) (H : Hp) (σ : L2.St) (ds : Ds) : Prop := σ.length = ds.length ∧ ∀ (i : Nat) (d : D), ds[i]? = some (some d) → ∃ v, σ[i]? = some (some v) ∧ Dt K (hid M H) v d
theorem Env.mono {K : PySem.W.Frag} {M M' : Mp} {H H' : Hp} {σ : L2.St} {ds : Ds} (e : Env K M H σ ds) (l : Lat M H M' H') : Env K M' H' σ ds := ⟨e.1, fun i d h => by
  obtain ⟨v, a, b⟩ := e.2 i d h
  exact ⟨v, a, b.mono l.same⟩⟩
theorem Env.set {K : PySem.W.Frag} {M : Mp} {H : Hp} {σ : L2.St} {ds : Ds} {v : V} {d : D} (e : Env K M H σ ds) (i : Nat) (h : Dt K (hid M H) v d) : Env K M H (σ.set i (some v)) (ds.set i (some d)) := by
  refine ⟨by rw [List.length_set, List.length_set]; exact e.1, fun j u hj => ?_⟩
  rw [List.getElem?_set] at hj
  rw [List.getElem?_set]
  by_cases q : i = j
  · rw [if_pos q] at hj
    rw [if_pos q]
    by_cases z : i < ds.length
    · rw [if_pos z] at hj
      cases hj
      rw [if_pos (by rw [e.1]; exact z)]
      exact ⟨v, rfl, h⟩
    · rw [if_neg z] at hj
      cases hj
  · rw [if_neg q] at hj
    rw [if_neg q]
    exact e.2 j u hj
end Fx

namespace Fx
open PySem PySem.Spec PyProof.Rows L2
variable [Grd]

abbrev DK := D → Mp → Prop
abbrev TEd := Ds → Mp → DK → Prop
abbrev TTd := Ds → Mp → (Bool → Mp → Prop) → Prop
abbrev TAd := Ds → Mp → (List D → Mp → Prop) → Prop
structure Endd where
  nx : Ds → Mp → Prop
  rt : DK
  bk : Ds → Mp → Prop := fun _ _ => False
  ct : Ds → Mp → Prop := fun _ _ => False
abbrev TSd := Endd → Ds → Mp → Prop

/-- two ways -/
def br (b : Bool) (P Q : Prop) : Prop := match b with
  | true => P
  | false => Q
@[simp] theorem br_true {P Q : Prop} : br true P Q = P := rfl
@[simp] theorem br_false {P Q : Prop} : br false P Q = Q := rfl
theorem br_dec {p : Prop} [Decidable p] {P Q : Prop} : br (decide p) P Q = ((p → P) ∧ (¬ p → Q)) := by
  by_cases h : p
  · rw [decide_eq_true h]
    simp [h]
  · rw [decide_eq_false h]
    simp [h]
theorem br_ite {b : Bool} {P Q : Prop} : br b P Q = ((b = true → P) ∧ (b = false → Q)) := by cases b <;> simp
@[simp] theorem br_not {b : Bool} {P Q : Prop} : br (!b) P Q = br b Q P := by cases b <;> rfl
theorem br_and {a b : Bool} {P Q : Prop} : br (a && b) P Q = br a (br b P Q) Q := by cases a <;> rfl
theorem br_or {a b : Bool} {P Q : Prop} : br (a || b) P Q = br a P (br b P Q) := by cases a <;> rfl

/-- behind an expression: from M, H on -/
def AftE (K : PySem.W.Frag) (M : Mp) (H : Hp) (F : DK) (Q : VK) : Prop := ∀ d M', F d M' → ∀ v H', HpOk K M' H' → Dt K (hid M' H') v d → Lat M H M' H' → Q v H'
def emb (K : PySem.W.Frag) (T : TEd) : TE := fun σ H Q => ∃ ds M F, Env K M H σ ds ∧ HpOk K M H ∧ T ds M F ∧ AftE K M H F Q
def embT (K : PySem.W.Frag) (T : TTd) : TT := fun σ H Q => ∃ ds M F, Env K M H σ ds ∧ HpOk K M H ∧ T ds M F ∧ ∀ b M', F b M' → ∀ H', HpOk K M' H' → Lat M H M' H' → Q b H'
def embA (K : PySem.W.Frag) (T : TAd) : TA := fun σ H Q => ∃ ds M F, Env K M H σ ds ∧ HpOk K M H ∧ T ds M F ∧ ∀ xs M', F xs M' → ∀ vs H', HpOk K M' H' → Dts K (hid M' H') vs xs → Lat M H M' H' → Q vs H'
structure AftS (K : PySem.W.Frag) (M : Mp) (H : Hp) (B : Endd) (E : Ends) : Prop where
  nx : ∀ ds' M', B.nx ds' M' → ∀ σ' H', Env K M' H' σ' ds' → HpOk K M' H' → Lat M H M' H' → E.nx σ' H'
  rt : AftE K M H B.rt E.rt
  bk : ∀ ds' M', B.bk ds' M' → ∀ σ' H', Env K M' H' σ' ds' → HpOk K M' H' → Lat M H M' H' → E.bk σ' H'
  ct : ∀ ds' M', B.ct ds' M' → ∀ σ' H', Env K M' H' σ' ds' → HpOk K M' H' → Lat M H M' H' → E.ct σ' H'
def embS (K : PySem.W.Frag) (T : TSd) : TS := fun E σ H => ∃ ds M B, Env K M H σ ds ∧ HpOk K M H ∧ T B ds M ∧ AftS K M H B E

theorem AftE.triv {K : PySem.W.Frag} {M : Mp} {H : Hp} {F : DK} {Q : VK} (a : AftE K M H F Q) (ok : HpOk K M H) : @AftE Grd.triv K M H F Q := fun d M' f v H' ok' dt l => a d M' f v H' (ok.back l ok') dt l
theorem AftE.later {K : PySem.W.Frag} {M M1 : Mp} {H H1 : Hp} {F : DK} {Q : VK} (a : AftE K M H F Q) (l : Lat M H M1 H1) : AftE K M1 H1 F Q := fun d M' f v H' ok dt l' => a d M' f v H' ok dt (l.trans l')
theorem AftS.later {K : PySem.W.Frag} {M M1 : Mp} {H H1 : Hp} {B : Endd} {E : Ends} (a : AftS K M H B E) (l : Lat M H M1 H1) : AftS K M1 H1 B E :=
  ⟨fun ds' M' f σ' H' ev ok l' => a.nx ds' M' f σ' H' ev ok (l.trans l'), a.rt.later l, fun ds' M' f σ' H' ev ok l' => a.bk ds' M' f σ' H' ev ok (l.trans l'), fun ds' M' f σ' H' ev ok l' => a.ct ds' M' f σ' H' ev ok (l.trans l')⟩

abbrev DE (X : Cx) (e : Expr) (T : TEd) : Prop := PE X e (emb X.K T)
abbrev DT (X : Cx) (e : Expr) (T : TTd) : Prop := PT X e (embT X.K T)
abbrev DW (X : Cx) (e : Expr) (T : TTd) : Prop := PW X e (embT X.K T)
abbrev DA (X : Cx) (es : List Expr) (T : TAd) : Prop := PA X es (embA X.K T)
abbrev DQ (X : Cx) (kws : List Keyword) (T : TAd) : Prop := PK X kws (embA X.K T)
abbrev DS (X : Cx) (st : Stmt) (T : TSd) : Prop := PS X st (embS X.K T)
abbrev DSs (X : Cx) (st : List Stmt) (T : TSd) : Prop := PSs X st (embS X.K T)

theorem _root_.L2.PE.fimp {X : Cx} {e : Expr} {t u : TE} (h : PE X e t) (i : ∀ σ H Q, u σ H Q → t σ H Q) : PE X e u := ⟨fun pins s σ H Q I q => h.run pins s σ H Q I (i σ H Q q)⟩
theorem _root_.L2.PT.fimp {X : Cx} {e : Expr} {t u : TT} (h : PT X e t) (i : ∀ σ H Q, u σ H Q → t σ H Q) : PT X e u := ⟨fun pins s σ H Q I q => h.run pins s σ H Q I (i σ H Q q)⟩
theorem _root_.L2.PW.fimp {X : Cx} {e : Expr} {t u : TT} (h : PW X e t) (i : ∀ σ H Q, u σ H Q → t σ H Q) : PW X e u := ⟨fun wh pins s σ H Q I q => h.run wh pins s σ H Q I (i σ H Q q)⟩
theorem _root_.L2.PA.fimp {X : Cx} {es : List Expr} {t u : TA} (h : PA X es t) (i : ∀ σ H Q, u σ H Q → t σ H Q) : PA X es u := ⟨fun p pins s σ H Q I q => h.run p pins s σ H Q I (i σ H Q q)⟩
theorem _root_.L2.PK.fimp {X : Cx} {es : List Keyword} {t u : TA} (h : PK X es t) (i : ∀ σ H Q, u σ H Q → t σ H Q) : PK X es u := ⟨fun p pins s σ H Q I q => h.run p pins s σ H Q I (i σ H Q q)⟩
theorem _root_.L2.PS.fimp {X : Cx} {st : Stmt} {t u : TS} (h : PS X st t) (i : ∀ E σ H, u E σ H → t E σ H) : PS X st u := ⟨fun pins s σ H E I q => h.run pins s σ H E I (i E σ H q)⟩
theorem _root_.L2.PSs.fimp {X : Cx} {st : List Stmt} {t u : TS} (h : PSs X st t) (i : ∀ E σ H, u E σ H → t E σ H) : PSs X st u := ⟨fun pins s σ H E I q => h.run pins s σ H E I (i E σ H q)⟩

/-! promises that know that no repr is under way -/
structure FnG (P : Program) (w : World) (K : PySem.W.Frag) (mg : Str → Option Value) (base : Heap) (CX : CXT) (k : Nat) (f : Addr) (fd : FuncData) (ps : List Str) (sp : Sp) : Prop where
  nlen : ∀ vs H Q E, sp vs H Q E → vs.length = ps.length
  go : ∀ (A : Around) (outer : List PySem.Env) (s : Shared) (H : Hp) (args : Args) (us : List Value) (vs : List V) (Q : VK) (E : XK), A.guards = some [] → Room k A → Env0 P w K mg base A outer s H → BindsTo s fd args (ps.zip us) → Vals vs us → sp vs H Q E →
    codeAny (model P w) A (.call (.ref f) args) (CR CX outer P w H s Q E) s

section
variable {P : Program} {w : World} {K : PySem.W.Frag} {mg : Str → Option Value} {base : Heap} {CX : CXT} {k : Nat} {f : Addr} {fd : FuncData} {ps : List Str} {sp : Sp}
omit [Grd] in
theorem FnG.up {j : Nat} (F : FnG P w K mg base CX j f fd ps sp) (h : j ≤ k) : FnG P w K mg base CX k f fd ps sp :=
  ⟨F.nlen, fun A outer s H args us vs Q E g hr => F.go A outer s H args us vs Q E g (hr.mono h)⟩
omit [Grd] in
theorem guards_deeper {A : Around} {env : PySem.Env} : (A.deeper env).guards = A.guards := by
  first
    | rfl
    | simp [Around.deeper]
omit [Grd] in
/-- a def by its body -/
theorem fng_of {x qual : Str} {st : Stmt} {N : List Str} (Fu : Fun K x qual st f fd) (S : FnScope N ps (defScope st)) (hlen : ∀ vs H Q E, sp vs H Q E → vs.length = ps.length)
    (hb : ∀ (cdv : Value) (A : Around) (outer : List PySem.Env) (s : Shared) (H : Hp) (vs : List V) (Q : VK) (E : XK), (A.deeper (envOfC qual (defScope st) s.heap.objs.size f cdv)).guards = some [] → Room k (A.deeper (envOfC qual (defScope st) s.heap.objs.size f cdv)) → sp vs H Q E →
      ∃ t, PSs (cxOf CX P w K mg base N qual (defScope st) f cdv A outer s H E) (defBody st) t ∧ t { nx := fun _ H' => Q .non H', rt := Q } (start N vs) H) : FnG P w K mg base CX (k + 1) f fd ps sp := by
  obtain ⟨oc, od, kV, doc, pm, an, cdv, ct, osl, rfl, lk, hcd⟩ := Fu.ex
  refine ⟨hlen, fun A outer s H args us vs Q E gA room e0 bi rv wish => ?_⟩
  have KX : K.In s.heap := e0.mod.kin.keeps fun b o q => (e0.bs b o q).1
  have nl : s.heap.NoLimit := e0.mod.nolimit.keeps fun b o q => (e0.bs b o q).1
  have kinds : ∀ y ∈ ps.zip us, (defScope st).names.lookup y.1 = some .local ∨ ((defScope st).names.lookup y.1 = some .cell ∧ ((cellsFrom (s.heap.objs.size + 1) (defScope st).names []).lookup y.1).isSome = true) := by
    rintro ⟨n, v⟩ hy
    exact (S.par n (List.of_mem_zip hy).1).elim .inl fun q => .inr ⟨q, PySem.W.cellsFrom_some _ _ _ (.inl q)⟩
  refine codeAny_call_function room.depth (KX _ _ lk) rfl S.co S.gen rfl (PySem.W.codeRec_of KX hcd) (bi _ _ _ _ (wpAny_newFunctionEnv_cells S.kind kinds fun env he s1 x => ?_))
  subst he
  refine ⟨nl.keeps x.toInCall.keep, codeAny_func ?_⟩
  obtain ⟨t, ht, hq⟩ := hb cdv A outer s H vs Q E (guards_deeper.trans gA) (room.deeper _) wish
  have I : Inv (cxOf CX P w K mg base N qual (defScope st) f cdv A outer s H E) [] (start N vs) H s1 := inv_start S room.hd e0 (hlen _ _ _ _ wish) rv x
  refine wpAny_mono (ht.run [] s1 (start N vs) H _ I hq) (fun fl s' hs => ?_) fun e s' hs => hs
  cases fl with
  | ret u =>
    obtain ⟨v, σ', H', J, rv', q⟩ := hs
    exact ⟨v, H', J.os, J.bare, J.base, J.hok, rv', q⟩
  | next =>
    obtain ⟨σ', H', J, q⟩ := hs
    exact ⟨.non, H', J.os, J.bare, J.base, J.hok, rfl, q⟩
  | brk => exact (hs.elim fun _ z => z.elim fun _ z => z.2 : False).elim
  | cont => exact (hs.elim fun _ z => z.elim fun _ z => z.2 : False).elim
end

section
variable {X : Cx} {CX : CXT} {k : Nat} {f C : Addr} {fd : FuncData} {ps ks : List Str} {sp : Sp} {dvs : List V} {dus : List Value} {E : XK} {x m : Str} {p pos apos : Pos} {e o : Expr} {es : List Expr} {kws : List Keyword} {ta : TE} {t tk : TA}
omit [Grd] in
theorem run_g {pins : List (Addr × Obj)} {σ : L2.St} {H : Hp} {s : Shared} {Q : VK} {us all : List Value} {kw : List (Str × Value)} {vs : List V} (F : FnG X.prog X.w X.K X.mg X.base CX k f fd ps sp) (gd : X.A.guards = some []) (hr : Room k X.A) (hx : Passes CX X E)
    (I : Inv X pins σ H s) (r : Vals vs all) (hb : BindsTo s fd ⟨us, kw⟩ (ps.zip all)) (h : sp vs H Q E) : wpAny (model X.prog X.w) X.A (call (.ref f) us kw) (EP X pins σ Q) X.xe s := by
  refine wpAny_call (codeAny_mono (F.go X.A X.stack s H ⟨us, kw⟩ all vs Q E gd hr I.env0 hb r h) fun res s' hq => ?_)
  match res, hq with
  | .error e, hq => exact hx pins σ H s e s' I hq
  | .ok (.ret u), hq => exact I.after hq
  | .ok .next, hq => exact hq.elim
  | .ok .brk, hq => exact hq.elim
  | .ok .cont, hq => exact hq.elim
omit [Grd] in
/-- f(e, ..) -/
theorem pg_call (F : FnG X.prog X.w X.K X.mg X.base CX k f fd ps sp) (gd : X.A.guards = some []) (hr : Room k X.A) (hg : Gl X x) (hm : X.mg x = some (.ref f)) (hk : PySem.W.keepIn X.K (.ref f) = true) (hb : Binds X.K fd ps dus) (hd : Vals dvs dus) (hx : Passes CX X E)
    (ha : PA X (e :: es) t) (hdb : (x == ("__debug__" : Str)) = false := by decide) (he : starEach (e :: es) X.env = (false, eval e X.env) :: starEach es X.env := by rfl) (hpl : (backTo pos (starEach es X.env)).any (·.1) = false := by rfl) :
    PE X (.Call (.Name x p) (e :: es) [] pos) (tCall sp dvs E t) := ⟨fun pins s σ H Q I h =>
  wpAny_Call_Name_kw (ld_glob I hg hm (PySem.W.callWith_K (h₀ := X.base) I.ok.mod.kin hk (thn (ha.run pos pins s σ H _ I h) fun us s1 ⟨vs, H1, I1, r, q⟩ => ⟨I1.kIn, by
    have r2 : Vals (vs ++ dvs) (us ++ dus) := r.append hd
    exact run_g F gd hr hx I1 r2 (hb s1 us I1.kIn (by rw [← r2.length]; exact F.nlen _ _ _ _ q)) q⟩) he hpl) hdb)⟩
omit [Grd] in
/-- f() -/
theorem pg_call0 (F : FnG X.prog X.w X.K X.mg X.base CX k f fd ps sp) (gd : X.A.guards = some []) (hr : Room k X.A) (hg : Gl X x) (hm : X.mg x = some (.ref f)) (hk : PySem.W.keepIn X.K (.ref f) = true) (hb : Binds X.K fd ps dus) (hd : Vals dvs dus) (hx : Passes CX X E)
    (hdb : (x == ("__debug__" : Str)) = false := by decide) : PE X (.Call (.Name x p) [] [] pos) (tCall sp dvs E tNil) := ⟨fun pins s σ H Q I h =>
  wpAny_Call_Name_kw (ld_glob I hg hm (PySem.W.callWith_K0 I.kIn hk (run_g (us := []) F gd hr hx I hd (hb s [] I.kIn (by rw [List.nil_append, ← hd.length]; exact F.nlen _ _ _ _ h)) h)) hdb)⟩
variable {g : List Value → List Value → List Value} {gV : List V → List V → List V}
omit [Grd] in
/-- f(e, .., k = v, ..) -/
theorem pg_callK (F : FnG X.prog X.w X.K X.mg X.base CX k f fd ps sp) (gd : X.A.guards = some []) (hr : Room k X.A) (hg : Gl X x) (hm : X.mg x = some (.ref f)) (hk : PySem.W.keepIn X.K (.ref f) = true) (hb : KBinds X.K fd ps ks g gV) (hx : Passes CX X E)
    (ha : PA X (e :: es) t) (hkw : PK X kws tk) (hall : (backToKw pos (keywordEach kws X.env)).all (·.1.isSome) = true := by rfl) (hks : (backToKw pos (keywordEach kws X.env)).filterMap (·.1) = ks := by rfl)
    (hdb : (x == ("__debug__" : Str)) = false := by decide) (he : starEach (e :: es) X.env = (false, eval e X.env) :: starEach es X.env := by rfl)
    (hpl : ((backTo pos (starEach (e :: es) X.env)).any (·.1) || (backToKw pos (keywordEach kws X.env)).any (·.1.isNone)) = false := by rfl) :
    PE X (.Call (.Name x p) (e :: es) kws pos) (tCallK sp gV E t tk) := ⟨fun pins s σ H Q I h => by
  refine wpAny_Call_Name_kw (ld_glob I hg hm (PySem.W.callWith_KW (h₀ := X.base) I.ok.mod.kin hk hall (thn (ha.run pos pins s σ H _ I h) fun us s1 ⟨vs, H1, I1, r, q⟩ => thn (hkw.run pos pins s1 σ H1 _ I1 q) fun ws s2 ⟨zs, H2, I2, rz, q2⟩ => ⟨I2.kIn, ?_⟩) hpl he) hdb)
  have r2 := hb.rel r rz
  rw [hks]
  exact run_g F gd hr hx I2 r2 (hb.to s2 us ws I2.kIn (by rw [← r2.length]; exact F.nlen _ _ _ _ q2)) q2⟩
omit [Grd] in
/-- f(k = v, ..) -/
theorem pg_callK0 (F : FnG X.prog X.w X.K X.mg X.base CX k f fd ps sp) (gd : X.A.guards = some []) (hr : Room k X.A) (hg : Gl X x) (hm : X.mg x = some (.ref f)) (hk : PySem.W.keepIn X.K (.ref f) = true) (hb : KBinds X.K fd ps ks g gV) (hx : Passes CX X E)
    (hkw : PK X kws tk) (hall : (backToKw pos (keywordEach kws X.env)).all (·.1.isSome) = true := by rfl) (hks : (backToKw pos (keywordEach kws X.env)).filterMap (·.1) = ks := by rfl)
    (hdb : (x == ("__debug__" : Str)) = false := by decide)
    (hpl : ((backTo pos (starEach [] X.env)).any (·.1) || (backToKw pos (keywordEach kws X.env)).any (·.1.isNone)) = false := by rfl) :
    PE X (.Call (.Name x p) [] kws pos) (tCallK sp gV E tNil tk) := ⟨fun pins s σ H Q I h => by
  refine wpAny_Call_Name_kw (ld_glob I hg hm (PySem.W.callWith_KW0 (h₀ := X.base) I.ok.mod.kin hk hall (thn (hkw.run pos pins s σ H _ I h) fun ws s2 ⟨zs, H2, I2, rz, q2⟩ => ⟨I2.kIn, ?_⟩) hpl) hdb)
  have r2 := hb.rel .nil rz
  rw [hks]
  exact run_g (us := []) F gd hr hx I2 r2 (hb.to s2 [] ws I2.kIn (by rw [← r2.length]; exact F.nlen _ _ _ _ q2)) q2⟩
end

/-! a def's meaning at the data level -/
abbrev RD := List D → Mp → DK → Prop
def SpD (K : PySem.W.Frag) (n : Nat) (R : RD) : Sp := fun vs H Q _ => ∃ ds M F, ds.length = n ∧ Dts K (hid M H) vs ds ∧ @HpOk Grd.triv K M H ∧ R ds M F ∧ @AftE Grd.triv K M H F Q
def startD (n : Nat) (ds : List D) : Ds := ds.map some ++ List.replicate (n - ds.length) none
omit [Grd] in
theorem env_start {K : PySem.W.Frag} {M : Mp} {H : Hp} {N : List Str} {vs : List V} {ds : List D} (h : Dts K (hid M H) vs ds) : Env K M H (start N vs) (startD N.length ds) := by
  unfold L2.start startD
  refine ⟨by simp [h.length], fun i d e => ?_⟩
  by_cases hi : i < ds.length
  · rw [List.getElem?_append_left (by simpa using hi), List.getElem?_map] at e
    cases q : ds[i]? with
    | none => rw [q] at e; cases e
    | some d' =>
      rw [q] at e
      cases e
      obtain ⟨v, e1, e2⟩ := h.get q
      refine ⟨v, ?_, e2⟩
      rw [List.getElem?_append_left (by simpa [h.length] using hi), List.getElem?_map, e1]
      rfl
  · rw [List.getElem?_append_right (by simpa using hi), List.getElem?_replicate] at e
    split at e <;> cases e
omit [Grd] in
/-- the rule for a def that raises nothing -/
theorem fnd {P : Program} {w : World} {K : PySem.W.Frag} {mg : Str → Option Value} {base : Heap} {k : Nat} {f : Addr} {fd : FuncData} {ps : List Str} {x qual : Str} {st : Stmt} {N : List Str} {R : RD} (Fu : Fun K x qual st f fd) (S : FnScope N ps (defScope st))
    (hb : ∀ (cdv : Value) (A : Around) (outer : List PySem.Env) (s : Shared) (H : Hp) (E : XK), (A.deeper (envOfC qual (defScope st) s.heap.objs.size f cdv)).guards = some [] → Room k (A.deeper (envOfC qual (defScope st) s.heap.objs.size f cdv)) →
      ∃ T : TSd, @DSs Grd.triv (cxOf CX0 P w K mg base N qual (defScope st) f cdv A outer s H E).nox (defBody st) T ∧ ∀ ds M F, ds.length = ps.length → R ds M F → T { nx := fun _ M' => F .non M', rt := F } (startD N.length ds) M) : FnG P w K mg base CX0 (k + 1) f fd ps (SpD K ps.length R) := by
  refine fng_of Fu S (fun vs H Q E h => ?_) (fun cdv A outer s H vs Q E g hr h => ?_)
  · obtain ⟨ds, M, F, e, d, _⟩ := h
    rw [d.length, e]
  · obtain ⟨ds, M, F, e, d, ok, r, a⟩ := h
    obtain ⟨T, hT, q⟩ := hb cdv A outer s H E g hr
    exact ⟨_, PSs.nox hT, startD N.length ds, M, _, env_start d, ok, q ds M F e r, @AftS.mk Grd.triv _ _ _ _ _ (fun ds' M' z σ' H' ev ok' l => a _ _ z _ _ ok' .non l) a (fun _ _ z => z.elim) (fun _ _ z => z.elim)⟩
/-- a call's reading -/
def callD (R : RD) (ta : TAd) : TEd := fun ds M F => ta ds M fun xs M1 => R xs M1 F
def callKD (R : RD) (gD : List D → List D → List D) (ta tk : TAd) : TEd := fun ds M F => ta ds M fun xs M1 => tk ds M1 fun ys M2 => R (gD xs ys) M2 F
def nilD : TAd := fun _ M F => F [] M
def consD (t : TEd) (u : TAd) : TAd := fun ds M F => t ds M fun d M1 => u ds M1 fun xs M2 => F (d :: xs) M2
section
variable {X : Cx} {k n : Nat} {f : Addr} {fd : FuncData} {ps ks : List Str} {R : RD} {x : Str} {p pos kpos : Pos} {e : Expr} {es : List Expr} {kws : List Keyword} {T : TEd} {U W : TAd} {nm : Option Str}
theorem da_nil : DA X [] nilD := pa_nil.fimp fun σ H Q ⟨ds, M, F, ev, ok, h, a⟩ => a _ _ h _ _ ok .nil (Lat.refl M H)
theorem emb_cons {K : PySem.W.Frag} {σ : L2.St} {H : Hp} {Q : List V → Hp → Prop} (h : embA K (consD T U) σ H Q) : tCons (emb K T) (embA K U) σ H Q := by
  obtain ⟨ds, M, F, ev, ok, h, a⟩ := h
  refine ⟨ds, M, _, ev, ok, h, fun d M1 h1 v H1 ok1 dt1 l1 => ⟨ds, M1, _, ev.mono l1, ok1, h1, fun xs M2 h2 vs H2 ok2 dts l2 => ?_⟩⟩
  exact a _ _ h2 _ _ ok2 (.cons (dt1.mono l2.same) dts) (l1.trans l2)
theorem da_cons (h : DE X e T) (r : DA X es U) (hs : starEach (e :: es) X.env = (false, eval e X.env) :: starEach es X.env := by rfl) : DA X (e :: es) (consD T U) := (pa_cons h r hs).fimp fun _ _ _ q => emb_cons q
theorem dq_nil : DQ X [] nilD := pk_nil.fimp fun σ H Q ⟨ds, M, F, ev, ok, h, a⟩ => a _ _ h _ _ ok .nil (Lat.refl M H)
theorem dq_cons (h : DE X e T) (r : DQ X kws U) : DQ X (⟨nm, e, kpos⟩ :: kws) (consD T U) := (pk_cons h r).fimp fun _ _ _ q => emb_cons q
theorem emb_call {K : PySem.W.Frag} {E : XK} {σ : L2.St} {H : Hp} {Q : VK} (hn : ∀ xs M F, R xs M F → xs.length = n) (h : emb K (callD R U) σ H Q) : tCall (SpD K n R) [] E (embA K U) σ H Q := by
  obtain ⟨ds, M, F, ev, ok, h, a⟩ := h
  refine ⟨ds, M, _, ev, ok, h, fun xs M1 h1 vs H1 ok1 dts l1 => ?_⟩
  show SpD K n R (vs ++ []) H1 Q E
  rw [List.append_nil]
  exact ⟨xs, M1, F, hn _ _ _ h1, dts, ok1.triv, h1, (a.later l1).triv ok1⟩
theorem de_call (G : FnG X.prog X.w X.K X.mg X.base CX0 k f fd ps (SpD X.K n R)) (hn : ∀ xs M F, R xs M F → xs.length = n) (gd : X.A.guards = some []) (hr : Room k X.A) (hg : Gl X x) (hm : X.mg x = some (.ref f)) (hk : PySem.W.keepIn X.K (.ref f) = true) (hb : Binds X.K fd ps [])
    (ha : DA X (e :: es) U) (hdb : (x == ("__debug__" : Str)) = false := by decide) (he : starEach (e :: es) X.env = (false, eval e X.env) :: starEach es X.env := by rfl) (hpl : (backTo pos (starEach es X.env)).any (·.1) = false := by rfl) :
    DE X (.Call (.Name x p) (e :: es) [] pos) (callD R U) := (pg_call (E := E0) G gd hr hg hm hk hb .nil pass0 ha hdb he hpl).fimp fun _ _ _ q => emb_call hn q
theorem emb_callK {K : PySem.W.Frag} {E : XK} {σ : L2.St} {H : Hp} {Q : VK} {gV : List V → List V → List V} {gD : List D → List D → List D} {t : TA} (hn : ∀ xs M F, R xs M F → xs.length = n) (hg : ∀ G vs ws xs ys, Dts K G vs xs → Dts K G ws ys → Dts K G (gV vs ws) (gD xs ys))
    (ht : ∀ σ H Q, embA K U σ H Q → t σ H Q) (h : emb K (callKD R gD U W) σ H Q) : tCallK (SpD K n R) gV E t (embA K W) σ H Q := by
  obtain ⟨ds, M, F, ev, ok, h, a⟩ := h
  refine ht _ _ _ ⟨ds, M, _, ev, ok, h, fun xs M1 h1 vs H1 ok1 dts1 l1 => ⟨ds, M1, _, ev.mono l1, ok1, h1, fun ys M2 h2 ws H2 ok2 dts2 l2 => ?_⟩⟩
  exact ⟨_, M2, F, hn _ _ _ h2, hg _ _ _ _ _ (dts1.mono l2.same) dts2, ok2.triv, h2, (a.later (l1.trans l2)).triv ok2⟩
variable {g : List Value → List Value → List Value} {gV : List V → List V → List V} {gD : List D → List D → List D}
theorem de_callK (G : FnG X.prog X.w X.K X.mg X.base CX0 k f fd ps (SpD X.K n R)) (hn : ∀ xs M F, R xs M F → xs.length = n) (gd : X.A.guards = some []) (hr : Room k X.A) (hg : Gl X x) (hm : X.mg x = some (.ref f)) (hk : PySem.W.keepIn X.K (.ref f) = true) (hb : KBinds X.K fd ps ks g gV)
    (hgd : ∀ G vs ws xs ys, Dts X.K G vs xs → Dts X.K G ws ys → Dts X.K G (gV vs ws) (gD xs ys)) (ha : DA X (e :: es) U) (hkw : DQ X kws W) (hall : (backToKw pos (keywordEach kws X.env)).all (·.1.isSome) = true := by rfl) (hks : (backToKw pos (keywordEach kws X.env)).filterMap (·.1) = ks := by rfl)
    (hdb : (x == ("__debug__" : Str)) = false := by decide) (he : starEach (e :: es) X.env = (false, eval e X.env) :: starEach es X.env := by rfl)
    (hpl : ((backTo pos (starEach (e :: es) X.env)).any (·.1) || (backToKw pos (keywordEach kws X.env)).any (·.1.isNone)) = false := by rfl) :
    DE X (.Call (.Name x p) (e :: es) kws pos) (callKD R gD U W) := (pg_callK (E := E0) G gd hr hg hm hk hb pass0 ha hkw hall hks hdb he hpl).fimp fun _ _ _ q => emb_callK hn hgd (fun _ _ _ z => z) q
theorem de_callK0 (G : FnG X.prog X.w X.K X.mg X.base CX0 k f fd ps (SpD X.K n R)) (hn : ∀ xs M F, R xs M F → xs.length = n) (gd : X.A.guards = some []) (hr : Room k X.A) (hg : Gl X x) (hm : X.mg x = some (.ref f)) (hk : PySem.W.keepIn X.K (.ref f) = true) (hb : KBinds X.K fd ps ks g gV)
    (hgd : ∀ G vs ws xs ys, Dts X.K G vs xs → Dts X.K G ws ys → Dts X.K G (gV vs ws) (gD xs ys)) (hkw : DQ X kws W) (hall : (backToKw pos (keywordEach kws X.env)).all (·.1.isSome) = true := by rfl) (hks : (backToKw pos (keywordEach kws X.env)).filterMap (·.1) = ks := by rfl)
    (hdb : (x == ("__debug__" : Str)) = false := by decide)
    (hpl : ((backTo pos (starEach [] X.env)).any (·.1) || (backToKw pos (keywordEach kws X.env)).any (·.1.isNone)) = false := by rfl) :
    DE X (.Call (.Name x p) [] kws pos) (callKD R gD nilD W) := (pg_callK0 (E := E0) G gd hr hg hm hk hb pass0 hkw hall hks hdb hpl).fimp fun _ _ _ q => emb_callK (t := tNil) hn hgd (fun _ H _ ⟨ds, M, F, ev, ok, h, a⟩ => a _ _ h _ _ ok .nil (Lat.refl M H)) q
end
end Fx

namespace Fx
open PySem PySem.Spec PyProof.Rows L2
variable [Grd]

theorem big_le {n : Nat} (h : n ≤ 1000000) : n ≤ sizeLine := Nat.le_trans h (by decide)
theorem big_lt {n : Nat} (h : n < 1000000) : n < sizeLine := Nat.lt_of_lt_of_le h (by decide)

/-! names and constants -/
def vD (i : Nat) : TEd := fun ds M F => match ds[i]? with
  | some (some d) => F d M
  | _ => False
def cD (d : D) : TEd := fun _ M F => F d M
section
variable {X : Cx} {x : Str} {pos : Pos}
theorem dv (i : Nat) (hN : X.N[i]? = some x := by rfl) (hv : Vis X.env.scope x := by first | exact Or.inl rfl | exact Or.inr (Or.inl rfl) | exact Or.inr (Or.inr rfl)) (hd : (x == ("__debug__" : Str)) = false := by decide)
    (hcd : (x == ("__classdict__" : Str)) = false := by decide) : DE X (.Name x pos) (vD i) := (pe_var (i := i) hN hv hd hcd).fimp fun σ H Q ⟨ds, M, F, ev, ok, h, a⟩ => by
  unfold vD at h
  split at h
  · next d e =>
    obtain ⟨v, e1, e2⟩ := ev.2 i d e
    exact ⟨v, e1, a _ _ h _ _ ok e2 (Lat.refl M H)⟩
  · exact h.elim
theorem emb_c {K : PySem.W.Frag} {v : V} {d : D} (hd : ∀ G, Dt K G v d) : ∀ σ H Q, emb K (cD d) σ H Q → tC v σ H Q := fun σ H Q ⟨ds, M, F, ev, ok, h, a⟩ => a _ _ h _ _ ok (hd _) (Lat.refl M H)
theorem de_int {i : Int} {k : Nat} : DE X (.Constant (.int i) k pos) (cD (.int i)) := pe_int.fimp (emb_c fun _ => .int i)
theorem de_str {z : Str} {k : Nat} : DE X (.Constant (.str z) k pos) (cD (.str z)) := pe_str.fimp (emb_c fun _ => .str z)
theorem de_bl {b : Bool} {k : Nat} : DE X (.Constant (.bool b) k pos) (cD (.bl b)) := pe_bl.fimp (emb_c fun _ => .bl b)
theorem de_non {k : Nat} : DE X (.Constant .none k pos) (cD .non) := pe_non.fimp (emb_c fun _ => .non)
/-- a constant of the module -/
theorem de_glob {u : Value} {v : V} {d : D} (hg : Gl X x) (hm : X.mg x = some u) (r : RelV v u) (hd : ∀ G, Dt X.K G v d) (hdb : (x == ("__debug__" : Str)) = false := by decide) : DE X (.Name x pos) (cD d) := (pe_glob hg hm r hdb).fimp (emb_c hd)
end

/-! displays -/
def tupD (U : TAd) : TEd := fun ds M F => U ds M fun xs M1 => xs.length ≤ 1000000 ∧ F (.tup xs) M1
def lstD (U : TAd) : TEd := fun ds M F => U ds M fun xs M1 => xs.length ≤ 1000000 ∧ F (.lst xs) M1
section
variable {X : Cx} {es : List Expr} {U : TAd} {pos : Pos} {k : Nat}
theorem AftE.layT {K : PySem.W.Frag} {M : Mp} {H : Hp} {F : DK} {Q : VK} {vs : List V} {xs : List D} (a : AftE K M H F Q) (ok : HpOk K M H) (d : Dts K (hid M H) vs xs) (f : F (.tup xs) M) : ∀ p, H p = none → Q (.ref p) (upd H p (.tup vs)) := fun p np => by
  obtain ⟨ok2, l2⟩ := ok.lay (p := p) (o := .tup vs) np
  refine a _ _ f _ _ ok2 (.tup (.inl (.inl ?_)) (d.mono l2.same)) l2
  rw [hid_of (ok.free np)]
  exact upd_same
theorem AftE.layL {K : PySem.W.Frag} {M : Mp} {H : Hp} {F : DK} {Q : VK} {vs : List V} {xs : List D} (a : AftE K M H F Q) (ok : HpOk K M H) (d : Dts K (hid M H) vs xs) (f : F (.lst xs) M) : ∀ p, H p = none → Q (.ref p) (upd H p (.lst vs)) := fun p np => by
  obtain ⟨ok2, l2⟩ := ok.lay (p := p) (o := .lst vs) np
  refine a _ _ f _ _ ok2 (.lst ?_ (d.mono l2.same)) l2
  rw [hid_of (ok.free np)]
  exact upd_same
theorem de_tup (h : DA X es U) : DE X (.Tuple es k pos) (tupD U) := (pe_tup h).fimp fun σ H Q ⟨ds, M, F, ev, ok, h, a⟩ =>
  ⟨ds, M, _, ev, ok, h, fun xs M1 h1 vs H1 ok1 dts l1 => ⟨by rw [dts.length]; exact big_le h1.1, (a.later l1).layT ok1 dts h1.2⟩⟩
theorem de_lst (h : DA X es U) : DE X (.List es pos) (lstD U) := (pe_lst h).fimp fun σ H Q ⟨ds, M, F, ev, ok, h, a⟩ =>
  ⟨ds, M, _, ev, ok, h, fun xs M1 h1 vs H1 ok1 dts l1 => ⟨by rw [dts.length]; exact big_le h1.1, (a.later l1).layL ok1 dts h1.2⟩⟩
end

/-! two-place operations -/
abbrev R2d := D → D → Mp → DK → Prop
def opD (r : R2d) (T U : TEd) : TEd := fun ds M F => T ds M fun a M1 => U ds M1 fun b M2 => r a b M2 F
def up2 (K : PySem.W.Frag) (r : R2d) : R2 := fun x y H Q => ∃ a b M F, Dt K (hid M H) x a ∧ Dt K (hid M H) y b ∧ HpOk K M H ∧ r a b M F ∧ AftE K M H F Q
section
variable {X : Cx} {e e' : Expr} {op : Operator} {cop : CmpOp} {r : R2d} {T U : TEd} {pos : Pos}
theorem emb_op {K : PySem.W.Frag} : ∀ σ H Q, emb K (opD r T U) σ H Q → tOp (up2 K r) (emb K T) (emb K U) σ H Q := fun σ H Q ⟨ds, M, F, ev, ok, h, a⟩ =>
  ⟨ds, M, _, ev, ok, h, fun d M1 h1 v H1 ok1 dt1 l1 => ⟨ds, M1, _, ev.mono l1, ok1, h1, fun d2 M2 h2 v2 H2 ok2 dt2 l2 => ⟨d, d2, M2, F, dt1.mono l2.same, dt2, ok2, h2, a.later (l1.trans l2)⟩⟩⟩
theorem de_op (ho : OpR X (binaryOp op) (up2 X.K r)) (ha : DE X e T) (hb : DE X e' U) : DE X (.BinOp e op e' pos) (opD r T U) := (pe_op ho ha hb).fimp emb_op
theorem de_cmp (ho : OpR X (compareOp cop) (up2 X.K r)) (ha : DE X e T) (hb : DE X e' U) (hm : behindInMarks cop e' = false) : DE X (.Compare e [cop] [e'] pos) (opD r T U) := (pe_cmpR ho ha hb hm).fimp emb_op
theorem de_ix (ho : IxR X (up2 X.K r)) (ha : DE X e T) (hb : DE X e' U) (hs : PlainIx e') : DE X (.Subscript e e' pos) (opD r T U) := (pe_ix ho ha hb hs).fimp emb_op
end

def addR : R2d
  | .int i, .int j, M, F => F (.int (i + j)) M
  | .str x, .str y, M, F => x.length + y.length ≤ 1000000 ∧ F (.str (x ++ y)) M
  | .tup xs, .tup ys, M, F => xs.length + ys.length ≤ 1000000 ∧ F (.tup (xs ++ ys)) M
  | .lst xs, .lst ys, M, F => xs.length + ys.length ≤ 1000000 ∧ F (.lst (xs ++ ys)) M
  | _, _, _, _ => False
def subR : R2d
  | .int i, .int j, M, F => F (.int (i - j)) M
  | _, _, _, _ => False
def mulR : R2d
  | .int i, .int j, M, F => ((-(2 ^ 64) < i ∧ i < 2 ^ 64) ∨ (-(2 ^ 64) < j ∧ j < 2 ^ 64)) ∧ F (.int (i * j)) M
  | .lst xs, .int k, M, F => 0 ≤ k ∧ k ≤ 1000000 ∧ xs.length * k.toNat ≤ 1000000 ∧ F (.lst (List.replicate k.toNat xs).flatten) M
  | _, _, _, _ => False
def fdivR : R2d
  | .int i, .int j, M, F => (0 < j ∧ j < 1073741824) ∧ F (.int (i / j)) M
  | _, _, _, _ => False
def modR : R2d
  | .int i, .int j, M, F => 0 < j ∧ F (.int (i % j)) M
  | _, _, _, _ => False
def powR : R2d
  | .int i, .int j, M, F => (0 ≤ j ∧ j ≤ 1000000 ∧ i.natAbs < 2 ^ 64) ∧ F (.int (i ^ j.toNat)) M
  | _, _, _, _ => False
section
variable {X : Cx}
theorem Dts.flat {K : PySem.W.Frag} {G : Hp} {vs : List V} {ds : List D} (h : Dts K G vs ds) : ∀ n : Nat, Dts K G (List.replicate n vs).flatten (List.replicate n ds).flatten
  | 0 => .nil
  | n + 1 => by
    rw [List.replicate_succ, List.replicate_succ, List.flatten_cons, List.flatten_cons]
    exact h.append (Dts.flat h n)
theorem or_add : OpR X (binaryOp .Add) (up2 X.K addR) := by
  intro pins s σ H x y v u Q I rx ry h
  obtain ⟨a, b, M, F, da, db, ok, h, af⟩ := h
  cases da <;> cases db <;> first | exact h.elim | skip
  · exact op_add pins s σ H _ _ v u Q I rx ry ⟨_, _, rfl, rfl, af _ _ h _ _ ok (.int _) (Lat.refl _ _)⟩
  · exact op_add_str pins s σ H _ _ v u Q I rx ry ⟨_, _, rfl, rfl, big_le h.1, af _ _ h.2 _ _ ok (.str _) (Lat.refl _ _)⟩
  · next h1 d1 _ _ _ h2 d2 =>
    exact op_cat pins s σ H _ _ v u Q I rx ry ⟨_, _, _, _, rfl, rfl, hid_sub _ _ h1, hid_sub _ _ h2, by rw [d1.length, d2.length]; exact big_le h.1, af.layL ok (d1.append d2) h.2⟩
  · next h1 d1 _ _ _ h2 d2 =>
    refine op_catA pins s σ H _ _ v u Q I rx ry ⟨_, _, _, _, rfl, rfl, sqT_same hid_sub h1, sqT_same hid_sub h2, by rw [d1.length, d2.length]; exact big_le h.1, fun e => ?_, fun _ e => ?_, fun _ _ => af.layT ok (d1.append d2) h.2⟩
    · subst e
      cases d1
      exact af _ _ h.2 _ _ ok (.tup h2 d2) (Lat.refl _ _)
    · subst e
      cases d2
      have h3 := h.2
      rw [List.append_nil] at h3
      exact af _ _ h3 _ _ ok (.tup h1 d1) (Lat.refl _ _)
theorem or_sub : OpR X (binaryOp .Sub) (up2 X.K subR) := by
  intro pins s σ H x y v u Q I rx ry h
  obtain ⟨a, b, M, F, da, db, ok, h, af⟩ := h
  cases da <;> cases db <;> first | exact h.elim | skip
  exact op_sub pins s σ H _ _ v u Q I rx ry ⟨_, _, rfl, rfl, af _ _ h _ _ ok (.int _) (Lat.refl _ _)⟩
theorem or_mul : OpR X (binaryOp .Mult) (up2 X.K mulR) := by
  intro pins s σ H x y v u Q I rx ry h
  obtain ⟨a, b, M, F, da, db, ok, h, af⟩ := h
  cases da <;> cases db <;> first | exact h.elim | skip
  · exact op_mul pins s σ H _ _ v u Q I rx ry ⟨_, _, rfl, rfl, h.1, af _ _ h.2 _ _ ok (.int _) (Lat.refl _ _)⟩
  · next h1 d1 k =>
    obtain ⟨k0, k1, k2, h⟩ := h
    exact op_rep pins s σ H _ _ v u Q I rx ry ⟨_, _, _, rfl, rfl, hid_sub _ _ h1, by omega, by omega, by rw [d1.length]; exact big_le k2, af.layL ok (d1.flat _) h⟩
theorem or_fdiv : OpR X (binaryOp .FloorDiv) (up2 X.K fdivR) := by
  intro pins s σ H x y v u Q I rx ry h
  obtain ⟨a, b, M, F, da, db, ok, h, af⟩ := h
  cases da <;> cases db <;> first | exact h.elim | skip
  exact op_fdiv pins s σ H _ _ v u Q I rx ry ⟨_, _, rfl, rfl, h.1, af _ _ h.2 _ _ ok (.int _) (Lat.refl _ _)⟩
theorem or_mod : OpR X (binaryOp .Mod) (up2 X.K modR) := by
  intro pins s σ H x y v u Q I rx ry h
  obtain ⟨a, b, M, F, da, db, ok, h, af⟩ := h
  cases da <;> cases db <;> first | exact h.elim | skip
  exact op_mod pins s σ H _ _ v u Q I rx ry ⟨_, _, rfl, rfl, h.1, af _ _ h.2 _ _ ok (.int _) (Lat.refl _ _)⟩
theorem or_pow : OpR X (binaryOp .Pow) (up2 X.K powR) := by
  intro pins s σ H x y v u Q I rx ry h
  obtain ⟨a, b, M, F, da, db, ok, h, af⟩ := h
  cases da <;> cases db <;> first | exact h.elim | skip
  exact op_pow pins s σ H _ _ v u Q I rx ry ⟨_, _, rfl, rfl, h.1, af _ _ h.2 _ _ ok (.int _) (Lat.refl _ _)⟩
end

/-! order of ints -/
def ltR (p : Int → Int → Bool) : R2d
  | .int i, .int j, M, F => F (.bl (p i j)) M
  | _, _, _, _ => False
section
variable {X : Cx} {p : Int → Int → Bool} {cop : CmpOp}
theorem or_cmpI (ho : OpR X (compareOp cop) (rI0 fun i j => .bl (p i j))) : OpR X (compareOp cop) (up2 X.K (ltR p)) := by
  intro pins s σ H x y v u Q I rx ry h
  obtain ⟨a, b, M, F, da, db, ok, h, af⟩ := h
  cases da <;> cases db <;> first | exact h.elim | skip
  exact ho pins s σ H _ _ v u Q I rx ry ⟨_, _, rfl, rfl, af _ _ h _ _ ok (.bl _) (Lat.refl _ _)⟩
theorem or_lt : OpR X (compareOp .Lt) (up2 X.K (ltR fun i j => decide (i < j))) := or_cmpI op_lt
theorem or_le : OpR X (compareOp .LtE) (up2 X.K (ltR fun i j => decide (i ≤ j))) := or_cmpI op_le
theorem or_gt : OpR X (compareOp .Gt) (up2 X.K (ltR fun i j => decide (j < i))) := or_cmpI op_gt
theorem or_ge : OpR X (compareOp .GtE) (up2 X.K (ltR fun i j => decide (j ≤ i))) := or_cmpI op_ge
end

/-! data as the kit's own -/
mutual
def py : D → PyData
  | .non => .none
  | .bl b => .bool b
  | .int i => .int i
  | .str x => .str x
  | .tup ds => .tuple (pys ds)
  | .lst ds => .list (pys ds)
  | .slst ds => .list (pys ds)
  | .dic kvs => .dict (pyk kvs)
  | .ref _ => .none
  | .ty _ => .none
  | .dtp _ _ => .none
  | .obj _ _ _ => .none
def pys : List D → List PyData
  | [] => []
  | d :: ds => py d :: pys ds
def pyk : List (Key × D) → List (PyData × PyData)
  | [] => []
  | (.inl i, d) :: ds => (.int i, py d) :: pyk ds
  | (.inr x, d) :: ds => (.str x, py d) :: pyk ds
end
mutual
/-- no address within, no dict -/
def flat : D → Bool
  | .tup ds => flats ds
  | .lst ds => flats ds
  | .slst ds => flats ds
  | .dic _ | .ref _ | .ty _ | .dtp _ _ | .obj _ _ _ => false
  | _ => true
def flats : List D → Bool
  | [] => true
  | d :: ds => flat d && flats ds
end
section
variable {K : PySem.W.Frag} {M : Mp} {H : Hp}
mutual
theorem Dt.dp : ∀ {v : V} {d : D}, Dt K (hid M H) v d → flat d = true → Dp K H v (py d)
  | _, _, .non, _ => .non
  | _, _, .bl b, _ => .bl b
  | _, _, .int i, _ => .int i
  | _, _, .str x, _ => .str x
  | _, _, .lst h1 h2, f => .lst (.inl (.inl (hid_sub _ _ h1))) (Dts.dp h2 (by simpa [flat] using f))
  | _, _, .slst h1 h2, f => .lst (Same.seq hid_sub h1) (Dts.dp h2 (by simpa [flat] using f))
  | _, _, .tup h1 h2, f => .tup (sqT_same hid_sub h1) (Dts.dp h2 (by simpa [flat] using f))
  | _, _, .dic _ _, f => by simp [flat] at f
  | _, _, .ref _, f => by simp [flat] at f
  | _, _, .ty _, f => by simp [flat] at f
  | _, _, .dtp _ _ _, f => by simp [flat] at f
  | _, _, .obj _ _ _, f => by simp [flat] at f
theorem Dts.dp : ∀ {vs : List V} {ds : List D}, Dts K (hid M H) vs ds → flats ds = true → DpAll K H vs (pys ds)
  | _, _, .nil, _ => .nil
  | _, _, .cons (d := d) (ds := ds) h1 h2, f => by
    have f' : flat d = true ∧ flats ds = true := by simpa [flats] using f
    rw [pys]
    exact .cons (Dt.dp h1 f'.1) (Dts.dp h2 f'.2)
end
end

/-! == and != -/
def okD (d : D) : Bool := flat d && SeqAt.shaped (py d)
def eqD (a b : D) : Bool := PyData.eqv (py a) (py b)
def eqR : R2d
  | .lst xs, .lst [], M, F => F (.bl xs.isEmpty) M
  | .int i, .int j, M, F => F (.bl (decide (i = j))) M
  | .str x, .str y, M, F => F (.bl (decide (x = y))) M
  | .tup xs, .tup [], M, F => F (.bl xs.isEmpty) M
  | .ref p, .lst [], M, F => match M p with
    | some (.lst xs) => F (.bl xs.isEmpty) M
    | _ => False
  | a, b, M, F => (okD a && okD b) = true ∧ F (.bl (eqD a b)) M
def neR : R2d
  | .lst xs, .lst [], M, F => F (.bl (!xs.isEmpty)) M
  | .int i, .int j, M, F => F (.bl (!decide (i = j))) M
  | .str x, .str y, M, F => F (.bl (!decide (x = y))) M
  | .tup xs, .tup [], M, F => F (.bl (!xs.isEmpty)) M
  | .ref p, .lst [], M, F => match M p with
    | some (.lst xs) => F (.bl (!xs.isEmpty)) M
    | _ => False
  | a, b, M, F => (okD a && okD b) = true ∧ F (.bl (!eqD a b)) M
section
variable {X : Cx} {pins : List (Addr × Obj)} {s : Shared} {σ : L2.St} {H : Hp} {Q : VK}
theorem eq_emp_t {l b : Addr} {xs : List V} (I : Inv X pins σ H s) (hu : X.A.units < cLine) (hl : SqT X.K H l xs) (hb : SqT X.K H b []) (q : Q (.bl xs.isEmpty) H) : wpAny (model X.prog X.w) X.A (compareOp .Eq (.ref l) (.ref b)) (EP X pins σ Q) X.xe s := by
  obtain ⟨its, rv, tl, _⟩ := I.tuple hl
  obtain ⟨its2, rv2, tl2, _⟩ := I.tuple hb
  cases rv2
  refine SeqAt.eq_tupleAt (e := fun _ => true) tl tl2 hu (fun j _ h2 => by simp at h2) ⟨.bl xs.isEmpty, H, I, ?_, q⟩
  show Value.bool _ = Value.bool _
  have e := rv.length
  cases xs <;> cases its <;> simp at e ⊢
theorem ne_emp_t {l b : Addr} {xs : List V} (I : Inv X pins σ H s) (hu : X.A.units < cLine) (hl : SqT X.K H l xs) (hb : SqT X.K H b []) (q : Q (.bl (!xs.isEmpty)) H) : wpAny (model X.prog X.w) X.A (compareOp .NotEq (.ref l) (.ref b)) (EP X pins σ Q) X.xe s := by
  obtain ⟨its, rv, tl, _⟩ := I.tuple hl
  obtain ⟨its2, rv2, tl2, _⟩ := I.tuple hb
  cases rv2
  refine SeqAt.RcNeAt.tuples (e := fun _ => true) tl tl2 hu (fun j _ h2 => by simp at h2) _ _ _ _ ⟨.bl (!xs.isEmpty), H, I, ?_, q⟩
  show Value.bool _ = Value.bool _
  have e := rv.length
  cases xs <;> cases its <;> simp at e ⊢
theorem eq_emp_l {l b : Addr} {xs : List V} (I : Inv X pins σ H s) (hu : X.A.units < cLine) (hl : SqL X.K H l xs) (hb : SqL X.K H b []) (q : Q (.bl xs.isEmpty) H) : wpAny (model X.prog X.w) X.A (compareOp .Eq (.ref l) (.ref b)) (EP X pins σ Q) X.xe s := by
  obtain ⟨its, rv, tl, _⟩ := I.list hl
  obtain ⟨its2, rv2, tl2, _⟩ := I.list hb
  cases rv2
  have e := rv.length
  cases xs with
  | nil =>
    cases its with
    | nil => exact SeqAt.eq_listAt (e := fun _ => true) tl.isList tl2.isList rfl hu (fun j _ h2 => by simp at h2) ⟨.bl true, H, I, rfl, q⟩
    | cons => simp at e
  | cons x xs =>
    cases its with
    | nil => simp at e
    | cons y its => exact SeqAt.eq_list_lengthsAt tl.isList tl2.isList (by simp) hu ⟨.bl false, H, I, rfl, q⟩
theorem ne_emp_l {l b : Addr} {xs : List V} (I : Inv X pins σ H s) (hu : X.A.units < cLine) (hl : SqL X.K H l xs) (hb : SqL X.K H b []) (q : Q (.bl (!xs.isEmpty)) H) : wpAny (model X.prog X.w) X.A (compareOp .NotEq (.ref l) (.ref b)) (EP X pins σ Q) X.xe s := by
  obtain ⟨its, rv, tl, _⟩ := I.list hl
  obtain ⟨its2, rv2, tl2, _⟩ := I.list hb
  cases rv2
  have e := rv.length
  cases xs with
  | nil =>
    cases its with
    | nil => exact SeqAt.RcNeAt.lists (e := fun _ => true) tl.isList tl2.isList rfl hu (fun j _ h2 => by simp at h2) _ _ _ _ ⟨.bl false, H, I, rfl, q⟩
    | cons => simp at e
  | cons x xs =>
    cases its with
    | nil => simp at e
    | cons y its => exact SeqAt.RcNeAt.lists_lengths tl.isList tl2.isList (by simp) hu _ _ _ _ ⟨.bl true, H, I, rfl, q⟩
theorem okD_and {a b : D} (h : (okD a && okD b) = true) : flat a = true ∧ flat b = true ∧ SeqAt.shaped (py a) = true ∧ SeqAt.shaped (py b) = true := by
  unfold okD at h
  simp only [Bool.and_eq_true] at h
  exact ⟨h.1.1, h.2.1, h.1.2, h.2.2⟩
theorem or_eq (hu : X.A.units + 64 < cLine) : OpR X (compareOp .Eq) (up2 X.K eqR) := by
  intro pins s σ H x y v u Q I rx ry h
  obtain ⟨a, b, M, F, da, db, ok, h, af⟩ := h
  unfold eqR at h
  split at h
  · cases da with
    | lst h1 d1 =>
      cases db with
      | lst h2 d2 =>
        cases d2
        cases rx
        cases ry
        refine eq_emp_l I (by omega) (.inl (.inl (hid_sub _ _ h1))) (.inl (.inl (hid_sub _ _ h2))) ?_
        refine af _ _ h _ _ ok ?_ (Lat.refl _ _)
        cases d1 with
        | nil => exact .bl true
        | cons => exact .bl false
  · cases da
    cases db
    refine op_eq pins s σ H _ _ v u Q I rx ry ⟨rfl, af _ _ h _ _ ok ?_ (Lat.refl _ _)⟩
    simp only [V.int.injEq]
    exact .bl _
  · cases da
    cases db
    refine op_eq pins s σ H _ _ v u Q I rx ry ⟨rfl, af _ _ h _ _ ok ?_ (Lat.refl _ _)⟩
    simp only [V.str.injEq]
    exact .bl _
  · cases da with
    | tup h1 d1 =>
      cases db with
      | tup h2 d2 =>
        cases d2
        cases rx
        cases ry
        refine eq_emp_t I (by omega) (sqT_same hid_sub h1) (sqT_same hid_sub h2) ?_
        have e := d1.length
        refine af _ _ h _ _ ok ?_ (Lat.refl _ _)
        rename_i xs' _ _
        cases d1 with
        | nil => exact .bl true
        | cons => exact .bl false
  · split at h
    · next e =>
      cases da
      obtain ⟨ys, e1, d1⟩ := ok _ _ e
      cases db with
      | lst h2 d2 =>
        cases d2
        cases rx
        cases ry
        refine eq_emp_l I (by omega) (.inl (.inl e1)) (.inl (.inl (hid_sub _ _ h2))) ?_
        refine af _ _ h _ _ ok ?_ (Lat.refl _ _)
        cases d1 with
        | nil => exact .bl true
        | cons => exact .bl false
    · exact h.elim
  · obtain ⟨h0, h⟩ := h
    obtain ⟨f1, f2, s1, s2⟩ := okD_and h0
    exact op_eqD hu pins s σ H x y v u Q I rx ry ⟨py a, py b, da.dp f1, db.dp f2, s1, s2, af _ _ h _ _ ok (.bl _) (Lat.refl _ _)⟩
theorem or_ne (hu : X.A.units + 64 < cLine) : OpR X (compareOp .NotEq) (up2 X.K neR) := by
  intro pins s σ H x y v u Q I rx ry h
  obtain ⟨a, b, M, F, da, db, ok, h, af⟩ := h
  unfold neR at h
  split at h
  · cases da with
    | lst h1 d1 =>
      cases db with
      | lst h2 d2 =>
        cases d2
        cases rx
        cases ry
        refine ne_emp_l I (by omega) (.inl (.inl (hid_sub _ _ h1))) (.inl (.inl (hid_sub _ _ h2))) ?_
        refine af _ _ h _ _ ok ?_ (Lat.refl _ _)
        cases d1 with
        | nil => exact .bl false
        | cons => exact .bl true
  · cases da
    cases db
    refine op_ne pins s σ H _ _ v u Q I rx ry ⟨rfl, af _ _ h _ _ ok ?_ (Lat.refl _ _)⟩
    simp only [V.int.injEq]
    exact .bl _
  · cases da
    cases db
    refine op_ne pins s σ H _ _ v u Q I rx ry ⟨rfl, af _ _ h _ _ ok ?_ (Lat.refl _ _)⟩
    simp only [V.str.injEq]
    exact .bl _
  · cases da with
    | tup h1 d1 =>
      cases db with
      | tup h2 d2 =>
        cases d2
        cases rx
        cases ry
        refine ne_emp_t I (by omega) (sqT_same hid_sub h1) (sqT_same hid_sub h2) ?_
        refine af _ _ h _ _ ok ?_ (Lat.refl _ _)
        cases d1 with
        | nil => exact .bl false
        | cons => exact .bl true
  · split at h
    · next e =>
      cases da
      obtain ⟨ys, e1, d1⟩ := ok _ _ e
      cases db with
      | lst h2 d2 =>
        cases d2
        cases rx
        cases ry
        refine ne_emp_l I (by omega) (.inl (.inl e1)) (.inl (.inl (hid_sub _ _ h2))) ?_
        refine af _ _ h _ _ ok ?_ (Lat.refl _ _)
        cases d1 with
        | nil => exact .bl false
        | cons => exact .bl true
    · exact h.elim
  · obtain ⟨h0, h⟩ := h
    obtain ⟨f1, f2, s1, s2⟩ := okD_and h0
    exact op_neD hu pins s σ H x y v u Q I rx ry ⟨py a, py b, da.dp f1, db.dp f2, s1, s2, af _ _ h _ _ ok (.bl _) (Lat.refl _ _)⟩
end
end Fx

namespace Fx
open PySem PySem.Spec PyProof.Rows L2
variable [Grd]

/-! tests -/
def tstD (T : TEd) : TTd := fun ds M F => T ds M fun d M1 => match d with
  | .bl b => F b M1
  | _ => False
/-- by truth: a bool, a list, a tuple, None, an int -/
def truD (T : TEd) : TTd := fun ds M F => T ds M fun d M1 => match d with
  | .bl b => F b M1
  | .non => F false M1
  | .int i => F (i != 0) M1
  | .tup xs => F (!xs.isEmpty) M1
  | .lst xs => F (!xs.isEmpty) M1
  | _ => False
def andT (T U : TTd) : TTd := fun ds M F => T ds M fun b M1 => br b (U ds M1 F) (F false M1)
def orT (T U : TTd) : TTd := fun ds M F => T ds M fun b M1 => br b (F true M1) (U ds M1 F)
def notT (T : TTd) : TTd := fun ds M F => T ds M fun b M1 => F (!b) M1
def andV (T U : TEd) : TEd := fun ds M F => T ds M fun d M1 => match d with
  | .bl b => br b (U ds M1 F) (F (.bl false) M1)
  | _ => False
def orV (T U : TEd) : TEd := fun ds M F => T ds M fun d M1 => match d with
  | .bl b => br b (F (.bl true) M1) (U ds M1 F)
  | _ => False
def notV (T : TEd) : TEd := fun ds M F => T ds M fun d M1 => match d with
  | .bl b => F (.bl (!b)) M1
  | _ => False
def ifE (C : TTd) (T U : TEd) : TEd := fun ds M F => C ds M fun b M1 => br b (T ds M1 F) (U ds M1 F)
section
variable {X : Cx} {e a b c : Expr} {rest : List Expr} {T U : TEd} {A B C : TTd} {pos : Pos}
theorem dt_val (h : DE X e T) (he : ∀ whole, isTrue e X.env whole = (do let v ← whole; standAt e.pos; holding [v] (truthy v)) := by intro _; rfl) : DT X e (tstD T) := (pt_val h he).fimp fun σ H Q ⟨ds, M, F, ev, ok, h, af⟩ =>
  ⟨ds, M, _, ev, ok, h, fun d M1 h1 v H1 ok1 dt l1 => by
    cases d with
    | bl k =>
      cases dt
      exact ⟨k, rfl, af k M1 h1 H1 ok1 l1⟩
    | _ => exact h1.elim⟩
theorem dt_tru (h : DE X e T) (he : ∀ whole, isTrue e X.env whole = (do let v ← whole; standAt e.pos; holding [v] (truthy v)) := by intro _; rfl) : DT X e (truD T) := (pt_truth h he).fimp fun σ H Q ⟨ds, M, F, ev, ok, h, af⟩ =>
  ⟨ds, M, _, ev, ok, h, fun d M1 h1 v H1 ok1 dt l1 => by
    cases dt with
    | bl k => exact ⟨k, rfl, af _ M1 h1 H1 ok1 l1⟩
    | non => exact ⟨false, rfl, af _ M1 h1 H1 ok1 l1⟩
    | int i => exact ⟨_, rfl, af _ M1 h1 H1 ok1 l1⟩
    | tup q dd =>
      refine ⟨_, .inr (.inl ⟨_, sqT_same hid_sub q, rfl⟩), af _ M1 ?_ H1 ok1 l1⟩
      cases dd <;> exact h1
    | lst q dd =>
      refine ⟨_, .inl ⟨_, .inl (.inl (hid_sub _ _ q)), rfl⟩, af _ M1 ?_ H1 ok1 l1⟩
      cases dd <;> exact h1
    | _ => exact h1.elim⟩
theorem emb_andT {K : PySem.W.Frag} : ∀ σ H Q, embT K (andT A B) σ H Q → tAnd (embT K A) (embT K B) σ H Q := fun σ H Q ⟨ds, M, F, ev, ok, h, af⟩ =>
  ⟨ds, M, _, ev, ok, h, fun k M1 h1 H1 ok1 l1 => by
    cases k with
    | true => exact iteT ⟨ds, M1, F, ev.mono l1, ok1, h1, fun k M2 h2 H2 ok2 l2 => af k M2 h2 H2 ok2 (l1.trans l2)⟩
    | false => exact iteF (af _ M1 h1 H1 ok1 l1)⟩
theorem emb_orT {K : PySem.W.Frag} : ∀ σ H Q, embT K (orT A B) σ H Q → tOr (embT K A) (embT K B) σ H Q := fun σ H Q ⟨ds, M, F, ev, ok, h, af⟩ =>
  ⟨ds, M, _, ev, ok, h, fun k M1 h1 H1 ok1 l1 => by
    cases k with
    | false => exact iteF ⟨ds, M1, F, ev.mono l1, ok1, h1, fun k M2 h2 H2 ok2 l2 => af k M2 h2 H2 ok2 (l1.trans l2)⟩
    | true => exact iteT (af _ M1 h1 H1 ok1 l1)⟩
theorem dw_and1 (h : DT X a A) : DW X (.BoolOp .And [a] pos) A := pw_and1 h
theorem dw_or1 (h : DT X a A) : DW X (.BoolOp .Or [a] pos) A := pw_or1 h
theorem dw_and (h : DT X a A) (r : DW X (.BoolOp .And (b :: rest) pos) B) : DW X (.BoolOp .And (a :: b :: rest) pos) (andT A B) := (pw_and h r).fimp emb_andT
theorem dw_or (h : DT X a A) (r : DW X (.BoolOp .Or (b :: rest) pos) B) : DW X (.BoolOp .Or (a :: b :: rest) pos) (orT A B) := (pw_or h r).fimp emb_orT
theorem dt_w (h : DW X e A) : DT X e A := h.pt
theorem dt_not (h : DT X a A) : DT X (.UnaryOp .Not a pos) (notT A) := (pt_not h).fimp fun σ H Q ⟨ds, M, F, ev, ok, h, af⟩ => ⟨ds, M, _, ev, ok, h, fun k M1 h1 H1 ok1 l1 => af _ M1 h1 H1 ok1 l1⟩
theorem de_one {op : BoolOp} (h : DE X a T) : DE X (.BoolOp op [a] pos) T := pe_one h
theorem de_and (h : DE X a T) (r : DE X (.BoolOp .And (b :: rest) pos) U) : DE X (.BoolOp .And (a :: b :: rest) pos) (andV T U) := (pe_and h r).fimp fun σ H Q ⟨ds, M, F, ev, ok, h, af⟩ =>
  ⟨ds, M, _, ev, ok, h, fun d M1 h1 v H1 ok1 dt l1 => by
    cases dt with
    | bl k =>
      cases k with
      | true => exact ⟨true, rfl, iteT ⟨ds, M1, F, ev.mono l1, ok1, h1, af.later l1⟩⟩
      | false => exact ⟨false, rfl, iteF (af _ M1 h1 _ H1 ok1 (.bl false) l1)⟩
    | _ => exact h1.elim⟩
theorem de_or (h : DE X a T) (r : DE X (.BoolOp .Or (b :: rest) pos) U) : DE X (.BoolOp .Or (a :: b :: rest) pos) (orV T U) := (pe_or h r).fimp fun σ H Q ⟨ds, M, F, ev, ok, h, af⟩ =>
  ⟨ds, M, _, ev, ok, h, fun d M1 h1 v H1 ok1 dt l1 => by
    cases dt with
    | bl k =>
      cases k with
      | false => exact ⟨false, rfl, iteF ⟨ds, M1, F, ev.mono l1, ok1, h1, af.later l1⟩⟩
      | true => exact ⟨true, rfl, iteT (af _ M1 h1 _ H1 ok1 (.bl true) l1)⟩
    | _ => exact h1.elim⟩
theorem de_not (h : DE X a T) : DE X (.UnaryOp .Not a pos) (notV T) := (pe_not h).fimp fun σ H Q ⟨ds, M, F, ev, ok, h, af⟩ =>
  ⟨ds, M, _, ev, ok, h, fun d M1 h1 v H1 ok1 dt l1 => by
    cases dt with
    | bl k => exact ⟨k, rfl, af _ M1 h1 _ H1 ok1 (.bl _) l1⟩
    | _ => exact h1.elim⟩
theorem de_if (hc : DT X c C) (ha : DE X a T) (hb : DE X b U) : DE X (.IfExp c a b pos) (ifE C T U) := (pe_ifExp hc ha hb).fimp fun σ H Q ⟨ds, M, F, ev, ok, h, af⟩ =>
  ⟨ds, M, _, ev, ok, h, fun k M1 h1 H1 ok1 l1 => by
    cases k with
    | true => exact iteT ⟨ds, M1, F, ev.mono l1, ok1, h1, af.later l1⟩
    | false => exact iteF ⟨ds, M1, F, ev.mono l1, ok1, h1, af.later l1⟩⟩
end

/-! targets -/
inductive Tg where
  | nm (j : Nat)
  | tp (ts : List Tg)
mutual
def gV (K : PySem.W.Frag) : Tg → TG
  | .nm j => gName j
  | .tp ts => gTup K ts.length (gsV K ts)
def gsV (K : PySem.W.Frag) : List Tg → TGs
  | [] => gNil
  | t :: ts => gCons (gV K t) (gsV K ts)
end
mutual
def gD : Tg → D → Ds → (Ds → Prop) → Prop
  | .nm j, d, ds, F => F (ds.set j (some d))
  | .tp ts, .tup xs, ds, F => gsD ts xs ds F
  | .tp _, _, _, _ => False
def gsD : List Tg → List D → Ds → (Ds → Prop) → Prop
  | [], [], ds, F => F ds
  | t :: ts, x :: xs, ds, F => gD t x ds fun ds1 => gsD ts xs ds1 F
  | _, _, _, _ => False
end
mutual
def slots : Tg → List Nat
  | .nm j => [j]
  | .tp ts => slotss ts
def slotss : List Tg → List Nat
  | [] => []
  | t :: ts => slots t ++ slotss ts
end
theorem wipe_set {σ : L2.St} {j : Nat} {o : Option V} : ∀ {vs : List Nat}, j ∈ vs → wipe (σ.set j o) vs = wipe σ vs
  | [], h => by cases h
  | v :: vs, h => by
    unfold wipe
    by_cases e : j ∈ vs
    · rw [wipe_set e]
    · have e2 : j = v := by
        rcases List.mem_cons.mp h with z | z
        · exact z
        · exact absurd z e
      subst e2
      have : ∀ (ws : List Nat), j ∉ ws → wipe (σ.set j o) ws = (wipe σ ws).set j o := by
        intro ws
        induction ws with
        | nil => intro _; rfl
        | cons w ws ih =>
          intro hw
          unfold wipe
          rw [ih fun z => hw (List.mem_cons_of_mem _ z), List.set_comm]
          intro z
          exact hw (by rw [z]; exact List.mem_cons_self)
      rw [this vs e, List.set_set]
section
variable {K : PySem.W.Frag} {M : Mp} {H : Hp}
mutual
theorem gD_ok : ∀ (t : Tg) {d : D} {ds : Ds} {F : Ds → Prop} {v : V} {σ : L2.St} {Q : L2.St → Hp → Prop}, Dt K (hid M H) v d → Env K M H σ ds → gD t d ds F →
    (∀ ds' σ', F ds' → Env K M H σ' ds' → (∀ vs, (∀ j ∈ slots t, j ∈ vs) → wipe σ' vs = wipe σ vs) → Q σ' H) → gV K t v σ H Q
  | .nm j, d, ds, F, v, σ, Q, dt, ev, g, q => by
    unfold gV
    unfold gD at g
    exact q _ _ g (ev.set j dt) fun vs hv => wipe_set (hv j (by simp [slots]))
  | .tp ts, d, ds, F, v, σ, Q, dt, ev, g, q => by
    unfold gV
    cases dt <;> (unfold gD at g; first | exact g.elim | skip)
    next h1 d1 =>
      refine ⟨_, _, rfl, sqT_same hid_sub h1, ?_, gsD_ok ts d1 ev g fun ds' σ' f ev' w => q ds' σ' f ev' fun vs hv => w vs (by simpa [slots] using hv)⟩
      rw [d1.length]
      exact gsD_len ts _ g
theorem gsD_ok : ∀ (ts : List Tg) {xs : List D} {ds : Ds} {F : Ds → Prop} {vs : List V} {σ : L2.St} {Q : L2.St → Hp → Prop}, Dts K (hid M H) vs xs → Env K M H σ ds → gsD ts xs ds F →
    (∀ ds' σ', F ds' → Env K M H σ' ds' → (∀ ws, (∀ j ∈ slotss ts, j ∈ ws) → wipe σ' ws = wipe σ ws) → Q σ' H) → gsV K ts vs σ H Q
  | [], xs, ds, F, vs, σ, Q, dt, ev, g, q => by
    cases dt with
    | nil =>
      unfold gsV
      unfold gsD at g
      exact ⟨rfl, q ds σ g ev fun _ _ => rfl⟩
    | cons _ _ => unfold gsD at g; exact g.elim
  | t :: ts, xs, ds, F, vs, σ, Q, dt, ev, g, q => by
    cases dt with
    | nil => unfold gsD at g; exact g.elim
    | cons h1 h2 =>
      unfold gsV
      unfold gsD at g
      refine ⟨_, _, rfl, gD_ok t h1 ev g fun ds1 σ1 f1 ev1 w1 => gsD_ok ts h2 ev1 f1 fun ds2 σ2 f2 ev2 w2 => q ds2 σ2 f2 ev2 fun ws hw => ?_⟩
      rw [w2 ws fun j hj => hw j (by rw [slotss]; exact List.mem_append_right _ hj), w1 ws fun j hj => hw j (by rw [slotss]; exact List.mem_append_left _ hj)]
theorem gsD_len : ∀ (ts : List Tg) {ds : Ds} {F : Ds → Prop} (xs : List D), gsD ts xs ds F → xs.length = ts.length
  | [], _, _, [], _ => rfl
  | [], _, _, _ :: _, g => by unfold gsD at g; exact g.elim
  | _ :: _, _, _, [], g => by unfold gsD at g; exact g.elim
  | t :: ts, ds, F, x :: xs, g => by
    unfold gsD at g
    obtain ⟨ds', g'⟩ := gD_some t g
    rw [List.length_cons, List.length_cons, gsD_len ts xs g']
theorem gD_some : ∀ (t : Tg) {d : D} {ds : Ds} {F : Ds → Prop}, gD t d ds F → ∃ ds', F ds'
  | .nm j, d, ds, F, g => by
    unfold gD at g
    exact ⟨_, g⟩
  | .tp ts, .tup xs, ds, F, g => by
    unfold gD at g
    exact gsD_some ts g
  | .tp ts, .non, ds, F, g => by unfold gD at g; exact g.elim
  | .tp ts, .bl _, ds, F, g => by unfold gD at g; exact g.elim
  | .tp ts, .int _, ds, F, g => by unfold gD at g; exact g.elim
  | .tp ts, .str _, ds, F, g => by unfold gD at g; exact g.elim
  | .tp ts, .lst _, ds, F, g => by unfold gD at g; exact g.elim
  | .tp ts, .slst _, ds, F, g => by unfold gD at g; exact g.elim
  | .tp ts, .dic _, ds, F, g => by unfold gD at g; exact g.elim
  | .tp ts, .ref _, ds, F, g => by unfold gD at g; exact g.elim
  | .tp ts, .ty _, ds, F, g => by unfold gD at g; exact g.elim
  | .tp ts, .dtp _ _, ds, F, g => by unfold gD at g; exact g.elim
  | .tp ts, .obj _ _ _, ds, F, g => by unfold gD at g; exact g.elim
theorem gsD_some : ∀ (ts : List Tg) {xs : List D} {ds : Ds} {F : Ds → Prop}, gsD ts xs ds F → ∃ ds', F ds'
  | [], [], ds, F, g => by
    unfold gsD at g
    exact ⟨_, g⟩
  | [], _ :: _, _, _, g => by unfold gsD at g; exact g.elim
  | _ :: _, [], _, _, g => by unfold gsD at g; exact g.elim
  | t :: ts, x :: xs, ds, F, g => by
    unfold gsD at g
    obtain ⟨ds', g'⟩ := gD_some t g
    exact gsD_some ts g'
end
end

/-! statements -/
def nextD : TSd := fun B ds M => B.nx ds M
def seqD (T U : TSd) : TSd := fun B ds M => T { B with nx := U B } ds M
def asgD (T : TEd) (t : Tg) : TSd := fun B ds M => T ds M fun d M1 => gD t d ds fun ds1 => B.nx ds1 M1
def dropD (T : TEd) : TSd := fun B ds M => T ds M fun _ M1 => B.nx ds M1
def retD (T : TEd) : TSd := fun B ds M => T ds M B.rt
def retN : TSd := fun B _ M => B.rt .non M
def ifS (C : TTd) (T U : TSd) : TSd := fun B ds M => C ds M fun b M1 => br b (T B ds M1) (U B ds M1)
section
variable {X : Cx} {st : Stmt} {rest sa sb : List Stmt} {e c tg : Expr} {T : TEd} {C : TTd} {S U : TSd} {t : Tg} {pos : Pos}
theorem dss_nil : DSs X [] nextD := pss_nil.fimp fun E σ H ⟨ds, M, B, ev, ok, h, a⟩ => a.nx _ _ h _ _ ev ok (Lat.refl M H)
theorem dss_one (h : DS X st S) : DSs X [st] S := pss_one h
theorem dss_cons (h : DS X st S) (r : DSs X rest U) : DSs X (st :: rest) (seqD S U) := (pss_cons h r).fimp fun E σ H ⟨ds, M, B, ev, ok, h, a⟩ =>
  ⟨ds, M, _, ev, ok, h, ⟨fun ds' M' h' σ' H' ev' ok' l => ⟨ds', M', B, ev', ok', h', a.later l⟩, a.rt, a.bk, a.ct⟩⟩
theorem ds_set {x : Str} {pos' : Pos} (i : Nat) (hN : X.N.Nodup) (he : DE X e T) (hi : X.N[i]? = some x := by rfl) (hx : Loc X.env.scope x := by first | exact Or.inl rfl | exact Or.inr rfl) (hs : swapsWith e (some (.Name x pos')) pos.line X.env = pure false := by rfl) (hf : X.fn x = true ∨ X.env.scope.names.lookup x = some .local := by first | exact .inl rfl | exact .inr rfl | assumption) :
    DS X (.Assign [.Name x pos'] e pos) (asgD T (.nm i)) := (ps_set hN hi hx he hs hf).fimp fun E σ H ⟨ds, M, B, ev, ok, h, a⟩ =>
  ⟨ds, M, _, ev, ok, h, fun d M1 h1 v H1 ok1 dt l1 => a.nx _ _ h1 _ _ ((ev.mono l1).set i dt) ok1 l1⟩
theorem ds_asg (he : DE X e T) (hg : PG X tg (gV X.K t)) (hs : swapsWithSole [tg] e pos.line X.env = pure false := by rfl) (hw : swappedStores [tg] e X.env = pure none := by rfl)
    (h1 : (assignEach [tg] X.env).map (·.2) = [assign tg X.env] := by rfl) : DS X (.Assign [tg] e pos) (asgD T t) := (ps_asg he hg hs hw h1).fimp fun E σ H ⟨ds, M, B, ev, ok, h, a⟩ =>
  ⟨ds, M, _, ev, ok, h, fun d M1 h1 v H1 ok1 dt l1 => gD_ok t dt (ev.mono l1) h1 fun ds' σ' f ev' _ => a.nx _ _ f _ _ ev' ok1 l1⟩
theorem ds_expr (he : DE X e T) (hs : swapsWith e none pos.line X.env = pure false := by rfl) : DS X (.Expr e pos) (dropD T) := (ps_expr he hs).fimp fun E σ H ⟨ds, M, B, ev, ok, h, a⟩ =>
  ⟨ds, M, _, ev, ok, h, fun d M1 h1 v H1 ok1 dt l1 => a.nx _ _ h1 _ _ (ev.mono l1) ok1 l1⟩
theorem ds_ret (he : DE X e T) : DS X (.Return (some e) pos) (retD T) := (ps_ret he).fimp fun E σ H ⟨ds, M, B, ev, ok, h, a⟩ => ⟨ds, M, _, ev, ok, h, a.rt⟩
theorem ds_retN : DS X (.Return none pos) retN := ps_retN.fimp fun E σ H ⟨ds, M, B, ev, ok, h, a⟩ => a.rt _ _ h _ _ ok .non (Lat.refl M H)
theorem ds_pass : DS X (.Pass pos) nextD := ps_pass.fimp fun E σ H ⟨ds, M, B, ev, ok, h, a⟩ => a.nx _ _ h _ _ ev ok (Lat.refl M H)
theorem ds_if (hc : DT X c C) (ha : DSs X sa S) (hb : DSs X sb U) : DS X (.If c sa sb pos) (ifS C S U) := (ps_if hc ha hb).fimp fun E σ H ⟨ds, M, B, ev, ok, h, a⟩ =>
  ⟨ds, M, _, ev, ok, h, fun k M1 h1 H1 ok1 l1 => by
    cases k with
    | true => exact iteT ⟨ds, M1, B, ev.mono l1, ok1, h1, a.later l1⟩
    | false => exact iteF ⟨ds, M1, B, ev.mono l1, ok1, h1, a.later l1⟩⟩
/-- a, b = e1, e2 -/
def parD (i j : Nat) (U : TAd) : TSd := fun B ds M => U ds M fun xs M1 => match xs with
  | [a, b] => B.nx ((ds.set i (some a)).set j (some b)) M1
  | _ => False
theorem ds_par {x y : Str} {a b : Expr} {U : TAd} {px py pt : Pos} {kt k2 : Nat} {pt2 : Pos} (i j : Nat) (hc : X.calm = true) (hN : X.N.Nodup) (hij : i ≠ j) (ha : DA X [a, b] U) (hi : X.N[i]? = some x := by rfl) (hj : X.N[j]? = some y := by rfl)
    (hx : X.env.scope.names.lookup x = some .local := by rfl) (hy : X.env.scope.names.lookup y = some .local := by rfl)
    (hw : swappedStores [.Tuple [.Name x px, .Name y py] kt pt] (.Tuple [a, b] k2 pt2) X.env = pure (some [x, y]) := by rfl)
    (hs : swapsWithSole [.Tuple [.Name x px, .Name y py] kt pt] (.Tuple [a, b] k2 pt2) pos.line X.env = pure false := by rfl) :
    DS X (.Assign [.Tuple [.Name x px, .Name y py] kt pt] (.Tuple [a, b] k2 pt2) pos) (parD i j U) := (ps_par hc hN hi hj hij hx hy ha hw hs).fimp fun E σ H ⟨ds, M, B, ev, ok, h, af⟩ =>
  ⟨ds, M, _, ev, ok, h, fun xs M1 h1 vs H1 ok1 dts l1 => by
    match xs, vs, dts, h1 with
    | [d1, d2], [v1, v2], .cons e1 (.cons e2 .nil), h1 => exact ⟨v1, v2, rfl, af.nx _ _ h1 _ _ (((ev.mono l1).set i e1).set j e2) ok1 l1⟩
    | [], _, _, h1 => exact h1.elim
    | [_], _, _, h1 => exact h1.elim
    | _ :: _ :: _ :: _, _, _, h1 => exact h1.elim⟩
end
section
variable {X : Cx} {e : Expr} {es : List Expr} {x : Str} {pos : Pos} {k : Nat} {t : Tg} {ts : List Tg}
theorem dg_nm (j : Nat) (hN : X.N.Nodup) (hi : X.N[j]? = some x := by rfl) (hx : Loc X.env.scope x := by first | exact Or.inl rfl | exact Or.inr rfl) (hf : X.fn x = true ∨ X.env.scope.names.lookup x = some .local := by first | exact .inl rfl | exact .inr rfl | assumption) : PG X (.Name x pos) (gV X.K (.nm j)) := by
  unfold gV
  exact pg_name hN hi hx hf
theorem dgs_nil : PGs X [] (gsV X.K []) := by unfold gsV; exact pgs_nil
theorem dgs_cons (h1 : PG X e (gV X.K t)) (h2 : PGs X es (gsV X.K ts)) (hs : (assignEach (e :: es) X.env).map (·.2) = assign e X.env :: (assignEach es X.env).map (·.2) := by rfl) : PGs X (e :: es) (gsV X.K (t :: ts)) := by
  unfold gsV
  exact pgs_cons h1 h2 hs
theorem dg_tp (hc : X.calm = true) (h : PGs X es (gsV X.K ts)) (hn : (assignEach es X.env).length = ts.length := by rfl) (hst : (assignEach es X.env).findIdx? (·.1) = none := by rfl) : PG X (.Tuple es k pos) (gV X.K (.tp ts)) := by
  unfold gV
  exact pg_tup hc h hn hst
end

/-! what is walked: its items are known ahead -/
abbrev TId := Ds → Mp → (List D → Mp → Prop) → Prop
def Walks (K : PySem.W.Frag) (J : It) (xs : List D) (M0 : Mp) (H0 : Hp) : Prop := ∀ (i : Nat) (M : Mp) (H : Hp), HpOk K M H → Lat M0 H0 M H →
  (∀ d, xs[i]? = some d → J.go i H ∧ ∀ x H', J.yld i H x H' → Dt K (hid M H') x d ∧ HpOk K M H' ∧ Lat M H M H') ∧ (i = xs.length → J.stop i H)
def embI (K : PySem.W.Frag) (T : TId) : TI := fun σ H R => ∃ ds M F, Env K M H σ ds ∧ HpOk K M H ∧ T ds M F ∧ ∀ xs M', F xs M' → ∀ H' J, HpOk K M' H' → Lat M H M' H' → Walks K J xs M' H' → R J H'
abbrev DI (X : Cx) (tg iter : Expr) (T : TId) : Prop := PI X tg iter (embI X.K T)
theorem _root_.L2.PI.fimp {X : Cx} {tg iter : Expr} {t u : TI} (h : PI X tg iter t) (i : ∀ σ H R, u σ H R → t σ H R) : PI X tg iter u := ⟨fun pins s σ H R I q => h.run pins s σ H R I (i σ H R q)⟩

def forD (T : TId) (t : Tg) (S : TSd) : TSd := fun B ds M => T ds M fun xs M1 => ∃ W : Nat → Ds → Mp → Prop, W 0 ds M1 ∧
  (∀ i d ds' M', xs[i]? = some d → W i ds' M' → gD t d ds' fun ds2 => S { B with nx := W (i + 1), ct := W (i + 1), bk := B.nx } ds2 M') ∧ ∀ ds' M', W xs.length ds' M' → B.nx ds' M'
theorem emb_for {K : PySem.W.Frag} {T : TId} {t : Tg} {S : TSd} : ∀ E σ H, embS K (forD T t S) E σ H → tFor (embI K T) (gV K t) (embS K S) E σ H := fun E σ H ⟨ds, M, B, ev, ok, h, a⟩ =>
  ⟨ds, M, _, ev, ok, h, fun xs M1 ⟨W, w0, wt, wd⟩ H1 J ok1 l1 wk =>
    ⟨fun i m σ' H' => m = xs.length - i ∧ i ≤ xs.length ∧ ∃ ds' M', W i ds' M' ∧ Env K M' H' σ' ds' ∧ HpOk K M' H' ∧ Lat M1 H1 M' H', ⟨xs.length, by simp, Nat.zero_le _, ds, M1, w0, ev.mono l1, ok1, Lat.refl _ _⟩, fun i m σ' H' ⟨em, hi, ds', M', w', ev', ok', l'⟩ => by
      obtain ⟨wgo, wstop⟩ := wk i M' H' ok' l'
      by_cases hlt : i < xs.length
      · obtain ⟨go, yl⟩ := wgo xs[i] (by simp [hlt])
        refine .inr ⟨go, fun σ2 H2 => ∃ ds2 M2, W (i + 1) ds2 M2 ∧ Env K M2 H2 σ2 ds2 ∧ HpOk K M2 H2 ∧ Lat M1 H1 M2 H2, fun σ2 H2 ⟨ds2, M2, w2, ev2, ok2, l2⟩ => ⟨xs.length - (i + 1), by omega, rfl, hlt, ds2, M2, w2, ev2, ok2, l2⟩, fun x H2 y => ?_⟩
        obtain ⟨dt, ok2, l2⟩ := yl x H2 y
        refine gD_ok t dt (ev'.mono l2) (wt i xs[i] ds' M' (by simp [hlt]) w') fun ds3 σ3 f3 ev3 _ => ⟨ds3, M', _, ev3, ok2, f3, ?_⟩
        have lt : Lat M1 H1 M' H2 := l'.trans l2
        exact ⟨fun ds4 M4 w4 σ4 H4 ev4 ok4 l4 => ⟨ds4, M4, w4, ev4, ok4, lt.trans l4⟩, a.rt.later (l1.trans lt), fun ds4 M4 b4 σ4 H4 ev4 ok4 l4 => a.nx _ _ b4 _ _ ev4 ok4 ((l1.trans lt).trans l4), fun ds4 M4 w4 σ4 H4 ev4 ok4 l4 => ⟨ds4, M4, w4, ev4, ok4, lt.trans l4⟩⟩
      · have e : i = xs.length := by omega
        subst e
        exact .inl ⟨wstop rfl, a.nx _ _ (wd _ _ w') _ _ ev' ok' (l1.trans l')⟩⟩⟩
theorem ds_for {X : Cx} {tg iter : Expr} {body : List Stmt} {T : TId} {t : Tg} {S : TSd} {pos : Pos} (hp : PassesOwn (model X.prog X.w) X.A X.env X.xe) (hc : X.calm = true) (hi : DI X tg iter T) (hg : PG X tg (gV X.K t)) (hb : DSs X body S)
    (hs : ∀ x, foldedSetIterable iter X.env x = pure x := by intro _; rfl) : DS X (.For tg iter body [] pos) (forD T t S) := (ps_for hp hc hi hg hb hs).fimp emb_for

/-! while: W by a measure -/
def whileD (C : TTd) (S : TSd) : TSd := fun B ds M => ∃ W : Nat → Ds → Mp → Prop, (∃ m, W m ds M) ∧ ∀ m ds' M', W m ds' M' → C ds' M' fun b M1 => br b
  (S { B with nx := fun ds2 M2 => ∃ m', m' < m ∧ W m' ds2 M2, ct := fun ds2 M2 => ∃ m', m' < m ∧ W m' ds2 M2, bk := B.nx } ds' M1)
  (B.nx ds' M1)
theorem ds_while {X : Cx} {c : Expr} {body : List Stmt} {C : TTd} {S : TSd} {pos : Pos} (hp : PassesOwn (model X.prog X.w) X.A X.env X.xe) (hc : DT X c C) (hb : DSs X body S) : DS X (.While c body [] pos) (whileD C S) := (ps_while hp hc hb).fimp fun E σ H ⟨ds, M, B, ev, ok, ⟨W, ⟨m0, w0⟩, wt⟩, a⟩ =>
  ⟨fun m σ' H' => ∃ ds' M', W m ds' M' ∧ Env X.K M' H' σ' ds' ∧ HpOk X.K M' H' ∧ Lat M H M' H', ⟨m0, ds, M, w0, ev, ok, Lat.refl _ _⟩, fun m σ' H' ⟨ds', M', w', ev', ok', l'⟩ =>
    ⟨ds', M', _, ev', ok', wt m ds' M' w', fun b M1 h1 H1 ok1 l1 => by
      have lt := l'.trans l1
      cases b with
      | true =>
        refine iteT ⟨fun σ2 H2 => ∃ ds2 M2, (∃ m', m' < m ∧ W m' ds2 M2) ∧ Env X.K M2 H2 σ2 ds2 ∧ HpOk X.K M2 H2 ∧ Lat M H M2 H2, fun σ2 H2 ⟨ds2, M2, ⟨m', hm, w2⟩, ev2, ok2, l2⟩ => ⟨m', hm, ds2, M2, w2, ev2, ok2, l2⟩, ds', M1, _, ev'.mono l1, ok1, h1, ?_⟩
        exact ⟨fun ds4 M4 w4 σ4 H4 ev4 ok4 l4 => ⟨ds4, M4, w4, ev4, ok4, lt.trans l4⟩, a.rt.later lt, fun ds4 M4 b4 σ4 H4 ev4 ok4 l4 => a.nx _ _ b4 _ _ ev4 ok4 (lt.trans l4), fun ds4 M4 w4 σ4 H4 ev4 ok4 l4 => ⟨ds4, M4, w4, ev4, ok4, lt.trans l4⟩⟩
      | false => exact iteF (a.nx _ _ h1 _ _ (ev'.mono l1) ok1 lt)⟩⟩
end Fx

namespace Fx
open PySem PySem.Spec PyProof.Rows L2
variable [Grd]

/-! items of a text -/
def signs (z : Str) : List D := z.cps.toList.map fun c => D.str ⟨#[c]⟩
/-- for x in e: a list, a tuple, a text -/
def seqI (T : TEd) : TId := fun ds M F => T ds M fun d M1 => match d with
  | .lst xs => F xs M1
  | .slst xs => F xs M1
  | .tup xs => F xs M1
  | .str z => F (signs z) M1
  | _ => False
def rngI (U : TAd) : TId := fun ds M F => U ds M fun xs M1 => match xs with
  | [.int n] => (-1000000 ≤ n ∧ n ≤ 1000000) ∧ F ((List.range n.toNat).map fun i => D.int (i : Nat)) M1
  | _ => False
def rng2I (U : TAd) : TId := fun ds M F => U ds M fun xs M1 => match xs with
  | [.int a, .int b] => (-1000000 ≤ a ∧ a ≤ 1000000 ∧ -1000000 ≤ b ∧ b ≤ 1000000) ∧ F ((List.range (b - a).toNat).map fun i => D.int (a + (i : Nat))) M1
  | _ => False
def enumL (k : Nat) : List D → List D
  | [] => []
  | d :: ds => .tup [.int (k : Nat), d] :: enumL (k + 1) ds
def enumI (U : TAd) : TId := fun ds M F => U ds M fun xs M1 => match xs with
  | [.lst xs] => F (enumL 0 xs) M1
  | [.slst xs] => F (enumL 0 xs) M1
  | _ => False
def zipL : List D → List D → List D
  | x :: xs, y :: ys => .tup [x, y] :: zipL xs ys
  | _, _ => []
def zipI (U : TAd) : TId := fun ds M F => U ds M fun xs M1 => match xs with
  | [.lst xs, .lst ys] => F (zipL xs ys) M1
  | _ => False
theorem enumL_get : ∀ (xs : List D) (k i : Nat), (enumL k xs)[i]? = (xs[i]?).map fun d => D.tup [.int ((k + i : Nat) : Int), d]
  | [], _, _ => by simp [enumL]
  | x :: xs, k, 0 => by simp [enumL]
  | x :: xs, k, i + 1 => by
    have := enumL_get xs (k + 1) i
    simp only [enumL, List.getElem?_cons_succ, this]
    congr 1
    funext d
    have e : k + 1 + i = k + (i + 1) := by omega
    rw [e]
theorem enumL_len : ∀ (xs : List D) (k : Nat), (enumL k xs).length = xs.length
  | [], _ => rfl
  | x :: xs, k => by simp [enumL, enumL_len xs]
theorem zipL_get : ∀ (xs ys : List D) (i : Nat) (d : D), (zipL xs ys)[i]? = some d → ∃ x y, xs[i]? = some x ∧ ys[i]? = some y ∧ d = .tup [x, y]
  | [], _, _, _, h => by simp [zipL] at h
  | _ :: _, [], _, _, h => by simp [zipL] at h
  | x :: xs, y :: ys, 0, d, h => by
    simp [zipL] at h
    exact ⟨x, y, rfl, rfl, h.symm⟩
  | x :: xs, y :: ys, i + 1, d, h => by
    simp only [zipL, List.getElem?_cons_succ] at h ⊢
    exact zipL_get xs ys i d h
theorem zipL_len : ∀ (xs ys : List D), (zipL xs ys).length = min xs.length ys.length
  | [], ys => by simp [zipL]
  | _ :: _, [] => by simp [zipL]
  | x :: xs, y :: ys => by simp [zipL, zipL_len xs ys]

section
variable {K : PySem.W.Frag}
theorem walks_l {a : Addr} {vs : List V} {xs : List D} {M0 : Mp} {H0 : Hp} (h : SqL K (hid M0 H0) a vs) (d : Dts K (hid M0 H0) vs xs) : Walks K (Itl K a) xs M0 H0 := fun i M H ok l => by
  have hq : SqL K H a vs := Same.seq hid_sub (Same.seq l.same h)
  refine ⟨fun x hx => ?_, fun e => ⟨vs, hq, by rw [d.length]; omega⟩⟩
  obtain ⟨v, e1, e2⟩ := d.get hx
  refine ⟨⟨vs, v, hq, e1⟩, fun y H' ⟨e, q⟩ => ?_⟩
  subst e
  have e3 := q vs hq
  rw [e1] at e3
  cases e3
  exact ⟨e2.mono l.same, ok, Lat.refl _ _⟩
theorem walks_t {a : Addr} {vs : List V} {xs : List D} {M0 : Mp} {H0 : Hp} (h : SqT K (hid M0 H0) a vs) (d : Dts K (hid M0 H0) vs xs) : Walks K (Itt K a) xs M0 H0 := fun i M H ok l => by
  have hq : SqT K H a vs := sqT_same hid_sub (sqT_same l.same h)
  refine ⟨fun x hx => ?_, fun e => ⟨vs, hq, by rw [d.length]; omega⟩⟩
  obtain ⟨v, e1, e2⟩ := d.get hx
  refine ⟨⟨vs, v, hq, e1⟩, fun y H' ⟨e, q⟩ => ?_⟩
  subst e
  have e3 := q vs hq
  rw [e1] at e3
  cases e3
  exact ⟨e2.mono l.same, ok, Lat.refl _ _⟩
theorem walks_s {z : Str} {M0 : Mp} {H0 : Hp} : Walks K (Its z) (signs z) M0 H0 := fun i M H ok l => by
  refine ⟨fun x hx => ?_, fun e => ?_⟩
  · unfold signs at hx
    rw [List.getElem?_map] at hx
    cases q : z.cps.toList[i]? with
    | none => rw [q] at hx; cases hx
    | some c =>
      rw [q] at hx
      cases hx
      have hi : i < z.cps.size := by
        have := (List.getElem?_eq_some_iff.mp q).1
        simpa using this
      refine ⟨hi, fun y H' ⟨e, c', hc, ey⟩ => ?_⟩
      subst e
      subst ey
      have e2 : z.cps.toList[i]? = some c' := by simpa using hc
      rw [q] at e2
      cases e2
      exact ⟨.str _, ok, Lat.refl _ _⟩
  · subst e
    show z.cps.size ≤ _
    unfold signs
    simp
theorem walks_r {lo : Int} {n : Nat} {M0 : Mp} {H0 : Hp} : Walks K (Itr lo n) ((List.range n).map fun i => D.int (lo + (i : Nat))) M0 H0 := fun i M H ok l => by
  refine ⟨fun x hx => ?_, fun e => ?_⟩
  · rw [List.getElem?_map] at hx
    cases q : (List.range n)[i]? with
    | none => rw [q] at hx; cases hx
    | some c =>
      rw [q] at hx
      obtain ⟨h1, h2⟩ := List.getElem?_eq_some_iff.mp q
      rw [List.getElem_range] at h2
      subst h2
      cases hx
      rw [List.length_range] at h1
      refine ⟨h1, fun y H' ⟨e, ey⟩ => ?_⟩
      subst e
      subst ey
      exact ⟨.int _, ok, Lat.refl _ _⟩
  · show n ≤ i
    rw [List.length_map, List.length_range] at e
    omega
theorem walks_e {a : Addr} {vs : List V} {xs : List D} {M0 : Mp} {H0 : Hp} (h : SqL K (hid M0 H0) a vs) (d : Dts K (hid M0 H0) vs xs) : Walks K (Ite K a) (enumL 0 xs) M0 H0 := fun i M H ok l => by
  have hq : SqL K H a vs := Same.seq hid_sub (Same.seq l.same h)
  refine ⟨fun x hx => ?_, fun e => ⟨vs, hq, by rw [enumL_len] at e; rw [d.length]; omega⟩⟩
  rw [enumL_get] at hx
  cases q : xs[i]? with
  | none => rw [q] at hx; cases hx
  | some x' =>
    rw [q] at hx
    cases hx
    obtain ⟨v, e1, e2⟩ := d.get q
    refine ⟨⟨vs, v, hq, e1⟩, fun y H' ⟨T, z, ey, nT, eH, hz⟩ => ?_⟩
    subst ey
    subst eH
    have e3 := hz vs hq
    rw [e1] at e3
    cases e3
    obtain ⟨ok2, l2⟩ := ok.lay (p := T) (o := .tup [.int (i : Nat), v]) nT
    refine ⟨.tup (xs := [.int (i : Nat), v]) (.inl (.inl ?_)) (.cons ?_ (.cons ((e2.mono l.same).mono l2.same) .nil)), ok2, l2⟩
    · rw [hid_of (ok.free nT)]
      exact upd_same
    · rw [Nat.zero_add]
      exact .int _
theorem walks_z {a b : Addr} {vs ws : List V} {xs ys : List D} {M0 : Mp} {H0 : Hp} (h : SqL K (hid M0 H0) a vs) (d : Dts K (hid M0 H0) vs xs) (h' : SqL K (hid M0 H0) b ws) (d' : Dts K (hid M0 H0) ws ys) : Walks K (Itz K a b) (zipL xs ys) M0 H0 := fun i M H ok l => by
  have hq : SqL K H a vs := Same.seq hid_sub (Same.seq l.same h)
  have hq' : SqL K H b ws := Same.seq hid_sub (Same.seq l.same h')
  refine ⟨fun x hx => ?_, fun e => ⟨vs, ws, hq, hq', by rw [zipL_len] at e; rw [d.length, d'.length]; omega⟩⟩
  obtain ⟨x1, y1, g1, g2, rfl⟩ := zipL_get _ _ _ _ hx
  obtain ⟨v, e1, e2⟩ := d.get g1
  obtain ⟨w, f1, f2⟩ := d'.get g2
  refine ⟨⟨vs, ws, v, w, hq, hq', e1, f1⟩, fun y H' ⟨T, z, z', ey, nT, eH, hz, hz'⟩ => ?_⟩
  subst ey
  subst eH
  have e3 := hz vs hq
  rw [e1] at e3
  cases e3
  have e4 := hz' ws hq'
  rw [f1] at e4
  cases e4
  obtain ⟨ok2, l2⟩ := ok.lay (p := T) (o := .tup [v, w]) nT
  refine ⟨.tup (.inl (.inl ?_)) (.cons ((e2.mono l.same).mono l2.same) (.cons ((f2.mono l.same).mono l2.same) .nil)), ok2, l2⟩
  rw [hid_of (ok.free nT)]
  exact upd_same
end

section
variable {X : Cx} {tg e e2 : Expr} {T : TEd} {U : TAd} {p pos tpos : Pos} {elts : List Expr} {kk : Nat}
theorem di_seq (he : DE X e T) : DI X tg e (seqI T) := ⟨fun pins s σ H R I ⟨ds, M, F, ev, ok, h, af⟩ =>
  thn (he.run pins s σ H (fun x H1 => (∃ a, x = .ref a ∧ (∃ xs, SqL X.K H1 a xs) ∧ R (Itl X.K a) H1) ∨ (∃ a, x = .ref a ∧ (∃ xs, SqT X.K H1 a xs) ∧ R (Itt X.K a) H1) ∨ ∃ z, x = .str z ∧ R (Its z) H1) I
      ⟨ds, M, _, ev, ok, h, fun d M1 h1 v H1 ok1 dt l1 => by
        cases dt with
        | lst q dd => exact .inl ⟨_, rfl, ⟨_, .inl (.inl (hid_sub _ _ q))⟩, af _ M1 h1 H1 _ ok1 l1 (walks_l (.inl (.inl q)) dd)⟩
        | slst q dd => exact .inl ⟨_, rfl, ⟨_, Same.seq hid_sub q⟩, af _ M1 h1 H1 _ ok1 l1 (walks_l q dd)⟩
        | tup q dd => exact .inr (.inl ⟨_, rfl, ⟨_, sqT_same hid_sub q⟩, af _ M1 h1 H1 _ ok1 l1 (walks_t q dd)⟩)
        | str z => exact .inr (.inr ⟨z, rfl, af _ M1 h1 H1 _ ok1 l1 walks_s⟩)
        | _ => exact h1.elim⟩) fun v s1 ⟨x, H1, I1, r1, q1⟩ => by
    rcases q1 with ⟨a, rfl, ⟨xs, hq⟩, q⟩ | ⟨a, rfl, ⟨xs, hq⟩, q⟩ | ⟨z, rfl, q⟩
    · cases r1
      obtain ⟨its, rv, pl, hz⟩ := I1.list hq
      exact wpAny_pyIter_list pl.isList (pi_one (tk := s1.toks) I1 _ (turn_list a _) ⟨_, Heap.get?_push_size _ rfl, rfl, rfl⟩ q)
    · cases r1
      obtain ⟨its, rv, pl, hz⟩ := I1.tuple hq
      exact wpAny_pyIter_tuple (show s1.heap.IsTuple a its.toArray from pl) (pi_one (tk := s1.toks) I1 _ (turn_tuple a _) ⟨_, Heap.get?_push_size _ rfl, rfl, rfl⟩ q)
    · obtain ⟨t, rfl⟩ := r1
      cases ha : z.cps.all (· < 128)
      · exact wpAny_pyIter_wide ha (pi_one (tk := s1.toks) I1 _ (turn_str _ z t "str_iterator" (.inr rfl)) ⟨_, Heap.get?_push_size _ rfl, rfl, rfl⟩ q)
      · exact wpAny_pyIter_ascii ha (pi_one (tk := s1.toks) I1 _ (turn_str _ z t "str_ascii_iterator" (.inl rfl)) ⟨_, Heap.get?_push_size _ rfl, rfl, rfl⟩ q)⟩
theorem di_rng1 (hg : Gl X "range") (hm : X.mg "range" = none) (ha : DA X [e] U) (hs : starEach [e] X.env = [(false, eval e X.env)] := by rfl) : DI X tg (.Call (.Name "range" p) [e] [] pos) (rngI U) := (pi_range1 hg hm ha hs).fimp fun σ H R ⟨ds, M, F, ev, ok, h, af⟩ =>
  ⟨ds, M, _, ev, ok, h, fun xs M1 h1 vs H1 ok1 dts l1 => by
    split at h1
    · next n =>
      cases dts with
      | cons d1 d2 =>
        cases d2
        cases d1
        refine ⟨n, rfl, by omega, by omega, af _ M1 h1.2 H1 _ ok1 l1 ?_⟩
        have := walks_r (K := X.K) (lo := 0) (n := n.toNat) (M0 := M1) (H0 := H1)
        simpa using this
    · exact h1.elim⟩
theorem di_rng2 (hg : Gl X "range") (hm : X.mg "range" = none) (ha : DA X [e, e2] U) (hs : starEach [e, e2] X.env = [(false, eval e X.env), (false, eval e2 X.env)] := by rfl) (hs2 : starEach [e2] X.env = [(false, eval e2 X.env)] := by rfl) :
    DI X tg (.Call (.Name "range" p) [e, e2] [] pos) (rng2I U) := (pi_range2 hg hm ha hs hs2).fimp fun σ H R ⟨ds, M, F, ev, ok, h, af⟩ =>
  ⟨ds, M, _, ev, ok, h, fun xs M1 h1 vs H1 ok1 dts l1 => by
    split at h1
    · next n m =>
      cases dts with
      | cons d1 d2 =>
        cases d2 with
        | cons d2 d3 =>
          cases d3
          cases d1
          cases d2
          exact ⟨n, m, rfl, ⟨by omega, by omega, by omega, by omega⟩, af _ M1 h1.2 H1 _ ok1 l1 walks_r⟩
    · exact h1.elim⟩
theorem di_enum (hg : Gl X "enumerate") (hm : X.mg "enumerate" = none) (ha : DA X [e] U) (hs : starEach [e] X.env = [(false, eval e X.env)] := by rfl) : DI X (.Tuple elts kk tpos) (.Call (.Name "enumerate" p) [e] [] pos) (enumI U) := (pi_enum hg hm ha hs).fimp fun σ H R ⟨ds, M, F, ev, ok, h, af⟩ =>
  ⟨ds, M, _, ev, ok, h, fun xs M1 h1 vs H1 ok1 dts l1 => by
    split at h1
    · cases dts with
      | cons d1 d2 =>
        cases d2
        cases d1 with
        | lst q dd => exact ⟨_, _, rfl, .inl (.inl (hid_sub _ _ q)), af _ M1 h1 H1 _ ok1 l1 (walks_e (.inl (.inl q)) dd)⟩
    · cases dts with
      | cons d1 d2 =>
        cases d2
        cases d1 with
        | slst q dd => exact ⟨_, _, rfl, Same.seq hid_sub q, af _ M1 h1 H1 _ ok1 l1 (walks_e q dd)⟩
    · exact h1.elim⟩
theorem di_zip (hg : Gl X "zip") (hm : X.mg "zip" = none) (ha : DA X [e, e2] U) (hs : starEach [e, e2] X.env = (false, eval e X.env) :: starEach [e2] X.env := by rfl) (hpl : (backTo pos (starEach [e2] X.env)).any (·.1) = false := by rfl) :
    DI X (.Tuple elts kk tpos) (.Call (.Name "zip" p) [e, e2] [] pos) (zipI U) := (pi_zip hg hm ha hs hpl).fimp fun σ H R ⟨ds, M, F, ev, ok, h, af⟩ =>
  ⟨ds, M, _, ev, ok, h, fun xs M1 h1 vs H1 ok1 dts l1 => by
    split at h1
    · cases dts with
      | cons d1 d2 =>
        cases d2 with
        | cons d2 d3 =>
          cases d3
          cases d1 with
          | lst q dd =>
            cases d2 with
            | lst q' dd' => exact ⟨_, _, _, _, rfl, .inl (.inl (hid_sub _ _ q)), .inl (.inl (hid_sub _ _ q')), af _ M1 h1 H1 _ ok1 l1 (walks_z (.inl (.inl q)) dd (.inl (.inl q')) dd')⟩
    · exact h1.elim⟩
end

/-! list comprehensions -/
def wipeD (ds : Ds) : List Nat → Ds
  | [] => ds
  | v :: vs => (wipeD ds vs).set v none
def yesD : TTd := fun _ M F => F true M
def lcD (T : TId) (t : Tg) (C : TTd) (E : TEd) (vs : List Nat) : TEd := fun ds M F => T ds M fun xs M1 => ∀ L, M1 L = none → ∃ W : Nat → List D → Mp → Prop, W 0 [] (updM M1 L (.lst [])) ∧
  (∀ i d acc M', xs[i]? = some d → W i acc M' → acc.length < 1000000 ∧ gD t d (wipeD ds vs) fun ds2 => C ds2 M' fun b M2 => br b
    (E ds2 M2 fun y M3 => M3 L = some (.lst acc) ∧ W (i + 1) (acc ++ [y]) (updM M3 L (.lst (acc ++ [y]))))
    (W (i + 1) acc M2)) ∧ ∀ acc M', W xs.length acc M' → M' L = some (.lst acc) ∧ F (.lst acc) (delM M' L)
theorem env_wipe {K : PySem.W.Frag} {M : Mp} {H : Hp} {σ : L2.St} {ds : Ds} (h : Env K M H σ ds) : ∀ vs : List Nat, Env K M H (wipe σ vs) (wipeD ds vs)
  | [] => h
  | v :: vs => by
    have ih := env_wipe h vs
    unfold wipe wipeD
    refine ⟨by rw [List.length_set, List.length_set]; exact ih.1, fun j u hj => ?_⟩
    rw [List.getElem?_set] at hj
    rw [List.getElem?_set]
    by_cases q : v = j
    · rw [if_pos q] at hj
      split at hj <;> cases hj
    · rw [if_neg q] at hj
      rw [if_neg q]
      exact ih.2 j u hj
abbrev DTs (X : Cx) (ifs : List Expr) (C : TTd) : Prop := PTs X ifs (embT X.K C)
theorem dts_nil {X : Cx} : DTs X [] yesD := ⟨fun pins s σ H Q I ⟨ds, M, F, ev, ok, h, af⟩ => pts_nil.run pins s σ H Q I (af _ _ h _ ok (Lat.refl _ _))⟩
theorem dts_one {X : Cx} {c : Expr} {C : TTd} (h : DT X c C) : DTs X [c] C := pts_one h

theorem emb_lc {K : PySem.W.Frag} {T : TId} {t : Tg} {C : TTd} {E : TEd} {vs : List Nat} (hv : ∀ j ∈ slots t, j ∈ vs) : ∀ σ H Q, emb K (lcD T t C E vs) σ H Q → tLc (embI K T) (gV K t) (embT K C) (emb K E) vs σ H Q := fun σ H Q ⟨ds, M, F, ev, ok, h, af⟩ =>
  ⟨ds, M, _, ev, ok, h, fun xs M1 h1 H1 J ok1 l1 wk L hL => by
    obtain ⟨W, w0, wt, wd⟩ := h1 L (ok1.free hL)
    obtain ⟨ok2, l2⟩ := ok1.put (p := L) (o := .lst []) (m := .lst []) (.inr hL) ⟨[], upd_same, .nil⟩
    refine ⟨fun i m H' => m = xs.length - i ∧ i ≤ xs.length ∧ ∃ acc M', W i acc M' ∧ HpOk K M' H' ∧ Lat M1 H1 M' H', ⟨xs.length, by simp, Nat.zero_le _, [], _, w0, ok2, l2⟩, fun i m H' ⟨em, hi, acc, M', w', ok', l'⟩ => ?_⟩
    obtain ⟨wgo, wstop⟩ := wk i M' H' ok' l'
    by_cases hlt : i < xs.length
    · obtain ⟨go, yl⟩ := wgo xs[i] (by simp [hlt])
      obtain ⟨hz, wt'⟩ := wt i xs[i] acc M' (by simp [hlt]) w'
      refine .inr ⟨go, fun H2 => ∃ acc2 M2, W (i + 1) acc2 M2 ∧ HpOk K M2 H2 ∧ Lat M1 H1 M2 H2, fun H2 ⟨acc2, M2, w2, ok2, l2⟩ => ⟨xs.length - (i + 1), by omega, rfl, hlt, acc2, M2, w2, ok2, l2⟩, fun x H2 y => ?_⟩
      obtain ⟨dt, ok3, l3⟩ := yl x H2 y
      have lt : Lat M1 H1 M' H2 := l'.trans l3
      refine gD_ok t dt (env_wipe (ev.mono (l1.trans lt)) vs) wt' fun ds3 σ3 f3 ev3 hw => ⟨?_, ds3, M', _, ev3, ok3, f3, fun b M3 h3 H3 ok4 l4 => ?_⟩
      · rw [hw vs hv]
        clear hw f3 ev3 dt y yl
        have : ∀ ws : List Nat, (∀ j ∈ ws, j ∈ vs) → wipe (wipe σ vs) ws = wipe σ vs := by
          intro ws
          induction ws with
          | nil => intro _; rfl
          | cons w ws ih =>
            intro hsub
            show (wipe (wipe σ vs) ws).set w none = wipe σ vs
            rw [ih fun j hj => hsub j (List.mem_cons_of_mem _ hj)]
            have hwm := hsub w List.mem_cons_self
            have key : ∀ us : List Nat, w ∈ us → (wipe σ us).set w none = wipe σ us := by
              intro us
              induction us with
              | nil => intro z; cases z
              | cons u us ih2 =>
                intro hu
                unfold wipe
                by_cases e : w = u
                · subst e
                  rw [List.set_set]
                · rw [List.set_comm _ _ (Ne.symm e), ih2 ((List.mem_cons.mp hu).resolve_left e)]
            exact key vs hwm
        exact this vs fun _ z => z
      · cases b with
        | true =>
          refine iteT ⟨ds3, M3, _, ev3.mono l4, ok4, h3, fun y M4 ⟨eL, w4⟩ v H4 ok5 dt5 l5 => ?_⟩
          obtain ⟨av, e1, e2⟩ := ok5 _ _ eL
          obtain ⟨ok6, l6⟩ := ok5.put (p := L) (o := .lst (av ++ [v])) (m := .lst (acc ++ [y])) (.inl (by rw [eL]; simp)) ⟨av ++ [v], upd_same, by
            have q : Same (hid M4 H4) (hid (updM M4 L (.lst (acc ++ [y]))) (upd H4 L (.lst (av ++ [v])))) := fun b o hb => by
              obtain ⟨n, e⟩ := hid_some hb
              have nb : b ≠ L := fun z => by rw [z, eL] at n; cases n
              rw [hid_of (by rw [updM_ne nb]; exact n), upd_ne nb]
              exact e
            exact (e2.append (.cons dt5 .nil)).mono q⟩
          exact ⟨av, e1, by rw [e2.length]; exact big_lt hz, _, _, w4, ok6, ((lt.trans l4).trans l5).trans l6⟩
        | false => exact iteF ⟨acc, M3, h3, ok4, lt.trans l4⟩
    · have e : i = xs.length := by omega
      subst e
      obtain ⟨eL, f⟩ := wd _ _ w'
      obtain ⟨av, e1, e2⟩ := ok' _ _ eL
      obtain ⟨ok3, l3⟩ := ok'.frz L
      refine .inl ⟨wstop rfl, af _ _ f _ _ ok3 (.lst ?_ (e2.mono l3.same)) ((l1.trans l').trans l3)⟩
      rw [hid_of delM_same]
      exact e1⟩
section
variable {X : Cx} {elt tg iter : Expr} {ifs : List Expr} {scope : Scope} {own : List (Str × Nat)} {pos : Pos} {T : TId} {t : Tg} {C : TTd} {E : TEd}
theorem de_lc (vs : List Nat) (hc : X.calm = true) (hN : X.N.Nodup) (hi : DI X tg iter T) (ok : BlkOk X.N X.env.scope scope own) (hv : ∀ j ∈ slots t, j ∈ own.map (·.2))
    (hg : ∀ (s : Shared) (H : Hp) (Ca : Addr) (cl : List (Str × Addr)) (fp : List Addr), PG (X.blk s H scope (compEnvC scope cl Ca X.env) fp) tg (gV X.K t)) (ht : ∀ (s : Shared) (H : Hp) (Ca : Addr) (cl : List (Str × Addr)) (fp : List Addr), DTs (X.blk s H scope (compEnvC scope cl Ca X.env) fp) ifs C)
    (he : ∀ (s : Shared) (H : Hp) (Ca : Addr) (cl : List (Str × Addr)) (fp : List Addr), DE (X.blk s H scope (compEnvC scope cl Ca X.env) fp) elt E) (hs : ∀ x, foldedSetIterable iter X.env x = pure x := by intro _; rfl) (hvs : own.map (·.2) = vs := by rfl) :
    DE X (.ListComp elt [⟨tg, iter, ifs, 0⟩] scope pos) (lcD T t C E vs) := by
  subst hvs
  exact (pe_lc hc hN hi ok hg ht he hs).fimp (emb_lc hv)
theorem ds_setLc {y : Str} {py spos : Pos} (vs : List Nat) (i : Nat) (hc : X.calm = true) (hN : X.N.Nodup) (hi : DI X tg iter T) (ok : BlkOk X.N X.env.scope scope own) (hv : ∀ j ∈ slots t, j ∈ own.map (·.2))
    (hg : ∀ (s : Shared) (H : Hp) (Ca : Addr) (cl : List (Str × Addr)) (fp : List Addr), PG (X.blk s H scope (compEnvC scope cl Ca X.env) fp) tg (gV X.K t)) (ht : ∀ (s : Shared) (H : Hp) (Ca : Addr) (cl : List (Str × Addr)) (fp : List Addr), DTs (X.blk s H scope (compEnvC scope cl Ca X.env) fp) ifs C)
    (he : ∀ (s : Shared) (H : Hp) (Ca : Addr) (cl : List (Str × Addr)) (fp : List Addr), DE (X.blk s H scope (compEnvC scope cl Ca X.env) fp) elt E) (hsw : swapsWith (.ListComp elt [⟨tg, iter, ifs, 0⟩] scope pos) (some (.Name y py)) spos.line X.env = pure true) (hy : X.N[i]? = some y := by rfl) (hyl : X.env.scope.names.lookup y = some .local := by rfl)
    (hs : ∀ x, foldedSetIterable iter X.env x = pure x := by intro _; rfl) (hvs : own.map (·.2) = vs := by rfl) :
    DS X (.Assign [.Name y py] (.ListComp elt [⟨tg, iter, ifs, 0⟩] scope pos) spos) (asgD (lcD T t C E vs) (.nm i)) := by
  subst hvs
  exact (ps_setLc hc hN hy hyl hsw hi ok hg ht he hs).fimp fun Z σ H ⟨ds, M, B, ev, ok, h, a⟩ => emb_lc hv σ H _ ⟨ds, M, _, ev, ok, h, fun d M1 h1 v H1 ok1 dt l1 => a.nx _ _ h1 _ _ ((ev.mono l1).set i dt) ok1 l1⟩
end
mutual
theorem gD_mono : ∀ (t : Tg) {d : D} {ds : Ds} {F F' : Ds → Prop}, (∀ x, F x → F' x) → gD t d ds F → gD t d ds F'
  | .nm j, d, ds, F, F', h, g => by
    unfold gD at g ⊢
    exact h _ g
  | .tp ts, .tup xs, ds, F, F', h, g => by
    unfold gD at g ⊢
    exact gsD_mono ts h g
  | .tp ts, .non, ds, F, F', h, g => by unfold gD at g; exact g.elim
  | .tp ts, .bl _, ds, F, F', h, g => by unfold gD at g; exact g.elim
  | .tp ts, .int _, ds, F, F', h, g => by unfold gD at g; exact g.elim
  | .tp ts, .str _, ds, F, F', h, g => by unfold gD at g; exact g.elim
  | .tp ts, .lst _, ds, F, F', h, g => by unfold gD at g; exact g.elim
  | .tp ts, .slst _, ds, F, F', h, g => by unfold gD at g; exact g.elim
  | .tp ts, .dic _, ds, F, F', h, g => by unfold gD at g; exact g.elim
  | .tp ts, .ref _, ds, F, F', h, g => by unfold gD at g; exact g.elim
  | .tp ts, .ty _, ds, F, F', h, g => by unfold gD at g; exact g.elim
  | .tp ts, .dtp _ _, ds, F, F', h, g => by unfold gD at g; exact g.elim
  | .tp ts, .obj _ _ _, ds, F, F', h, g => by unfold gD at g; exact g.elim
theorem gsD_mono : ∀ (ts : List Tg) {xs : List D} {ds : Ds} {F F' : Ds → Prop}, (∀ x, F x → F' x) → gsD ts xs ds F → gsD ts xs ds F'
  | [], [], ds, F, F', h, g => by
    unfold gsD at g ⊢
    exact h _ g
  | [], _ :: _, _, _, _, _, g => by unfold gsD at g; exact g.elim
  | _ :: _, [], _, _, _, _, g => by unfold gsD at g; exact g.elim
  | t :: ts, x :: xs, ds, F, F', h, g => by
    unfold gsD at g ⊢
    exact gD_mono t (fun ds1 g1 => gsD_mono ts h g1) g
end
/-- where neither the test nor the element changes anything -/
theorem lc_pure {T : TId} {t : Tg} {C : TTd} {E : TEd} {vs : List Nat} {ds : Ds} {M : Mp} {F : DK} {xs : List D} (keep : D → Bool) (v : D → D) (hl : xs.length ≤ 1000000) (hT : ∀ G : List D → Mp → Prop, G xs M → T ds M G)
    (he : ∀ d ∈ xs, gD t d (wipeD ds vs) fun ds2 => (∀ M' (G : Bool → Mp → Prop), G (keep d) M' → C ds2 M' G) ∧ (keep d = true → ∀ M' (G : DK), G (v d) M' → E ds2 M' G))
    (hF : F (.lst ((xs.filter keep).map v)) M) : lcD T t C E vs ds M F := by
  refine hT _ fun L hL => ⟨fun i acc M' => acc = ((xs.take i).filter keep).map v ∧ M' = updM M L (.lst acc), ⟨rfl, rfl⟩, fun i d acc M' hd ⟨e1, e2⟩ => ?_, fun acc M' ⟨e1, e2⟩ => ?_⟩
  · have hi : i < xs.length := (List.getElem?_eq_some_iff.mp hd).1
    have hlen : acc.length < 1000000 := by
      rw [e1, List.length_map]
      have h1 := List.length_filter_le keep (xs.take i)
      have h2 : (xs.take i).length ≤ i := by rw [List.length_take]; exact Nat.min_le_left _ _
      omega
    refine ⟨hlen, gD_mono t (fun ds2 ⟨hc, hE⟩ => hc M' _ ?_) (he d (List.mem_of_getElem? hd))⟩
    have et : xs.take (i + 1) = xs.take i ++ [d] := by rw [List.take_add_one, hd]; rfl
    cases hk : keep d with
    | true =>
      refine hE hk M' _ ⟨by rw [e2]; exact updM_same, ?_, ?_⟩
      · rw [et, List.filter_append, List.map_append, ← e1, List.filter_cons, if_pos hk]
        rfl
      · rw [e2]
        funext b
        unfold updM
        split <;> rfl
    | false =>
      refine ⟨?_, e2⟩
      rw [et, List.filter_append, List.map_append, ← e1, List.filter_cons, if_neg (by rw [hk]; decide)]
      show _ = _ ++ []
      rw [List.append_nil]
  · rw [List.take_length] at e1
    refine ⟨by rw [e2]; exact updM_same, ?_⟩
    have em : delM M' L = M := by
      rw [e2]
      funext b
      unfold delM updM
      by_cases z : b = L
      · rw [if_pos z, z, hL]
      · rw [if_neg z, if_neg z]
    rw [em, e1]
    exact hF
end Fx

namespace Fx
open PySem PySem.Spec PyProof.Rows L2
variable [Grd]

/-! dicts by keys -/
def valD (kvs : List (Key × D)) (k : Key) : Option D := (kvs.find? fun kv => decide (kv.1 = k)).map (·.2)
def putD (kvs : List (Key × D)) (k : Key) (v : D) : List (Key × D) :=
  if (kvs.any fun kv => decide (kv.1 = k)) = true then kvs.map (fun kv => if kv.1 = k then (kv.1, v) else kv) else kvs ++ [(k, v)]
section
variable {K : PySem.W.Frag} {G : Hp}
theorem Dtk.val : ∀ {xs : List (Key × V)} {ds : List (Key × D)} {k : Key} {d : D}, Dtk K G xs ds → valD ds k = some d → ∃ v, valV xs k = some v ∧ Dt K G v d
  | _, _, _, _, .nil, e => by simp [valD] at e
  | _, _, k, d, .cons (k := k') (v := v) (d := d') h1 h2, e => by
    unfold valD at e
    unfold valV
    rw [List.find?_cons] at e ⊢
    by_cases q : k' = k
    · simp only [q, decide_true] at e ⊢
      cases e
      exact ⟨v, rfl, h1⟩
    · simp only [q, decide_false] at e ⊢
      exact Dtk.val h2 e
theorem Dtk.any : ∀ {xs : List (Key × V)} {ds : List (Key × D)} {k : Key}, Dtk K G xs ds → (xs.any fun kv => decide (kv.1 = k)) = (ds.any fun kv => decide (kv.1 = k))
  | _, _, _, .nil => rfl
  | _, _, k, .cons h1 h2 => by
    rw [List.any_cons, List.any_cons, Dtk.any h2]
theorem Dtk.map : ∀ {xs : List (Key × V)} {ds : List (Key × D)} {k : Key} {v : V} {d : D}, Dtk K G xs ds → Dt K G v d → Dtk K G (xs.map fun kv => if kv.1 = k then (kv.1, v) else kv) (ds.map fun kv => if kv.1 = k then (kv.1, d) else kv)
  | _, _, _, _, _, .nil, _ => .nil
  | _, _, k, v, d, .cons (k := k') h1 h2, h => by
    rw [List.map_cons, List.map_cons]
    by_cases q : k' = k
    · simp only [q, if_true]
      exact .cons h (Dtk.map h2 h)
    · simp only [q, if_false]
      exact .cons h1 (Dtk.map h2 h)
theorem Dtk.append : ∀ {xs ys : List (Key × V)} {ds es : List (Key × D)}, Dtk K G xs ds → Dtk K G ys es → Dtk K G (xs ++ ys) (ds ++ es)
  | _, _, _, _, .nil, h => h
  | _, _, _, _, .cons h1 h2, h => .cons h1 (Dtk.append h2 h)
theorem Dtk.put {xs : List (Key × V)} {ds : List (Key × D)} {k : Key} {v : V} {d : D} (h : Dtk K G xs ds) (e : Dt K G v d) : Dtk K G (putK xs k v) (putD ds k d) := by
  unfold putK putD
  rw [h.any]
  split
  · exact h.map e
  · exact h.append (.cons e .nil)
theorem Dtk.length : ∀ {xs : List (Key × V)} {ds : List (Key × D)}, Dtk K G xs ds → xs.length = ds.length
  | _, _, .nil => rfl
  | _, _, .cons _ h2 => by rw [List.length_cons, List.length_cons, h2.length]
end

/-! e[i] -/
def atD (xs : List D) (i : Int) (F : D → Prop) : Prop := match atI xs i with
  | some d => F d
  | none => False
def keyD (kvs : List (Key × D)) (k : Key) (F : D → Prop) : Prop := match valD kvs k with
  | some d => F d
  | none => False
def ixR : R2d
  | .lst xs, .int i, M, F => atD xs i fun d => F d M
  | .tup xs, .int i, M, F => atD xs i fun d => F d M
  | .str z, .int i, M, F => z.length ≤ 1000000 ∧ match atI z.cps.toList i with
    | some c => F (.str ⟨#[c]⟩) M
    | none => False
  | .ref a, .int i, M, F => match M a with
    | some (.lst xs) => atD xs i fun d => F d M
    | _ => False
  | .ref a, .str k, M, F => match M a with
    | some (.dic kvs) => keyD kvs (.inr k) fun d => F d M
    | _ => False
  | _, _, _, _ => False
theorem Dts.atI {K : PySem.W.Frag} {G : Hp} {vs : List V} {ds : List D} {i : Int} {d : D} (h : Dts K G vs ds) (e : atI ds i = some d) : ∃ v, L2.atI vs i = some v ∧ Dt K G v d := by
  unfold L2.atI at e ⊢
  rw [h.length]
  cases q : ixN ds.length i with
  | none => rw [q] at e; cases e
  | some j =>
    rw [q] at e
    exact h.get e
section
variable {X : Cx}
theorem ix_dict (hu : X.A.units + 1 < cLine) : IxR X (fun x y H Q => ∃ a v, x = .ref a ∧ DGet H a y (some v) ∧ Q v H) := by
  intro value slice pins s σ H x y v u Q I rx ry h hs
  obtain ⟨a, z, rfl, g, q⟩ := h
  cases rx
  exact tail_any (dict_typeIs I g) PySem.F.slot_dict_getitem.lookup (d_getItem hu I g ry fun w' s3 I3 r3 => ⟨z, H, I3, r3, q⟩) hs
theorem or_ix (hu : X.A.units + 1 < cLine) : IxR X (up2 X.K ixR) := by
  intro value slice pins s σ H x y v u Q I rx ry h hs
  obtain ⟨a, b, M, F, da, db, ok, h, af⟩ := h
  cases da <;> cases db <;> first | exact h.elim | skip
  · next z i =>
    obtain ⟨hz, h⟩ := h
    split at h
    · next c e => exact ix_str value slice pins s σ H _ _ v u Q I rx ry ⟨z, i, c, rfl, rfl, big_le hz, e, af _ _ h _ _ ok (.str _) (Lat.refl _ _)⟩ hs
    · exact h.elim
  · next h1 d1 i =>
    replace h : atD _ _ _ := h
    unfold atD at h
    split at h
    · next e =>
      obtain ⟨w, e1, e2⟩ := d1.atI e
      exact ix_list value slice pins s σ H _ _ v u Q I rx ry ⟨_, _, _, w, rfl, rfl, .inl (.inl (hid_sub _ _ h1)), e1, af _ _ h _ _ ok e2 (Lat.refl _ _)⟩ hs
    · exact h.elim
  · next h1 d1 i =>
    replace h : atD _ _ _ := h
    unfold atD at h
    split at h
    · next e =>
      obtain ⟨w, e1, e2⟩ := d1.atI e
      exact ix_tup value slice pins s σ H _ _ v u Q I rx ry ⟨_, _, _, w, rfl, rfl, sqT_same hid_sub h1, e1, af _ _ h _ _ ok e2 (Lat.refl _ _)⟩ hs
    · exact h.elim
  · next a i =>
    simp only [ixR] at h
    split at h
    · next e =>
      obtain ⟨ys, e1, d1⟩ := ok _ _ e
      unfold atD at h
      split at h
      · next e3 =>
        obtain ⟨w, e4, e5⟩ := d1.atI e3
        exact ix_list value slice pins s σ H _ _ v u Q I rx ry ⟨_, _, _, w, rfl, rfl, .inl (.inl e1), e4, af _ _ h _ _ ok e5 (Lat.refl _ _)⟩ hs
      · exact h.elim
    · exact h.elim
  · next a k =>
    simp only [ixR] at h
    split at h
    · next e =>
      obtain ⟨ys, e1, d1⟩ := ok _ _ e
      unfold keyD at h
      split at h
      · next e3 =>
        obtain ⟨w, e4, e5⟩ := d1.val e3
        exact ix_dict hu value slice pins s σ H _ _ v u Q I rx ry ⟨a, w, rfl, by
          have g := DGet.k (k := .inr k) e1
          rw [e4] at g
          exact g, af _ _ h _ _ ok e5 (Lat.refl _ _)⟩ hs
      · exact h.elim
    · exact h.elim
end

/-! slices -/
def cutL {α : Type} (xs : List α) (lo hi : Option Int) : List α := (xs.drop (HT.sIx xs.length 0 lo)).take (HT.sIx xs.length xs.length hi - HT.sIx xs.length 0 lo)
theorem Dts.cut {K : PySem.W.Frag} {G : Hp} {vs : List V} {ds : List D} (lo hi : Option Int) (h : Dts K G vs ds) : Dts K G (cutV vs lo hi) (cutL ds lo hi) := by
  unfold cutV cutL
  rw [h.length]
  exact (h.drop _).take _
abbrev TOd := Ds → Mp → (Option Int → Mp → Prop) → Prop
def noO : TOd := fun _ M F => F none M
def someO (T : TEd) : TOd := fun ds M F => T ds M fun d M1 => match d with
  | .int i => F (some i) M1
  | _ => False
def slR : D → Option Int → Option Int → Mp → DK → Prop
  | .lst xs, lo, hi, M, F => F (.lst (cutL xs lo hi)) M
  | .slst xs, lo, hi, M, F => F (.lst (cutL xs lo hi)) M
  | .tup xs, lo, hi, M, F => F (.tup (cutL xs lo hi)) M
  | .str z, lo, hi, M, F => z.length ≤ 1000000 ∧ F (.str (cutS z lo hi)) M
  | _, _, _, _, _ => False
def sliD (T : TEd) (A B : TOd) : TEd := fun ds M F => T ds M fun d M1 => A ds M1 fun lo M2 => B ds M2 fun hi M3 => slR d lo hi M3 F
def embO (K : PySem.W.Frag) (T : TOd) : TO := fun σ H Q => ∃ ds M F, Env K M H σ ds ∧ HpOk K M H ∧ T ds M F ∧ ∀ b M', F b M' → ∀ H', HpOk K M' H' → Lat M H M' H' → Q b H'
abbrev DO (X : Cx) (e : Option Expr) (T : TOd) : Prop := PO X e (embO X.K T)
section
variable {X : Cx} {e : Expr} {lo hi : Option Expr} {T : TEd} {A B : TOd} {p2 pos : Pos}
theorem do_none : DO X none noO := ⟨fun pins s σ H Q I ⟨ds, M, F, ev, ok, h, af⟩ => po_none.run pins s σ H Q I (af _ _ h _ ok (Lat.refl _ _))⟩
theorem do_some (h : DE X e T) : DO X (some e) (someO T) := ⟨fun pins s σ H Q I ⟨ds, M, F, ev, ok, hh, af⟩ => (po_some h).run pins s σ H Q I ⟨ds, M, _, ev, ok, hh, fun d M1 h1 v H1 ok1 dt l1 => by
  cases dt with
  | int i => exact ⟨i, rfl, af _ _ h1 _ ok1 l1⟩
  | _ => exact h1.elim⟩⟩
theorem cut_all {α : Type} {xs : List α} {lo hi : Option Int} (h1 : HT.sIx xs.length 0 lo = 0) (h2 : HT.sIx xs.length xs.length hi = xs.length) : cutL xs lo hi = xs := by
  unfold cutL
  rw [h1, h2]
  simp
def rSl (K : PySem.W.Frag) : V → Option Int → Option Int → Hp → VK → Prop := fun x lo hi H Q => ∃ d M F, Dt K (hid M H) x d ∧ HpOk K M H ∧ slR d lo hi M F ∧ AftE K M H F Q
theorem sl_d : SlR X (rSl X.K) := by
  intro pins s σ H x v vl vu lo hi sl Q I rx hs pl pu h
  obtain ⟨d, M, F, dt, ok, h, af⟩ := h
  cases dt with
  | lst h1 d1 => exact sl_list pins s σ H _ v vl vu lo hi sl Q I rx hs pl pu ⟨_, _, rfl, .inl (.inl (hid_sub _ _ h1)), af.layL ok (d1.cut lo hi) h⟩
  | slst h1 d1 => exact sl_list pins s σ H _ v vl vu lo hi sl Q I rx hs pl pu ⟨_, _, rfl, Same.seq hid_sub h1, af.layL ok (d1.cut lo hi) h⟩
  | tup h1 d1 =>
    refine sl_tupA pins s σ H _ v vl vu lo hi sl Q I rx hs pl pu ⟨_, _, rfl, sqT_same hid_sub h1, fun ⟨z1, z2⟩ => ?_, fun _ => af.layT ok (d1.cut lo hi) h⟩
    rw [d1.length] at z1 z2
    have h2 := h
    simp only [slR] at h2
    rw [cut_all z1 z2] at h2
    exact af _ _ h2 _ _ ok (.tup h1 d1) (Lat.refl _ _)
  | str z => exact sl_str pins s σ H _ v vl vu lo hi sl Q I rx hs pl pu ⟨z, rfl, big_le h.1, af _ _ h.2 _ _ ok (.str _) (Lat.refl _ _)⟩
  | _ => exact h.elim
theorem de_sli (he : DE X e T) (ha : DO X lo A) (hb : DO X hi B) : DE X (.Subscript e (.Slice lo hi none p2) pos) (sliD T A B) := (pe_slice sl_d he ha hb).fimp fun σ H Q ⟨ds, M, F, ev, ok, h, af⟩ =>
  ⟨ds, M, _, ev, ok, h, fun d M1 h1 v H1 ok1 dt l1 => ⟨ds, M1, _, ev.mono l1, ok1, h1, fun o M2 h2 H2 ok2 l2 => ⟨ds, M2, _, (ev.mono l1).mono l2, ok2, h2, fun o2 M3 h3 H3 ok3 l3 => ⟨d, M3, F, (dt.mono l2.same).mono l3.same, ok3, h3, af.later ((l1.trans l2).trans l3)⟩⟩⟩⟩
/-- e[::-1] -/
def revD (T : TEd) : TEd := fun ds M F => T ds M fun d M1 => match d with
  | .lst xs => F (.lst xs.reverse) M1
  | .slst xs => F (.lst xs.reverse) M1
  | _ => False
/-- the same, as a list that may change -/
def revM (T : TEd) : TEd := fun ds M F => T ds M fun d M1 => match d with
  | .lst xs => ∀ p, M1 p = none → F (.ref p) (updM M1 p (.lst xs.reverse))
  | _ => False
theorem de_rev {k : Nat} {p1 p2 p3 : Pos} (he : DE X e T) : DE X (.Subscript e (.Slice none none (some (.UnaryOp .USub (.Constant (.int 1) k p1) p2)) p3) pos) (revD T) := (pe_revL he).fimp fun σ H Q ⟨ds, M, F, ev, ok, h, af⟩ =>
  ⟨ds, M, _, ev, ok, h, fun d M1 h1 v H1 ok1 dt l1 => by
    cases dt with
    | lst q dd => exact ⟨_, _, rfl, .inl (.inl (hid_sub _ _ q)), (af.later l1).layL ok1 dd.rev h1⟩
    | slst q dd => exact ⟨_, _, rfl, Same.seq hid_sub q, (af.later l1).layL ok1 dd.rev h1⟩
    | _ => exact h1.elim⟩
theorem AftE.layM {K : PySem.W.Frag} {M : Mp} {H : Hp} {F : DK} {Q : VK} {vs : List V} {xs : List D} (a : AftE K M H F Q) (ok : HpOk K M H) (d : Dts K (hid M H) vs xs) (f : ∀ p, M p = none → F (.ref p) (updM M p (.lst xs))) : ∀ p, H p = none → Q (.ref p) (upd H p (.lst vs)) := fun p np => by
  have e : Same (hid M H) (hid (updM M p (.lst xs)) (upd H p (.lst vs))) := fun b o hb => by
    obtain ⟨n, e⟩ := hid_some hb
    have nb : b ≠ p := ne_of_none e np
    rw [hid_of (by rw [updM_ne nb]; exact n), upd_ne nb]
    exact e
  obtain ⟨ok2, l2⟩ := ok.put (p := p) (o := .lst vs) (m := .lst xs) (.inr np) ⟨vs, upd_same, d.mono e⟩
  exact a _ _ (f p (ok.free np)) _ _ ok2 (.ref p) l2
theorem de_revM {k : Nat} {p1 p2 p3 : Pos} (he : DE X e T) : DE X (.Subscript e (.Slice none none (some (.UnaryOp .USub (.Constant (.int 1) k p1) p2)) p3) pos) (revM T) := (pe_revL he).fimp fun σ H Q ⟨ds, M, F, ev, ok, h, af⟩ =>
  ⟨ds, M, _, ev, ok, h, fun d M1 h1 v H1 ok1 dt l1 => by
    cases dt with
    | lst q dd => exact ⟨_, _, rfl, .inl (.inl (hid_sub _ _ q)), (af.later l1).layM ok1 dd.rev h1⟩
    | _ => exact h1.elim⟩
end

/-! built-in calls -/
abbrev RB := List D → Mp → DK → Prop
def bltD (r : RB) (U : TAd) : TEd := fun ds M F => U ds M fun xs M1 => r xs M1 F
def upC (K : PySem.W.Frag) (r : RB) : List V → Hp → VK → Prop := fun vs H Q => ∃ xs M F, Dts K (hid M H) vs xs ∧ HpOk K M H ∧ r xs M F ∧ AftE K M H F Q
section
variable {X : Cx} {x : Str} {p pos : Pos} {e : Expr} {es : List Expr} {U : TAd} {r : RB} {id T : String}
theorem emb_blt {K : PySem.W.Frag} : ∀ σ H Q, emb K (bltD r U) σ H Q → tCB (upC K r) (embA K U) σ H Q := fun σ H Q ⟨ds, M, F, ev, ok, h, af⟩ =>
  ⟨ds, M, _, ev, ok, h, fun xs M1 h1 vs H1 ok1 dts l1 => ⟨xs, M1, F, dts, ok1, h1, af.later l1⟩⟩
theorem de_blt (hc : CallR X (.builtin id) (upC X.K r)) (hg : Gl X x) (hm : X.mg x = none) (hv : bootBuiltins x = some (.builtin id)) (ha : DA X (e :: es) U) (hn : x ≠ "__name__" := by decide) (hdb : (x == ("__debug__" : Str)) = false := by decide)
    (he : starEach (e :: es) X.env = (false, eval e X.env) :: starEach es X.env := by rfl) (hpl : (backTo pos (starEach es X.env)).any (·.1) = false := by rfl) : DE X (.Call (.Name x p) (e :: es) [] pos) (bltD r U) := (pe_callB hc hg hm hv ha hn hdb he hpl).fimp emb_blt
theorem de_bltTy (hc : CallR X (.type T) (upC X.K r)) (hg : Gl X x) (hm : X.mg x = none) (hv : bootBuiltins x = some (.type T)) (ha : DA X (e :: es) U) (hn : x ≠ "__name__" := by decide) (hdb : (x == ("__debug__" : Str)) = false := by decide)
    (he : starEach (e :: es) X.env = (false, eval e X.env) :: starEach es X.env := by rfl) (hpl : (backTo pos (starEach es X.env)).any (·.1) = false := by rfl) : DE X (.Call (.Name x p) (e :: es) [] pos) (bltD r U) := (pe_callTy hc hg hm hv ha hn hdb he hpl).fimp emb_blt
/-- a built-in class by its name -/
theorem de_ty {n : String} (hg : Gl X x) (hm : X.mg x = none) (hv : bootBuiltins x = some (.type n)) (hn : x ≠ "__name__" := by decide) (hdb : (x == ("__debug__" : Str)) = false := by decide) : DE X (.Name x pos) (cD (.ty n)) := (pe_bltn (v := .ty n) hg hm hv rfl hn hdb).fimp (emb_c fun _ => .ty n)
end
theorem one_of {K : PySem.W.Frag} {G : Hp} {vs : List V} {d : D} (h : Dts K G vs [d]) : ∃ v, vs = [v] ∧ Dt K G v d := by
  cases h with
  | cons h1 h2 => cases h2; exact ⟨_, rfl, h1⟩
theorem two_of {K : PySem.W.Frag} {G : Hp} {vs : List V} {d e : D} (h : Dts K G vs [d, e]) : ∃ v w, vs = [v, w] ∧ Dt K G v d ∧ Dt K G w e := by
  cases h with
  | cons h1 h2 =>
    obtain ⟨w, rfl, h3⟩ := one_of h2
    exact ⟨_, w, rfl, h1, h3⟩
def lenR : RB
  | [.lst xs], M, F => F (.int xs.length) M
  | [.slst xs], M, F => F (.int xs.length) M
  | [.tup xs], M, F => F (.int xs.length) M
  | [.str z], M, F => z.length ≤ 1000000 ∧ F (.int z.length) M
  | [.ref a], M, F => match M a with
    | some (.lst xs) => F (.int xs.length) M
    | _ => False
  | _, _, _ => False
inductive Ty6 where
  | str | tup | int | bool | lst | dict
def Ty6.name : Ty6 → String
  | .str => "str"
  | .tup => "tuple"
  | .int => "int"
  | .bool => "bool"
  | .lst => "list"
  | .dict => "dict"
def isT : Ty6 → D → Option Bool
  | c, .non => some false
  | c, .bl _ => some (match c with | .bool => true | .int => true | _ => false)
  | c, .int _ => some (match c with | .int => true | _ => false)
  | c, .str _ => some (match c with | .str => true | _ => false)
  | c, .tup _ => some (match c with | .tup => true | _ => false)
  | c, .lst _ => some (match c with | .lst => true | _ => false)
  | c, .dic _ => some (match c with | .dict => true | _ => false)
  | _, _ => none
def isiR (c : Ty6) : RB
  | [d, .ty _], M, F => match isT c d with
    | some b => F (.bl b) M
    | none => False
  | _, _, _ => False
def isBl : D → Bool
  | .bl _ => true
  | _ => false
def getBl : D → Bool
  | .bl b => b
  | _ => false
def allR : RB
  | [.lst xs], M, F => xs.all isBl = true ∧ F (.bl (xs.all getBl)) M
  | _, _, _ => False
def anyR : RB
  | [.lst xs], M, F => xs.all isBl = true ∧ F (.bl (xs.any getBl)) M
  | _, _, _ => False
def tupleR : RB
  | [.lst xs], M, F => F (.tup xs) M
  | [.slst xs], M, F => F (.tup xs) M
  | [.tup xs], M, F => F (.tup xs) M
  | [.ref a], M, F => match M a with
    | some (.lst xs) => F (.tup xs) M
    | _ => False
  | _, _, _ => False
def listR : RB
  | [.lst xs], M, F => F (.lst xs) M
  | [.slst xs], M, F => F (.lst xs) M
  | [.tup xs], M, F => F (.lst xs) M
  | [.ref a], M, F => match M a with
    | some (.lst xs) => F (.lst xs) M
    | _ => False
  | _, _, _ => False
def ordR : RB
  | [.str z], M, F => match z.cps.toList with
    | [c] => F (.int (c : Nat)) M
    | _ => False
  | _, _, _ => False
theorem bls_of {K : PySem.W.Frag} {G : Hp} : ∀ {vs : List V} {xs : List D}, Dts K G vs xs → xs.all isBl = true → vs = (xs.map getBl).map V.bl
  | _, _, .nil, _ => rfl
  | _, _, .cons h1 h2, h => by
    rw [List.all_cons, Bool.and_eq_true] at h
    rw [List.map_cons, List.map_cons, ← bls_of h2 h.2]
    cases h1 <;> first | rfl | (exact absurd h.1 (by simp [isBl]))
section
variable {X : Cx}
theorem cb_len : CallR X (.builtin "len") (upC X.K lenR) := by
  intro pins s σ H vs us Q I rv h
  obtain ⟨xs, M, F, dts, ok, h, af⟩ := h
  unfold lenR at h
  split at h
  · obtain ⟨v, rfl, dt⟩ := one_of dts
    cases dt with
    | lst q dd => exact call_len pins s σ H _ us Q I rv ⟨_, _, rfl, .inl ⟨_, .inl (.inl (hid_sub _ _ q)), rfl⟩, by rw [dd.length]; exact af _ _ h _ _ ok (.int _) (Lat.refl _ _)⟩
  · obtain ⟨v, rfl, dt⟩ := one_of dts
    cases dt with
    | slst q dd => exact call_len pins s σ H _ us Q I rv ⟨_, _, rfl, .inl ⟨_, Same.seq hid_sub q, rfl⟩, by rw [dd.length]; exact af _ _ h _ _ ok (.int _) (Lat.refl _ _)⟩
  · obtain ⟨v, rfl, dt⟩ := one_of dts
    cases dt with
    | tup q dd => exact call_len pins s σ H _ us Q I rv ⟨_, _, rfl, .inr ⟨_, sqT_same hid_sub q, rfl⟩, by rw [dd.length]; exact af _ _ h _ _ ok (.int _) (Lat.refl _ _)⟩
  · obtain ⟨v, rfl, dt⟩ := one_of dts
    cases dt
    exact call_len pins s σ H _ us Q I rv ⟨_, _, rfl, ⟨big_le h.1, rfl⟩, af _ _ h.2 _ _ ok (.int _) (Lat.refl _ _)⟩
  · split at h
    · next e =>
      obtain ⟨v, rfl, dt⟩ := one_of dts
      cases dt
      obtain ⟨ys, e1, d1⟩ := ok _ _ e
      exact call_len pins s σ H _ us Q I rv ⟨_, _, rfl, .inl ⟨_, .inl (.inl e1), rfl⟩, by rw [d1.length]; exact af _ _ h _ _ ok (.int _) (Lat.refl _ _)⟩
    · exact h.elim
  · exact h.elim
theorem tyx_t {K : PySem.W.Frag} {H : Hp} {a : Addr} {xs : List V} (h : SqT K H a xs) : TyX K H (.ref a) (.type "tuple") := by
  rcases h with (h | ⟨o, h⟩) | ⟨o, _, _, h, c, _⟩
  · exact .base (.tup h)
  · exact .fTuple h
  · exact .kTuple h c
theorem cb_isi (c : Ty6) : CallR X (.builtin "isinstance") (fun vs H Q => ∃ v d M F, vs = [v, .ty c.name] ∧ Dt X.K (hid M H) v d ∧ HpOk X.K M H ∧ (match isT c d with | some b => F (.bl b) M | none => False) ∧ AftE X.K M H F Q) := by
  intro pins s σ H vs us Q I rv h
  obtain ⟨v, d, M, F, rfl, dt, ok, h, af⟩ := h
  have key : ∀ (t : String) (b : Bool), TyX X.K H v (.type t) → kitB t c.name = some b → F (.bl b) M → wpAny (model X.prog X.w) X.A (call (.builtin "isinstance") us) (EP X pins σ Q) X.xe s := fun t b ty e f =>
    call_isi pins s σ H _ us Q I rv ⟨_, _, .type t, .type c.name, b, rfl, .ty _, ty, kit_ty e, af _ _ f _ _ ok (.bl b) (Lat.refl _ _)⟩
  cases dt with
  | non => exact key "NoneType" _ (.base .non) (by cases c <;> decide +kernel) h
  | bl b => cases c <;> exact key "bool" _ (.base (.bl b)) (by decide +kernel) h
  | int i => cases c <;> exact key "int" _ (.base (.int i)) (by decide +kernel) h
  | str z => cases c <;> exact key "str" _ (.base (.str z)) (by decide +kernel) h
  | tup q dd => cases c <;> exact key "tuple" _ (tyx_t (sqT_same hid_sub q)) (by decide +kernel) h
  | lst q dd => cases c <;> exact key "list" _ (.base (.lst (hid_sub _ _ q))) (by decide +kernel) h
  | dic q dd => cases c <;> exact key "dict" _ (.base (.dK (hid_sub _ _ q))) (by decide +kernel) h
  | _ => exact h.elim
end
end Fx

namespace Fx
open PySem PySem.Spec PyProof.Rows L2
variable [Grd]

def isiD (c : Ty6) (T : TEd) : TEd := fun ds M F => T ds M fun d M1 => match isT c d with
  | some b => F (.bl b) M1
  | none => False
section
variable {X : Cx} {x : Str} {p p2 pos : Pos} {e : Expr} {T : TEd}
theorem de_isi (c : Ty6) (hx : DE X e T) (hg : Gl X "isinstance") (hm : X.mg "isinstance" = none) (hg2 : Gl X x) (hm2 : X.mg x = none) (hv2 : bootBuiltins x = some (.type c.name)) (hn2 : x ≠ "__name__" := by decide) (hdb2 : (x == ("__debug__" : Str)) = false := by decide)
    (he : starEach [e, .Name x p2] X.env = (false, eval e X.env) :: starEach [.Name x p2] X.env := by rfl) (hpl : (backTo pos (starEach [.Name x p2] X.env)).any (·.1) = false := by rfl) (hs2 : starEach [.Name x p2] X.env = (false, eval (.Name x p2) X.env) :: starEach [] X.env := by rfl) :
    DE X (.Call (.Name "isinstance" p) [e, .Name x p2] [] pos) (isiD c T) := (pe_callB (cb_isi c) hg hm boot_isinstance (pa_cons hx (pa_cons (pe_bltn (v := .ty c.name) hg2 hm2 hv2 rfl hn2 hdb2) pa_nil hs2) he) (by decide) (by decide) he hpl).fimp fun σ H Q ⟨ds, M, F, ev, ok, h, af⟩ =>
  ⟨ds, M, _, ev, ok, h, fun d M1 h1 v H1 ok1 dt l1 => ⟨v, d, M1, F, rfl, dt, ok1, h1, af.later l1⟩⟩
theorem cb_all (hc : X.calm = true) : CallR X (.builtin "all") (upC X.K allR) := by
  intro pins s σ H vs us Q I rv h
  obtain ⟨xs, M, F, dts, ok, h, af⟩ := h
  unfold allR at h
  split at h
  · obtain ⟨v, rfl, dt⟩ := one_of dts
    cases dt with
    | lst q dd =>
      have e := bls_of dd h.1
      subst e
      refine cr_all hc pins s σ H _ us Q I rv ⟨_, _, rfl, .inl (.inl (hid_sub _ _ q)), af _ _ h.2 _ _ ok ?_ (Lat.refl _ _)⟩
      rw [List.all_map]
      exact .bl _
  · exact h.elim
theorem cb_any (hc : X.calm = true) : CallR X (.builtin "any") (upC X.K anyR) := by
  intro pins s σ H vs us Q I rv h
  obtain ⟨xs, M, F, dts, ok, h, af⟩ := h
  unfold anyR at h
  split at h
  · obtain ⟨v, rfl, dt⟩ := one_of dts
    cases dt with
    | lst q dd =>
      have e := bls_of dd h.1
      subst e
      refine cr_any hc pins s σ H _ us Q I rv ⟨_, _, rfl, .inl (.inl (hid_sub _ _ q)), af _ _ h.2 _ _ ok ?_ (Lat.refl _ _)⟩
      rw [List.any_map]
      exact .bl _
  · exact h.elim
theorem cb_tuple : CallR X (.type "tuple") (upC X.K tupleR) := by
  intro pins s σ H vs us Q I rv h
  obtain ⟨xs, M, F, dts, ok, h, af⟩ := h
  unfold tupleR at h
  split at h
  · obtain ⟨v, rfl, dt⟩ := one_of dts
    cases dt with
    | lst q dd => exact call_tuple_of pins s σ H _ us Q I rv ⟨_, _, rfl, .inl ⟨.inl (.inl (hid_sub _ _ q)), af.layT ok dd h⟩⟩
  · obtain ⟨v, rfl, dt⟩ := one_of dts
    cases dt with
    | slst q dd => exact call_tuple_of pins s σ H _ us Q I rv ⟨_, _, rfl, .inl ⟨Same.seq hid_sub q, af.layT ok dd h⟩⟩
  · obtain ⟨v, rfl, dt⟩ := one_of dts
    cases dt with
    | tup q dd => exact call_tuple_of pins s σ H _ us Q I rv ⟨_, _, rfl, .inr ⟨sqT_same hid_sub q, af _ _ h _ _ ok (.tup q dd) (Lat.refl _ _)⟩⟩
  · split at h
    · next e =>
      obtain ⟨v, rfl, dt⟩ := one_of dts
      cases dt
      obtain ⟨ys, e1, d1⟩ := ok _ _ e
      exact call_tuple_of pins s σ H _ us Q I rv ⟨_, _, rfl, .inl ⟨.inl (.inl e1), af.layT ok d1 h⟩⟩
    · exact h.elim
  · exact h.elim
theorem cb_list : CallR X (.type "list") (upC X.K listR) := by
  intro pins s σ H vs us Q I rv h
  obtain ⟨xs, M, F, dts, ok, h, af⟩ := h
  unfold listR at h
  split at h
  · obtain ⟨v, rfl, dt⟩ := one_of dts
    cases dt with
    | lst q dd => exact call_list_of pins s σ H _ us Q I rv ⟨_, _, rfl, .inl (.inl (.inl (hid_sub _ _ q))), af.layL ok dd h⟩
  · obtain ⟨v, rfl, dt⟩ := one_of dts
    cases dt with
    | slst q dd => exact call_list_of pins s σ H _ us Q I rv ⟨_, _, rfl, .inl (Same.seq hid_sub q), af.layL ok dd h⟩
  · obtain ⟨v, rfl, dt⟩ := one_of dts
    cases dt with
    | tup q dd => exact call_list_of pins s σ H _ us Q I rv ⟨_, _, rfl, .inr (sqT_same hid_sub q), af.layL ok dd h⟩
  · split at h
    · next e =>
      obtain ⟨v, rfl, dt⟩ := one_of dts
      cases dt
      obtain ⟨ys, e1, d1⟩ := ok _ _ e
      exact call_list_of pins s σ H _ us Q I rv ⟨_, _, rfl, .inl (.inl (.inl e1)), af.layL ok d1 h⟩
    · exact h.elim
  · exact h.elim
theorem cb_ord : CallR X (.builtin "ord") (upC X.K ordR) := by
  intro pins s σ H vs us Q I rv h
  obtain ⟨xs, M, F, dts, ok, h, af⟩ := h
  unfold ordR at h
  split at h
  · next z =>
    split at h
    · next c e =>
      obtain ⟨v, rfl, dt⟩ := one_of dts
      cases dt
      obtain ⟨⟨l⟩⟩ := z
      simp only at e
      subst e
      exact call_ord pins s σ H _ us Q I rv ⟨_, rfl, rfl, af _ _ h _ _ ok (.int _) (Lat.refl _ _)⟩
    · exact h.elim
  · exact h.elim
end

/-! repr -/
mutual
/-- no address within; texts and ints of a size -/
def shOk : D → Bool
  | .non => true
  | .bl _ => true
  | .int i => decide (i.natAbs.log2 < 1920)
  | .str x => x.cps.toList.all (fun c => decide (c < 1114112))
  | .tup ds => shOks ds
  | .lst ds => shOks ds
  | .slst ds => shOks ds
  | .dic kvs => shOkk kvs
  | .ref _ => false
  | .ty _ => false
  | .dtp _ _ => false
  | .obj _ _ _ => false
def shOks : List D → Bool
  | [] => true
  | d :: ds => shOk d && shOks ds
def shOkk : List (Key × D) → Bool
  | [] => true
  | (.inl i, d) :: ds => decide (i.natAbs.log2 < 1920) && shOk d && shOkk ds
  | (.inr x, d) :: ds => x.cps.toList.all (fun c => decide (c < 1114112)) && shOk d && shOkk ds
end
mutual
/-- no less than the signs of its repr -/
def cst : D → Nat
  | .int _ => 2000
  | .str x => 10 * x.length + 4
  | .tup ds => csts ds + 3
  | .lst ds => csts ds + 3
  | .slst ds => csts ds + 3
  | .dic kvs => cstk kvs + 3
  | _ => 5
def csts : List D → Nat
  | [] => 0
  | d :: ds => cst d + 2 + csts ds
def cstk : List (Key × D) → Nat
  | [] => 0
  | (.inl _, d) :: ds => 2000 + 2 + cst d + 2 + cstk ds
  | (.inr x, d) :: ds => 10 * x.length + 4 + 2 + cst d + 2 + cstk ds
end
mutual
def dep : D → Nat
  | .tup ds => deps ds + 1
  | .lst ds => deps ds + 1
  | .slst ds => deps ds + 1
  | .dic kvs => depk kvs + 1
  | _ => 0
def deps : List D → Nat
  | [] => 0
  | d :: ds => max (dep d) (deps ds)
def depk : List (Key × D) → Nat
  | [] => 0
  | (_, d) :: ds => max (dep d) (depk ds)
end
def shw (d : D) : Str := (py d).shown
theorem tupleText_len (ts : List Str) : (tupleText ts).length ≤ piled ts + 3 := by
  have e3 : (((if ts.length == 1 then ",)" else ")" : String) : Str)).length ≤ 2 := by split <;> decide +kernel
  have e1 : ((("(" : String) : Str)).length = 1 := rfl
  unfold tupleText
  rw [strLen_append, strLen_append, e1]
  cases ts with
  | nil =>
    have : (Str.join ", " ([] : List Str)).length = 0 := rfl
    omega
  | cons t ts =>
    have := join_length_add (t :: ts) (by simp)
    omega
theorem dictText_len (ts : List Str) : (dictText ts).length ≤ piled ts + 3 := by
  have e1 : ((("{" : String) : Str)).length = 1 := rfl
  have e2 : ((("}" : String) : Str)).length = 1 := rfl
  unfold dictText
  rw [strLen_append, strLen_append, e1, e2]
  cases ts with
  | nil =>
    have : (Str.join ", " ([] : List Str)).length = 0 := rfl
    omega
  | cons t ts =>
    have := join_length_add (t :: ts) (by simp)
    omega
theorem listText_len (ts : List Str) : (listText ts).length ≤ piled ts + 3 := by
  have e2 : ((("]" : String) : Str)).length = 1 := rfl
  unfold listText
  rw [strLen_append, e2]
  cases ts with
  | nil =>
    have : (textFrom 0 "[" ([] : List Str)).length = 1 := rfl
    omega
  | cons t ts =>
    have e : textFrom 0 "[" (t :: ts) = textFrom 1 ((("[" : Str) ++ (if 0 > 0 then ", " else "" : String)) ++ t) ts := rfl
    have l : (((("[" : Str) ++ (if 0 > 0 then ", " else "" : String)) ++ t : Str)).length = 1 + t.length := by
      rw [strLen_append, strLen_append]
      rfl
    rw [e, textFrom_length_pos ts 1 _ (by decide), l, piled_cons]
    omega
theorem rlen (x : Str) (h : x.cps.toList.all (fun c => decide (c < 1114112)) = true) : (reprText x).length ≤ 10 * x.length + 4 := by
  have := StrLaws.reprText_len x fun c hc => by
    have q : c < 1114112 := by simpa using List.all_eq_true.mp h c hc
    exact Nat.lt_trans q (by decide)
  omega
theorem ilen {i : Int} (h : i.natAbs.log2 < 1920) : (Str.ofString (toString i)).length ≤ 2000 := by
  have e := int_text_length_le (k := 1920) (by decide) h
  rw [PySem.ofString_length]
  omega
mutual
theorem shw_len : ∀ d : D, shOk d = true → (py d).shown.length ≤ cst d
  | .non, _ => by simp only [py, PyData.shown, cst]; decide
  | .bl b, _ => by cases b <;> (simp only [py, PyData.shown, cst]; decide)
  | .int i, h => by
    simp only [py, PyData.shown, cst]
    exact ilen (by simpa [shOk] using h)
  | .str x, h => by
    simp only [py, PyData.shown, cst]
    exact rlen x (by simpa [shOk] using h)
  | .tup ds, h => by
    simp only [py, PyData.shown, cst]
    have h1 := tupleText_len (PyData.shownAll (pys ds))
    have h2 := shw_lens ds (by simpa [shOk] using h)
    omega
  | .lst ds, h => by
    simp only [py, PyData.shown, cst]
    have h1 := listText_len (PyData.shownAll (pys ds))
    have h2 := shw_lens ds (by simpa [shOk] using h)
    omega
  | .slst ds, h => by
    simp only [py, PyData.shown, cst]
    have h1 := listText_len (PyData.shownAll (pys ds))
    have h2 := shw_lens ds (by simpa [shOk] using h)
    omega
  | .dic kvs, h => by
    simp only [py, PyData.shown, cst]
    have h1 := dictText_len (PyData.shownKv (pyk kvs))
    have h2 := shw_lenk kvs (by simpa [shOk] using h)
    omega
  | .ref _, h => by simp [shOk] at h
  | .ty _, h => by simp [shOk] at h
  | .dtp _ _, h => by simp [shOk] at h
  | .obj _ _ _, h => by simp [shOk] at h
theorem shw_lens : ∀ ds : List D, shOks ds = true → piled (PyData.shownAll (pys ds)) ≤ csts ds
  | [], _ => by simp only [pys, PyData.shownAll, csts, piled_nil]; exact Nat.le_refl _
  | d :: ds, h => by
    have h' : shOk d = true ∧ shOks ds = true := by simpa [shOks] using h
    simp only [pys, PyData.shownAll, csts, piled_cons]
    have h1 := shw_len d h'.1
    have h2 := shw_lens ds h'.2
    omega
theorem shw_lenk : ∀ ds : List (Key × D), shOkk ds = true → piled (PyData.shownKv (pyk ds)) ≤ cstk ds
  | [], _ => by simp only [pyk, PyData.shownKv, cstk, piled_nil]; exact Nat.le_refl _
  | (.inl i, d) :: ds, h => by
    have h' : (i.natAbs.log2 < 1920 ∧ shOk d = true) ∧ shOkk ds = true := by simpa [shOkk] using h
    simp only [pyk, PyData.shownKv, PyData.shown, cstk, piled_cons, strLen_append]
    have h0 := ilen h'.1.1
    have h1 := shw_len d h'.1.2
    have h2 := shw_lenk ds h'.2
    have e : (((": " : String) : Str)).length = 2 := rfl
    omega
  | (.inr x, d) :: ds, h => by
    have h' : (x.cps.toList.all (fun c => decide (c < 1114112)) = true ∧ shOk d = true) ∧ shOkk ds = true := by simpa [shOkk] using h
    simp only [pyk, PyData.shownKv, PyData.shown, cstk, piled_cons, strLen_append]
    have h0 := rlen x h'.1.1
    have h1 := shw_len d h'.1.2
    have h2 := shw_lenk ds h'.2
    have e : (((": " : String) : Str)).length = 2 := rfl
    omega
end
mutual
theorem dep_py : ∀ d : D, (py d).depth = dep d
  | .non => by simp only [py, PyData.depth, dep]
  | .bl b => by simp only [py, PyData.depth, dep]
  | .int i => by simp only [py, PyData.depth, dep]
  | .str x => by simp only [py, PyData.depth, dep]
  | .tup ds => by simp only [py, PyData.depth, dep, deps_py ds]
  | .lst ds => by simp only [py, PyData.depth, dep, deps_py ds]
  | .slst ds => by simp only [py, PyData.depth, dep, deps_py ds]
  | .dic ds => by simp only [py, PyData.depth, dep, depk_py ds]
  | .ref _ => by simp only [py, PyData.depth, dep]
  | .ty _ => by simp only [py, PyData.depth, dep]
  | .dtp _ _ => by simp only [py, PyData.depth, dep]
  | .obj _ _ _ => by simp only [py, PyData.depth, dep]
theorem deps_py : ∀ ds : List D, PyData.depthAll (pys ds) = deps ds
  | [] => by simp only [pys, PyData.depthAll, deps]
  | d :: ds => by simp only [pys, PyData.depthAll, deps, dep_py d, deps_py ds]
theorem depk_py : ∀ ds : List (Key × D), PyData.depthKv (pyk ds) = depk ds
  | [] => by simp only [pyk, PyData.depthKv, depk]
  | (.inl i, d) :: ds => by simp only [pyk, PyData.depthKv, PyData.depth, depk, dep_py d, depk_py ds, Nat.zero_max]
  | (.inr i, d) :: ds => by simp only [pyk, PyData.depthKv, PyData.depth, depk, dep_py d, depk_py ds, Nat.zero_max]
end
section
variable {X : Cx} {pins : List (Addr × Obj)} {σ : L2.St} {H : Hp} {s : Shared} {M : Mp}
mutual
theorem dt_reads (I : Inv X pins σ H s) : ∀ (d : D) (v : V) (u : Value), Dt X.K (hid M H) v d → shOk d = true → RelV v u → ∃ as, Reads s.heap u (py d) as
  | .non, _, _, h, _, r => by cases h; cases r; exact ⟨_, Reads.none⟩
  | .bl b, _, _, h, _, r => by cases h; cases r; exact ⟨_, Reads.bool b⟩
  | .int i, _, _, h, _, r => by cases h; obtain ⟨t, rfl⟩ := r; exact ⟨_, Reads.int i t⟩
  | .str x, _, _, h, _, r => by cases h; obtain ⟨t, rfl⟩ := r; exact ⟨_, Reads.str x t⟩
  | .lst ds, _, _, h, k, r => by
    cases h with
    | lst hs ha =>
      cases r
      obtain ⟨its, rv, ⟨o, n, ho, hc, _, hd⟩, _⟩ := I.list (.inl (.inl (hid_sub _ _ hs)))
      obtain ⟨as, hr⟩ := dts_reads I ds _ its ha (by simpa [shOk] using k) rv
      rw [py]
      exact ⟨_, Reads.list ho hc hd hr⟩
  | .slst ds, _, _, h, k, r => by
    cases h with
    | slst hs ha =>
      cases r
      obtain ⟨its, rv, ⟨o, n, ho, hc, _, hd⟩, _⟩ := I.list (Same.seq hid_sub hs)
      obtain ⟨as, hr⟩ := dts_reads I ds _ its ha (by simpa [shOk] using k) rv
      rw [py]
      exact ⟨_, Reads.list ho hc hd hr⟩
  | .tup ds, _, _, h, k, r => by
    cases h with
    | tup hs ha =>
      cases r
      obtain ⟨its, rv, ⟨o, ho, hc, n, hd⟩, _⟩ := I.tuple (sqT_same hid_sub hs)
      obtain ⟨as, hr⟩ := dts_reads I ds _ its ha (by simpa [shOk] using k) rv
      rw [py]
      exact ⟨_, Reads.tuple ho hc hd hr⟩
  | .dic ds, _, _, h, k, r => by
    cases h with
    | dic hs ha =>
      cases r
      obtain ⟨_, _, vs, kv, o, es, ep, ho, ⟨hc, _, _⟩, hd, _, pr, _⟩ := dk_of I.hok (hid_sub _ _ hs)
      obtain ⟨as, bs, h1, h2⟩ := dtk_reads I ds _ vs es.toList ha (by simpa [shOk] using k) kv pr
      rw [py]
      exact ⟨_, Reads.dict ho hc hd h1 h2⟩
  | .ref _, _, _, _, k, _ => by simp [shOk] at k
  | .ty _, _, _, _, k, _ => by simp [shOk] at k
  | .dtp _ _, _, _, _, k, _ => by simp [shOk] at k
  | .obj _ _ _, _, _, _, k, _ => by simp [shOk] at k
theorem dts_reads (I : Inv X pins σ H s) : ∀ (ds : List D) (vs : List V) (us : List Value), Dts X.K (hid M H) vs ds → shOks ds = true → Vals vs us → ∃ as, ReadsAll s.heap us (pys ds) as
  | [], _, _, h, _, r => by cases h; cases r; rw [pys]; exact ⟨_, ReadsAll.nil⟩
  | d :: ds, _, _, h, k, r => by
    have k' : shOk d = true ∧ shOks ds = true := by simpa [shOks] using k
    cases h with
    | cons h1 h2 =>
      cases r with
      | cons r1 r2 =>
        obtain ⟨as, q1⟩ := dt_reads I d _ _ h1 k'.1 r1
        obtain ⟨bs, q2⟩ := dts_reads I ds _ _ h2 k'.2 r2
        rw [pys]
        exact ⟨_, ReadsAll.cons q1 q2⟩
theorem dtk_reads (I : Inv X pins σ H s) : ∀ (ds : List (Key × D)) (xs : List (Key × V)) (vs : List (Key × Value)) (es : List DictEntry), Dtk X.K (hid M H) xs ds → shOkk ds = true → KV xs vs → Pairs (mixKind X.prog X.w) es vs →
    ∃ as bs, ReadsAll s.heap (es.map (·.key)) ((pyk ds).map (·.1)) as ∧ ReadsAll s.heap (es.map (·.val)) ((pyk ds).map (·.2)) bs
  | [], _, _, _, h, _, r, p => by
    cases h
    cases r
    cases p
    rw [pyk]
    exact ⟨_, _, ReadsAll.nil, ReadsAll.nil⟩
  | (.inl i, d) :: ds, _, _, _, h, k, r, p => by
    have k' : (i.natAbs.log2 < 1920 ∧ shOk d = true) ∧ shOkk ds = true := by simpa [shOkk] using k
    cases h with
    | cons h1 h2 =>
      cases r with
      | cons r1 r2 =>
        cases p with
        | cons p1 p2 p3 =>
          obtain ⟨as, q1⟩ := dt_reads I d _ _ h1 k'.1.2 r1.2
          obtain ⟨bs, cs, q2, q3⟩ := dtk_reads I ds _ _ _ h2 k'.2 r2 p3
          rw [pyk, List.map_cons, List.map_cons, List.map_cons, List.map_cons, p2]
          obtain ⟨t, e⟩ := Value.isInt_shape (k := i) (by rw [← r1.1] at p1; exact p1)
          rw [e]
          exact ⟨_, _, ReadsAll.cons (Reads.int i t) q2, ReadsAll.cons q1 q3⟩
  | (.inr i, d) :: ds, _, _, _, h, k, r, p => by
    have k' : (i.cps.toList.all (fun c => decide (c < 1114112)) = true ∧ shOk d = true) ∧ shOkk ds = true := by simpa [shOkk] using k
    cases h with
    | cons h1 h2 =>
      cases r with
      | cons r1 r2 =>
        cases p with
        | cons p1 p2 p3 =>
          obtain ⟨as, q1⟩ := dt_reads I d _ _ h1 k'.1.2 r1.2
          obtain ⟨bs, cs, q2, q3⟩ := dtk_reads I ds _ _ _ h2 k'.2 r2 p3
          rw [pyk, List.map_cons, List.map_cons, List.map_cons, List.map_cons, p2]
          obtain ⟨t, e⟩ := Value.isStrOf_shape (x := i) (by rw [← r1.1] at p1; exact p1)
          rw [e]
          exact ⟨_, _, ReadsAll.cons (Reads.str i t) q2, ReadsAll.cons q1 q3⟩
end
end
section
variable {X : Cx} {pins : List (Addr × Obj)} {σ : L2.St} {H : Hp} {s : Shared} {M : Mp}
theorem csts_mem {ds : List D} {d : D} (h : d ∈ ds) : cst d ≤ csts ds := by
  induction ds with
  | nil => cases h
  | cons e ds ih =>
    rw [csts]
    rcases List.mem_cons.mp h with z | z
    · rw [z]; omega
    · have := ih z; omega
theorem rep_list {prog : Program} {w : World} {h : Heap} {a : Addr} {o : Obj} {its : List Value} {n : Nat} {ds : List D} {as bs : List Addr} (ho : h.get? a = some o) (hc : o.cls = .type "list") (hd : o.data = .seq its.toArray n) (hr : ReadsAll h its (pys ds) as)
    (hb : ReadAtMost h (PyData.depthAll (pys ds)) bs) (hk : ReprAllK prog w bs h (PyData.depthAll (pys ds)) its (PyData.shownAll (pys ds))) : ∃ cs, ReadAtMost h (PyData.list (pys ds)).depth cs ∧ ReprK prog w cs h (PyData.list (pys ds)).depth (.ref a) (PyData.list (pys ds)).shown := by
  have rd : Reads h (.ref a) (.list (pys ds)) _ := Reads.list ho hc hd hr
  have hna := not_mem_of_deeper rd (by simp only [PyData.depth]; omega) hb
  refine ⟨a :: bs, ReadAtMost.cons rd (by simp only [PyData.depth]; omega) hb, ?_⟩
  simp only [PyData.depth, PyData.shown]
  cases its with
  | nil =>
    have e := hk.length_eq
    cases q : PyData.shownAll (pys ds) with
    | nil => rw [listText_nil]; exact ReprK.listEmpty ho hc hd
    | cons t ts => rw [q] at e; simp at e
  | cons x l => exact ReprK.list ho hc hd hna (by simpa using hk.length_eq) (fun i y e => hk.item i y (by simpa using e))
theorem ents_more {prog : Program} {w : World} {h : Heap} {as as' : List Addr} {d d' : Nat} (hsub : ∀ b ∈ as, b ∈ as') (hd : d ≤ d') : ∀ {l : List DictEntry} {ts : List Str}, ReprEntriesK prog w as h d l ts → ReprEntriesK prog w as' h d' l ts
  | _, _, .nil => .nil
  | _, _, .cons a b c => .cons ((a.more hsub).level_le hd) ((b.more hsub).level_le hd) (ents_more hsub hd c)
mutual
theorem dt_rep (I : Inv X pins σ H s) : ∀ (d : D) (v : V) (u : Value), Dt X.K (hid M H) v d → shOk d = true → cst d ≤ 1000000 → RelV v u → ∃ bs, ReadAtMost s.heap (py d).depth bs ∧ ReprK X.prog X.w bs s.heap (py d).depth u (py d).shown
  | .non, _, _, h, _, _, r => by
    cases h; cases r
    exact ⟨[], (fun _ h => nomatch h), by simp only [py, PyData.shown]; exact .of_is ReprIs.none _ _ _⟩
  | .bl b, _, _, h, _, _, r => by
    cases h; cases r
    exact ⟨[], (fun _ h => nomatch h), by simp only [py, PyData.shown]; exact .of_is (ReprIs.bool b) _ _ _⟩
  | .int i, _, _, h, k, _, r => by
    cases h; obtain ⟨t, rfl⟩ := r
    exact ⟨[], (fun _ h => nomatch h), by simp only [py, PyData.shown]; exact .of_is (ReprIs.int t (by simpa [shOk] using k)) _ _ _⟩
  | .str x, _, _, h, k, z, r => by
    cases h; obtain ⟨t, rfl⟩ := r
    refine ⟨[], (fun _ h => nomatch h), ?_⟩
    simp only [py, PyData.shown]
    have h1 := rlen x (by simpa [shOk] using k)
    simp only [cst] at z
    exact .of_is (ReprIs.str x t (big_le (by omega))) _ _ _
  | .lst ds, _, _, h, k, z, r => by
    cases h with
    | lst hs ha =>
      cases r
      obtain ⟨its, rv, ⟨o, n, ho, hc, _, hd⟩, _⟩ := I.list (.inl (.inl (hid_sub _ _ hs)))
      have k' : shOks ds = true := by simpa [shOk] using k
      obtain ⟨as, hr⟩ := dts_reads I ds _ its ha k' rv
      obtain ⟨bs, hb, hk⟩ := dts_rep I ds _ its ha k' (by simp only [cst] at z; omega) rv
      exact rep_list ho hc hd hr hb hk
  | .slst ds, _, _, h, k, z, r => by
    cases h with
    | slst hs ha =>
      cases r
      obtain ⟨its, rv, ⟨o, n, ho, hc, _, hd⟩, _⟩ := I.list (Same.seq hid_sub hs)
      have k' : shOks ds = true := by simpa [shOk] using k
      obtain ⟨as, hr⟩ := dts_reads I ds _ its ha k' rv
      obtain ⟨bs, hb, hk⟩ := dts_rep I ds _ its ha k' (by simp only [cst] at z; omega) rv
      exact rep_list ho hc hd hr hb hk
  | .tup ds, _, _, h, k, z, r => by
    cases h with
    | tup hs ha =>
      cases r
      obtain ⟨its, rv, ⟨o, ho, hc, n, hd⟩, _⟩ := I.tuple (sqT_same hid_sub hs)
      have k' : shOks ds = true := by simpa [shOk] using k
      obtain ⟨as, hr⟩ := dts_reads I ds _ its ha k' rv
      obtain ⟨bs, hb, hk⟩ := dts_rep I ds _ its ha k' (by simp only [cst] at z; omega) rv
      have rd : Reads s.heap _ (.tuple (pys ds)) _ := Reads.tuple ho hc hd hr
      have hna := not_mem_of_deeper rd (by simp only [PyData.depth]; omega) hb
      simp only [py]
      refine ⟨_ :: bs, ReadAtMost.cons rd (by simp only [PyData.depth]; omega) hb, ?_⟩
      simp only [PyData.depth, PyData.shown]
      exact ReprK.tuple ho hc hd hna hk
  | .dic ds, _, _, h, k, z, r => by
    cases h with
    | dic hs ha =>
      cases r
      obtain ⟨_, hsys, vs, kv, o, es, ep, ho, ⟨hc, _, _⟩, hd, _, pr, _⟩ := dk_of I.hok (hid_sub _ _ hs)
      have k' : shOkk ds = true := by simpa [shOk] using k
      obtain ⟨as, bs, h1, h2⟩ := dtk_reads I ds _ vs es.toList ha k' kv pr
      obtain ⟨cs, hb, hk⟩ := dtk_rep I ds _ vs es.toList ha k' (by simp only [cst] at z; omega) kv pr
      have rd : Reads s.heap _ (.dict (pyk ds)) _ := Reads.dict ho hc hd h1 h2
      have hna := not_mem_of_deeper rd (by simp only [PyData.depth]; omega) hb
      simp only [py]
      refine ⟨_ :: cs, ReadAtMost.cons rd (by simp only [PyData.depth]; omega) hb, ?_⟩
      simp only [PyData.depth, PyData.shown]
      exact ReprK.dict ho hc hd hsys hna hk
  | .ref _, _, _, _, k, _, _ => by simp [shOk] at k
  | .ty _, _, _, _, k, _, _ => by simp [shOk] at k
  | .dtp _ _, _, _, _, k, _, _ => by simp [shOk] at k
  | .obj _ _ _, _, _, _, k, _, _ => by simp [shOk] at k
theorem dts_rep (I : Inv X pins σ H s) : ∀ (ds : List D) (vs : List V) (us : List Value), Dts X.K (hid M H) vs ds → shOks ds = true → csts ds ≤ 1000000 → Vals vs us → ∃ bs, ReadAtMost s.heap (PyData.depthAll (pys ds)) bs ∧ ReprAllK X.prog X.w bs s.heap (PyData.depthAll (pys ds)) us (PyData.shownAll (pys ds))
  | [], _, _, h, _, _, r => by
    cases h; cases r
    simp only [pys, PyData.shownAll]
    exact ⟨[], (fun _ h => nomatch h), .nil⟩
  | d :: ds, _, _, h, k, z, r => by
    have k' : shOk d = true ∧ shOks ds = true := by simpa [shOks] using k
    rw [csts] at z
    cases h with
    | cons h1 h2 =>
      cases r with
      | cons r1 r2 =>
        obtain ⟨b1, hb1, k1⟩ := dt_rep I d _ _ h1 k'.1 (by omega) r1
        obtain ⟨b2, hb2, k2⟩ := dts_rep I ds _ _ h2 k'.2 (by omega) r2
        simp only [pys, PyData.shownAll, PyData.depthAll]
        exact ⟨b1 ++ b2, (hb1.mono (Nat.le_max_left _ _)).append (hb2.mono (Nat.le_max_right _ _)), .cons ((k1.more fun b hb => List.mem_append_left _ hb).level_le (Nat.le_max_left _ _)) (k2.more_le (fun b hb => List.mem_append_right _ hb) (Nat.le_max_right _ _))⟩
theorem dtk_rep (I : Inv X pins σ H s) : ∀ (ds : List (Key × D)) (xs : List (Key × V)) (vs : List (Key × Value)) (es : List DictEntry), Dtk X.K (hid M H) xs ds → shOkk ds = true → cstk ds ≤ 1000000 → KV xs vs → Pairs (mixKind X.prog X.w) es vs →
    ∃ bs, ReadAtMost s.heap (PyData.depthKv (pyk ds)) bs ∧ ReprEntriesK X.prog X.w bs s.heap (PyData.depthKv (pyk ds)) es (PyData.shownKv (pyk ds))
  | [], _, _, _, h, _, _, r, p => by
    cases h; cases r; cases p
    simp only [pyk, PyData.shownKv]
    exact ⟨[], (fun _ h => nomatch h), .nil⟩
  | (.inl i, d) :: ds, _, _, _, h, k, z, r, p => by
    have k' : (i.natAbs.log2 < 1920 ∧ shOk d = true) ∧ shOkk ds = true := by simpa [shOkk] using k
    rw [cstk] at z
    cases h with
    | cons h1 h2 =>
      cases r with
      | cons r1 r2 =>
        cases p with
        | cons p1 p2 p3 =>
          obtain ⟨b1, hb1, k1⟩ := dt_rep I d _ _ h1 k'.1.2 (by omega) r1.2
          obtain ⟨b2, hb2, k2⟩ := dtk_rep I ds _ _ _ h2 k'.2 (by omega) r2 p3
          obtain ⟨t, e⟩ := Value.isInt_shape (k := i) (by rw [← r1.1] at p1; exact p1)
          simp only [pyk, PyData.shownKv, PyData.depthKv, PyData.shown, PyData.depth, Nat.zero_max]
          refine ⟨b1 ++ b2, (hb1.mono (Nat.le_max_left _ _)).append (hb2.mono (Nat.le_max_right _ _)), .cons ?_ ?_ (ents_more (fun b hb => List.mem_append_right _ hb) (Nat.le_max_right _ _) k2)⟩
          · rw [e]
            exact .of_is (ReprIs.int t k'.1.1) _ _ _
          · rw [p2]
            exact (k1.more fun b hb => List.mem_append_left _ hb).level_le (Nat.le_max_left _ _)
  | (.inr i, d) :: ds, _, _, _, h, k, z, r, p => by
    have k' : (i.cps.toList.all (fun c => decide (c < 1114112)) = true ∧ shOk d = true) ∧ shOkk ds = true := by simpa [shOkk] using k
    rw [cstk] at z
    cases h with
    | cons h1 h2 =>
      cases r with
      | cons r1 r2 =>
        cases p with
        | cons p1 p2 p3 =>
          obtain ⟨b1, hb1, k1⟩ := dt_rep I d _ _ h1 k'.1.2 (by omega) r1.2
          obtain ⟨b2, hb2, k2⟩ := dtk_rep I ds _ _ _ h2 k'.2 (by omega) r2 p3
          obtain ⟨t, e⟩ := Value.isStrOf_shape (x := i) (by rw [← r1.1] at p1; exact p1)
          have hl := rlen i k'.1.1
          simp only [pyk, PyData.shownKv, PyData.depthKv, PyData.shown, PyData.depth, Nat.zero_max]
          refine ⟨b1 ++ b2, (hb1.mono (Nat.le_max_left _ _)).append (hb2.mono (Nat.le_max_right _ _)), .cons ?_ ?_ (ents_more (fun b hb => List.mem_append_right _ hb) (Nat.le_max_right _ _) k2)⟩
          · rw [e]
            exact .of_is (ReprIs.str i t (big_le (by omega))) _ _ _
          · rw [p2]
            exact (k1.more fun b hb => List.mem_append_left _ hb).level_le (Nat.le_max_left _ _)
end
end
theorem top_list {prog : Program} {w : World} {A : Around} {E : Value → Shared → Prop} {s : Shared} {Q : Value → Shared → Prop} {a : Addr} {o : Obj} {its : List Value} {n : Nat} {ds : List D} {as bs : List Addr} (gd : A.guards = some []) (hu : A.units + 200 < cLine) (dp : PyData.depthAll (pys ds) + 1 ≤ 100)
    (ho : s.heap.get? a = some o) (hc : o.cls = .type "list") (hd : o.data = .seq its.toArray n) (hr : ReadsAll s.heap its (pys ds) as)
    (hb : ReadAtMost s.heap (PyData.depthAll (pys ds)) bs) (hk : ReprAllK prog w bs s.heap (PyData.depthAll (pys ds)) its (PyData.shownAll (pys ds))) (hsz : (listText (PyData.shownAll (pys ds))).length ≤ sizeLine)
    (q : ∀ (h' : Heap) (t tk : Tok), (∀ b o, s.heap.get? b = some o → h'.get? b = some o) → Q (.str (listText (PyData.shownAll (pys ds))) t) { s with heap := h', toks := tk }) : wpAny (model prog w) A (call (.builtin "repr") [.ref a]) Q E s := by
  have rd : Reads s.heap (.ref a) (.list (pys ds)) _ := Reads.list ho hc hd hr
  have hna := not_mem_of_deeper rd (by simp only [PyData.depth]; omega) hb
  refine call_repr_slot (by omega) ⟨o, ho, hc⟩ F.slot_list_repr.toG ?_
  cases its with
  | nil =>
    have e := hk.length_eq
    cases z : PyData.shownAll (pys ds) with
    | nil =>
      rw [z, listText_nil] at q
      exact call_list_repr_empty ⟨o, ho, hc⟩ ho hd ⟨_, _, rfl, q s.heap _ _ fun _ _ e => e⟩
    | cons t ts => rw [z] at e; simp at e
  | cons x l => exact call_list_reprK ho hc hd hna (by simpa using hk.length_eq) (fun i y e => hk.item i y (by simpa using e)) (show A.in1.guards = some [] from gd) (fun b _ => Clear.nil b) (by show A.units + 1 + _ < cLine; omega) (fun _ _ e => e) (fun h' u tk kp => ⟨_, _, rfl, q h' u tk kp⟩) hsz
def reprR : RB
  | [d], M, F => (shOk d = true ∧ cst d ≤ 1000000 ∧ dep d ≤ 100) ∧ F (.str (shw d)) M
  | _, _, _ => False
theorem cb_repr {X : Cx} (gd : X.A.guards = some []) (hu : X.A.units + 200 < cLine) : CallR X (.builtin "repr") (upC X.K reprR) := by
  intro pins s σ H vs us Q I rv h
  obtain ⟨xs, M, F, dts, ok, h, af⟩ := h
  unfold reprR at h
  split at h
  · next d =>
    obtain ⟨⟨k, z, dp⟩, h⟩ := h
    obtain ⟨v, rfl, dt⟩ := one_of dts
    obtain ⟨u, rfl, rx⟩ := vals1 rv
    have hsz : (py d).shown.length ≤ sizeLine := big_le (Nat.le_trans (shw_len d k) z)
    have q : Q (.str (shw d)) H := af _ _ h _ _ ok (.str _) (Lat.refl _ _)
    have fin : ∀ (h' : Heap) (t tk : Tok), (∀ b o, s.heap.get? b = some o → h'.get? b = some o) → EP X pins σ Q (.str (shw d) t) { s with heap := h', toks := tk } := fun h' t tk kp => ⟨.str (shw d), H, I.kept kp, ⟨t, rfl⟩, q⟩
    have fin0 : EP X pins σ Q (.str (shw d) s.toks) { s with toks := s.toks + 1 } := ⟨.str (shw d), H, I.tok _, ⟨_, rfl⟩, q⟩
    rw [← dep_py] at dp
    have dt0 := dt
    cases dt with
    | non => cases rx; exact PySem.P.repr_of_none (by simpa only [shw, py, PyData.shown] using fin0)
    | bl b => cases rx; exact PySem.P.repr_of_bool (by simpa only [shw, py, PyData.shown] using fin0)
    | int i => obtain ⟨t, rfl⟩ := rx; exact PySem.P.repr_of_int (by simpa [shOk] using k) (by simpa only [shw, py, PyData.shown] using fin0)
    | str x => obtain ⟨t, rfl⟩ := rx; exact PySem.P.repr_of_str (by simpa only [shw, py, PyData.shown] using fin0) (by simpa only [py, PyData.shown] using hsz)
    | lst hs ha =>
      rename_i xs0 ds
      cases rx
      obtain ⟨its, rv', ⟨o, n, ho, hc, _, hd⟩, _⟩ := I.list (.inl (.inl (hid_sub _ _ hs)))
      have k' : shOks ds = true := by simpa [shOk] using k
      obtain ⟨as, hr⟩ := dts_reads I ds _ its ha k' rv'
      obtain ⟨bs, hb, hk⟩ := dts_rep I ds _ its ha k' (by simp only [cst] at z; omega) rv'
      simp only [shw, py, PyData.shown, PyData.depth] at fin dp hsz
      exact top_list gd hu dp ho hc hd hr hb hk hsz fin
    | slst hs ha =>
      rename_i xs0 ds
      cases rx
      obtain ⟨its, rv', ⟨o, n, ho, hc, _, hd⟩, _⟩ := I.list (Same.seq hid_sub hs)
      have k' : shOks ds = true := by simpa [shOk] using k
      obtain ⟨as, hr⟩ := dts_reads I ds _ its ha k' rv'
      obtain ⟨bs, hb, hk⟩ := dts_rep I ds _ its ha k' (by simp only [cst] at z; omega) rv'
      simp only [shw, py, PyData.shown, PyData.depth] at fin dp hsz
      exact top_list gd hu dp ho hc hd hr hb hk hsz fin
    | tup hs ha =>
      rename_i xs0 ds
      cases rx
      obtain ⟨its, rv', ⟨o, ho, hc, n, hd⟩, _⟩ := I.tuple (sqT_same hid_sub hs)
      have k' : shOks ds = true := by simpa [shOk] using k
      obtain ⟨as, hr⟩ := dts_reads I ds _ its ha k' rv'
      obtain ⟨bs, hb, hk⟩ := dts_rep I ds _ its ha k' (by simp only [cst] at z; omega) rv'
      simp only [shw, py, PyData.shown, PyData.depth] at fin dp hsz
      have rd : Reads s.heap _ (.tuple (pys ds)) _ := Reads.tuple ho hc hd hr
      have hna := not_mem_of_deeper rd (by simp only [PyData.depth]; omega) hb
      exact call_repr_slot (by omega) ⟨o, ho, hc⟩ PySem.F.slot_tuple_repr (call_tuple_reprK ho hc hd hna hk (show X.A.in1.guards = some [] from gd) (fun b _ => Clear.nil b) (by show X.A.units + 1 + _ < cLine; omega) (fun _ _ e => e) (fun h' u tk kp => ⟨_, _, rfl, fin h' u tk kp⟩) hsz)
    | dic hs ha =>
      rename_i xs0 ds
      cases rx
      obtain ⟨_, hsys, vs, kv, o, es, ep, ho, ⟨hc, _, _⟩, hd, _, pr, _⟩ := dk_of I.hok (hid_sub _ _ hs)
      have k' : shOkk ds = true := by simpa [shOk] using k
      obtain ⟨as, bs, h1, h2⟩ := dtk_reads I ds _ vs es.toList ha k' kv pr
      obtain ⟨cs, hb, hk⟩ := dtk_rep I ds _ vs es.toList ha k' (by simp only [cst] at z; omega) kv pr
      simp only [shw, py, PyData.shown, PyData.depth] at fin dp hsz
      have rd : Reads s.heap _ (.dict (pyk ds)) _ := Reads.dict ho hc hd h1 h2
      have hna := not_mem_of_deeper rd (by simp only [PyData.depth]; omega) hb
      exact call_repr_slot (by omega) ⟨o, ho, hc⟩ PySem.F.slot_dict_repr (call_dict_reprK ho hc hd hsys hna hk (show X.A.in1.guards = some [] from gd) (fun b _ => Clear.nil b) (by show X.A.units + 1 + _ < cLine; omega) (fun _ _ e => e) (fun h' u tk kp => ⟨_, _, rfl, fin h' u tk kp⟩) hsz)
    | ref _ => simp [shOk] at k
    | ty _ => simp [shOk] at k
    | dtp _ _ => simp [shOk] at k
    | obj _ _ _ => simp [shOk] at k
  · exact h.elim
end Fx

namespace Fx
open PySem PySem.Spec PyProof.Rows L2
variable [Grd]

/-! a op b op' c -/
def chainD (r r' : R2d) (T U W : TEd) : TEd := fun ds M F => T ds M fun a M1 => U ds M1 fun b M2 => r a b M2 fun z M3 => match z with
  | .bl k => br k (W ds M3 fun c M4 => r' b c M4 F) (F (.bl false) M3)
  | _ => False
section
variable {X : Cx} {a b c : Expr} {op op' : CmpOp} {r r' : R2d} {T U W : TEd} {pos : Pos}
theorem emb_chain {K : PySem.W.Frag} : ∀ σ H Q, emb K (chainD r r' T U W) σ H Q → tChain (up2 K r) (up2 K r') (emb K T) (emb K U) (emb K W) σ H Q := fun σ H Q ⟨ds, M, F, ev, ok, h, af⟩ =>
  ⟨ds, M, _, ev, ok, h, fun d M1 h1 v H1 ok1 dt1 l1 => ⟨ds, M1, _, ev.mono l1, ok1, h1, fun d2 M2 h2 v2 H2 ok2 dt2 l2 => ⟨d, d2, M2, _, dt1.mono l2.same, dt2, ok2, h2, fun z M3 h3 v3 H3 ok3 dt3 l3 => by
    cases dt3 with
    | bl k =>
      cases k with
      | true =>
        refine ⟨true, rfl, iteT ⟨ds, M3, _, ev.mono ((l1.trans l2).trans l3), ok3, h3, fun d4 M4 h4 v4 H4 ok4 dt4 l4 => ⟨d2, d4, M4, F, dt2.mono (l3.trans l4).same, dt4, ok4, h4, af.later (((l1.trans l2).trans l3).trans l4)⟩⟩⟩
      | false => exact ⟨false, rfl, iteF (af _ _ h3 _ _ ok3 (.bl false) ((l1.trans l2).trans l3))⟩
    | _ => exact h3.elim⟩⟩⟩
theorem de_chain (h1 : OpR X (compareOp op) (up2 X.K r)) (h2 : OpR X (compareOp op') (up2 X.K r')) (ha : DE X a T) (hb : DE X b U) (hc : DE X c W) (hm : lastMarks [op, op'] [b, c] = false := by with_unfolding_all rfl) : DE X (.Compare a [op, op'] [b, c] pos) (chainD r r' T U W) := (pe_chain h1 h2 ha hb hc hm).fimp emb_chain
/-- - a -/
def negD (T : TEd) : TEd := fun ds M F => T ds M fun d M1 => match d with
  | .int i => F (.int (-i)) M1
  | _ => False
theorem de_neg (ha : DE X a T) : DE X (.UnaryOp .USub a pos) (negD T) := (pe_un un_neg ha).fimp fun σ H Q ⟨ds, M, F, ev, ok, h, af⟩ =>
  ⟨ds, M, _, ev, ok, h, fun d M1 h1 v H1 ok1 dt l1 => by
    cases dt with
    | int i => exact ⟨i, rfl, af _ _ h1 _ _ ok1 (.int _) l1⟩
    | _ => exact h1.elim⟩
/-- a is None, a is not None -/
def isND (T : TEd) : TEd := fun ds M F => T ds M fun d M1 => match d with
  | .non => F (.bl true) M1
  | _ => F (.bl false) M1
def notND (T : TEd) : TEd := fun ds M F => T ds M fun d M1 => match d with
  | .non => F (.bl false) M1
  | _ => F (.bl true) M1
theorem de_isN {k : Nat} {p2 : Pos} (ha : DE X a T) : DE X (.Compare a [.Is] [.Constant .none k p2] pos) (isND T) := (pe_cmpR op_isN ha pe_non (by rfl)).fimp fun σ H Q ⟨ds, M, F, ev, ok, h, af⟩ =>
  ⟨ds, M, _, ev, ok, h, fun d M1 h1 v H1 ok1 dt l1 => ⟨rfl, by
    cases dt <;> exact af _ _ h1 _ _ ok1 (.bl _) l1⟩⟩
theorem de_notN {k : Nat} {p2 : Pos} (ha : DE X a T) : DE X (.Compare a [.IsNot] [.Constant .none k p2] pos) (notND T) := (pe_cmpR op_notN ha pe_non (by rfl)).fimp fun σ H Q ⟨ds, M, F, ev, ok, h, af⟩ =>
  ⟨ds, M, _, ev, ok, h, fun d M1 h1 v H1 ok1 dt l1 => ⟨rfl, by
    cases dt <;> exact af _ _ h1 _ _ ok1 (.bl _) l1⟩⟩
end

/-! comparisons as tests -/
section
variable {X : Cx} {a b c : Expr} {op op' : CmpOp} {r r' : R2d} {T U W : TEd} {pos : Pos}
theorem emb_tst {K : PySem.W.Frag} {t : TE} (h : ∀ σ H Q, emb K T σ H Q → t σ H Q) : ∀ σ H Q, embT K (tstD T) σ H Q → tTest t σ H Q := fun σ H Q ⟨ds, M, F, ev, ok, q, af⟩ => h σ H _ ⟨ds, M, _, ev, ok, q, fun d M1 h1 v H1 ok1 dt l1 => by
  cases dt with
  | bl k => exact ⟨k, rfl, af k M1 h1 H1 ok1 l1⟩
  | _ => exact h1.elim⟩
theorem dt_cmp (ho : OpR X (compareOp op) (up2 X.K r)) (ha : DE X a T) (hb : DE X b U) (hm : behindInMarks op b = false) : DT X (.Compare a [op] [b] pos) (tstD (opD r T U)) := (pt_cmpR ho ha hb hm).fimp (emb_tst emb_op)
theorem dt_chain (h1 : OpR X (compareOp op) (up2 X.K r)) (h2 : OpR X (compareOp op') (up2 X.K r')) (ha : DE X a T) (hb : DE X b U) (hc : DE X c W) (hm : lastMarks [op, op'] [b, c] = false := by with_unfolding_all rfl) : DT X (.Compare a [op, op'] [b, c] pos) (tstD (chainD r r' T U W)) := (pt_chain h1 h2 ha hb hc hm).fimp (emb_tst emb_chain)
theorem dt_isN {k : Nat} {p2 : Pos} (ha : DE X a T) : DT X (.Compare a [.Is] [.Constant .none k p2] pos) (tstD (isND T)) := (pt_cmpR op_isN ha pe_non (by rfl)).fimp (emb_tst fun σ H Q ⟨ds, M, F, ev, ok, h, af⟩ =>
  ⟨ds, M, _, ev, ok, h, fun d M1 h1 v H1 ok1 dt l1 => ⟨rfl, by
    cases dt <;> exact af _ _ h1 _ _ ok1 (.bl _) l1⟩⟩)
theorem dt_notN {k : Nat} {p2 : Pos} (ha : DE X a T) : DT X (.Compare a [.IsNot] [.Constant .none k p2] pos) (tstD (notND T)) := (pt_cmpR op_notN ha pe_non (by rfl)).fimp (emb_tst fun σ H Q ⟨ds, M, F, ev, ok, h, af⟩ =>
  ⟨ds, M, _, ev, ok, h, fun d M1 h1 v H1 ok1 dt l1 => ⟨rfl, by
    cases dt <;> exact af _ _ h1 _ _ ok1 (.bl _) l1⟩⟩)
end

/-! methods of built-in things -/
abbrev RM := D → List D → Mp → DK → Prop
def isLst : D → Mp → Prop
  | .ref a, M => match M a with
    | some (.lst _) => True
    | _ => False
  | .lst _, _ => True
  | _, _ => False
def isStr : D → Mp → Prop
  | .str _, _ => True
  | _, _ => False
def bmD (ty : D → Mp → Prop) (r : RM) (T : TEd) (U : TAd) : TEd := fun ds M F => T ds M fun d M1 => ty d M1 ∧ U ds M1 fun xs M2 => r d xs M2 F
def bm0D (ty : D → Mp → Prop) (r : RM) (T : TEd) : TEd := fun ds M F => T ds M fun d M1 => ty d M1 ∧ r d [] M1 F
def upM (K : PySem.W.Frag) (r : RM) : V → List V → Hp → VK → Prop := fun x vs H Q => ∃ d xs M F, Dt K (hid M H) x d ∧ Dts K (hid M H) vs xs ∧ HpOk K M H ∧ r d xs M F ∧ AftE K M H F Q
theorem tyL {K : PySem.W.Frag} {M : Mp} {H : Hp} {v : V} {d : D} (dt : Dt K (hid M H) v d) (ok : HpOk K M H) (h : isLst d M) : tyV K "list" v H := by
  cases dt with
  | ref a =>
    simp only [isLst] at h
    split at h
    · next e =>
      obtain ⟨xs, e1, _⟩ := ok _ _ e
      exact .inl ⟨rfl, xs, .inl (.inl e1)⟩
    · exact h.elim
  | lst q dd => exact .inl ⟨rfl, _, .inl (.inl (hid_sub _ _ q))⟩
  | _ => exact h.elim
theorem tyS {K : PySem.W.Frag} {M : Mp} {H : Hp} {v : V} {d : D} (dt : Dt K (hid M H) v d) (h : isStr d M) : tyV K "str" v H := by
  cases dt with
  | str z => rfl
  | _ => exact h.elim
section
variable {X : Cx} {o e : Expr} {es : List Expr} {name : Str} {id : String} {apos cpos : Pos} {r : RM} {T : TEd} {U : TAd}
theorem de_bmL (slot : Slot "list" name id) (hty : typeOf (.builtin id) = pure (.type "method_descriptor")) (hm : MtR X id (upM X.K r)) (ho : DE X o T) (ha : DA X (e :: es) U)
    (hbase : attributeBase o name X.env (eval o X.env) = eval o X.env := by rfl)
    (hfew : ((backTo cpos (starEach (e :: es) X.env)).all (fun x => !x.1) && (backToKw cpos (keywordEach [] X.env)).all (fun x => x.1.isSome)
      && decide ((e :: es).length + ([] : List Keyword).length + (if ([] : List Keyword).isEmpty then 0 else 1) < 30)) = true := by rfl)
    (hline : (apos.endLine == cpos.line) = true := by rfl) (hs : starEach (e :: es) X.env = (false, eval e X.env) :: starEach es X.env := by rfl) (hpl : (backTo cpos (starEach es X.env)).any (·.1) = false := by rfl) : DE X (.Call (.Attribute o name apos) (e :: es) [] cpos) (bmD isLst r T U) := by
  refine (pe_bm (r := upM X.K r) PySem.F.plainAttrs_list slot hty hm ho ha ?_ ?_ ?_ ?_ ?_).fimp fun σ H Q ⟨ds, M, F, ev, ok, h, af⟩ => ⟨ds, M, _, ev, ok, h, fun d M1 h1 v H1 ok1 dt l1 => ⟨tyL dt ok1 h1.1, ds, M1, _, ev.mono l1, ok1, h1.2, fun xs M2 h2 vs H2 ok2 dts l2 => ⟨d, xs, M2, F, dt.mono l2.same, dts, ok2, h2, af.later (l1.trans l2)⟩⟩⟩
  all_goals assumption
theorem de_bm0L (slot : Slot "list" name id) (hty : typeOf (.builtin id) = pure (.type "method_descriptor")) (hm : MtR X id (upM X.K r)) (ho : DE X o T)
    (hbase : attributeBase o name X.env (eval o X.env) = eval o X.env := by rfl) (hline : (apos.endLine == cpos.line) = true := by rfl) : DE X (.Call (.Attribute o name apos) [] [] cpos) (bm0D isLst r T) :=
  (pe_bm0 (r := upM X.K r) PySem.F.plainAttrs_list slot hty hm ho hbase hline).fimp fun σ H Q ⟨ds, M, F, ev, ok, h, af⟩ => ⟨ds, M, _, ev, ok, h, fun d M1 h1 v H1 ok1 dt l1 => ⟨tyL dt ok1 h1.1, d, [], M1, F, dt, .nil, ok1, h1.2, af.later l1⟩⟩
/-- s.m(e), s a text -/
def m1D (r : RM) (T U : TEd) : TEd := fun ds M F => T ds M fun d M1 => match d with
  | .str z => U ds M1 fun x M2 => r (.str z) [x] M2 F
  | _ => False
theorem de_m1 {U : TEd} {pos : Pos} (slot : Slot "str" name id) (ty : typeOf (.builtin id) = pure (.type "method_descriptor")) (rule : MtR X id (upM X.K r)) (ho : DE X o T) (he : DE X e U)
    (hs : starEach [e] X.env = [(false, eval e X.env)] := by rfl) (hbase : attributeBase o name X.env (eval o X.env) = eval o X.env := by rfl) (hline : (apos.endLine == pos.line) = true := by rfl) :
    DE X (.Call (.Attribute o name apos) [e] [] pos) (m1D r T U) := (pe_m1 slot ty rule ho he hs hbase hline).fimp fun σ H Q ⟨ds, M, F, ev, ok, h, af⟩ => ⟨ds, M, _, ev, ok, h, fun d M1 h1 v H1 ok1 dt l1 => by
  cases dt with
  | str z => exact ⟨⟨_, rfl⟩, ds, M1, _, ev.mono l1, ok1, h1, fun x M2 h2 v2 H2 ok2 dt2 l2 => ⟨.str z, [x], M2, F, .str z, .cons dt2 .nil, ok2, h2, af.later (l1.trans l2)⟩⟩
  | _ => exact h1.elim⟩
end
def popR : RM
  | .ref a, [], M, F => match M a with
    | some (.lst xs) => match xs.getLast? with
      | some y => F y (updM M a (.lst xs.dropLast))
      | none => False
    | _ => False
  | _, _, _, _ => False
def appR : RM
  | .ref a, [y], M, F => match M a with
    | some (.lst xs) => xs.length < 1000000 ∧ F .non (updM M a (.lst (xs ++ [y])))
    | _ => False
  | _, _, _, _ => False
def extR : RM
  | .ref a, [.lst ys], M, F => match M a with
    | some (.lst xs) => xs.length + ys.length ≤ 1000000 ∧ F .non (updM M a (.lst (xs ++ ys)))
    | _ => False
  | _, _, _, _ => False
def isSt : D → Bool
  | .str _ => true
  | _ => false
def getSt : D → Str
  | .str x => x
  | _ => Str.empty
def joinR : RM
  | .str a, [.lst xs], M, F => xs.all isSt = true ∧ ((xs.map fun d => (getSt d).length).sum + xs.length * a.length ≤ 1000000) ∧ F (.str (Txt.join a (xs.map getSt))) M
  | .str a, [.tup xs], M, F => xs.all isSt = true ∧ ((xs.map fun d => (getSt d).length).sum + xs.length * a.length ≤ 1000000) ∧ F (.str (Txt.join a (xs.map getSt))) M
  | _, _, _, _ => False
theorem strs_of {K : PySem.W.Frag} {G : Hp} : ∀ {vs : List V} {xs : List D}, Dts K G vs xs → xs.all isSt = true → vs = (xs.map getSt).map V.str
  | _, _, .nil, _ => rfl
  | _, _, .cons h1 h2, h => by
    rw [List.all_cons, Bool.and_eq_true] at h
    rw [List.map_cons, List.map_cons, ← strs_of h2 h.2]
    cases h1 <;> first | rfl | (exact absurd h.1 (by simp [isSt]))
/-- the list at a, changed -/
theorem AftE.setM {K : PySem.W.Frag} {M : Mp} {H : Hp} {F : DK} {Q : VK} {a : Addr} {vs : List V} {o : MO} {xs : List D} {d : D} {v : V} (af : AftE K M H F Q) (ok : HpOk K M H) (e : M a = some o) (hd : Dts K (hid M H) vs xs) (dt : Dt K (hid M H) v d) (f : F d (updM M a (.lst xs))) : Q v (upd H a (.lst vs)) := by
  have q : Same (hid M H) (hid (updM M a (.lst xs)) (upd H a (.lst vs))) := fun b u hb => by
    obtain ⟨n, eb⟩ := hid_some hb
    have nb : b ≠ a := fun z => by rw [z, e] at n; cases n
    rw [hid_of (by rw [updM_ne nb]; exact n), upd_ne nb]
    exact eb
  obtain ⟨ok2, l2⟩ := ok.put (p := a) (o := .lst vs) (m := .lst xs) (.inl (by rw [e]; simp)) ⟨vs, upd_same, hd.mono q⟩
  exact af _ _ f _ _ ok2 (dt.mono q) l2
section
variable {X : Cx}
theorem dm_append : MtR X "list.append" (upM X.K appR) := by
  intro pins s σ H x vs v us Q I rx rv h
  obtain ⟨d, xs, M, F, dt, dts, ok, h, af⟩ := h
  unfold appR at h
  split at h
  · split at h
    · next a y _ _ _ zs e =>
      cases dt
      obtain ⟨w, rfl, dw⟩ := one_of dts
      obtain ⟨ys, e1, d1⟩ := ok _ _ e
      exact mt_append pins s σ H _ _ v us Q I rx rv ⟨_, ys, w, rfl, rfl, e1, by rw [d1.length]; exact big_lt h.1, af.setM ok e (d1.append (.cons dw .nil)) .non h.2⟩
    · exact h.elim
  · exact h.elim
theorem dm_extend : MtR X "list.extend" (upM X.K extR) := by
  intro pins s σ H x vs v us Q I rx rv h
  obtain ⟨d, xs, M, F, dt, dts, ok, h, af⟩ := h
  unfold extR at h
  split at h
  · split at h
    · next a y _ _ _ zs e =>
      cases dt
      obtain ⟨w, rfl, dw⟩ := one_of dts
      obtain ⟨ys, e1, d1⟩ := ok _ _ e
      cases dw with
      | lst q dd => exact mt_extend pins s σ H _ _ v us Q I rx rv ⟨_, _, ys, _, rfl, rfl, e1, hid_sub _ _ q, by rw [d1.length, dd.length]; exact big_le h.1, af.setM ok e (d1.append dd) .non h.2⟩
    · exact h.elim
  · exact h.elim
theorem Dts.dropLast {K : PySem.W.Frag} {G : Hp} : ∀ {vs : List V} {ds : List D}, Dts K G vs ds → Dts K G vs.dropLast ds.dropLast
  | _, _, .nil => .nil
  | _, _, .cons _ .nil => .nil
  | _, _, .cons h1 (.cons h2 h3) => .cons h1 (Dts.dropLast (.cons h2 h3))
theorem dm_pop : MtR X "list.pop" (upM X.K popR) := by
  intro pins s σ H x vs v us Q I rx rv h
  obtain ⟨d, xs, M, F, dt, dts, ok, h, af⟩ := h
  unfold popR at h
  split at h
  · split at h
    · next a _ _ _ zs e =>
      split at h
      · next y ey =>
        cases dt
        cases dts
        obtain ⟨ys, e1, d1⟩ := ok _ _ e
        rw [List.getLast?_eq_getElem?] at ey
        obtain ⟨w, ew, dw⟩ := d1.get ey
        exact mt_pop pins s σ H _ _ v us Q I rx rv ⟨_, ys, w, rfl, rfl, e1, by rw [d1.length]; exact ew, af.setM ok e d1.dropLast dw h⟩
      · exact h.elim
    · exact h.elim
  · exact h.elim
theorem dm_join : MtR X "str.join" (upM X.K joinR) := by
  intro pins s σ H x vs v us Q I rx rv h
  obtain ⟨d, xs, M, F, dt, dts, ok, h, af⟩ := h
  unfold joinR at h
  split at h
  · cases dt
    obtain ⟨w, rfl, dw⟩ := one_of dts
    cases dw with
    | lst q dd =>
      have e := strs_of dd h.1
      subst e
      refine mt_join pins s σ H _ _ v us Q I rx rv ⟨_, _, _, rfl, rfl, .inl (.inl (.inl (hid_sub _ _ q))), ?_, af _ _ h.2.2 _ _ ok (.str _) (Lat.refl _ _)⟩
      rw [List.map_map, List.length_map]
      exact Nat.le_trans h.2.1 (by decide)
  · cases dt
    obtain ⟨w, rfl, dw⟩ := one_of dts
    cases dw with
    | tup q dd =>
      have e := strs_of dd h.1
      subst e
      refine mt_join pins s σ H _ _ v us Q I rx rv ⟨_, _, _, rfl, rfl, .inr (sqT_same hid_sub q), ?_, af _ _ h.2.2 _ _ ok (.str _) (Lat.refl _ _)⟩
      rw [List.map_map, List.length_map]
      exact Nat.le_trans h.2.1 (by decide)
  · exact h.elim
end

/-! d[k] = v of a dict that may change -/
def putS (T U W : TEd) : TSd := fun B ds M => W ds M fun v M1 => T ds M1 fun d M2 => U ds M2 fun k M3 => match d, k with
  | .ref a, .str z => match M3 a with
    | some (.dic kvs) => kvs.length < 1000000 ∧ B.nx ds (updM M3 a (.dic (putD kvs (.inr z) v)))
    | _ => False
  | .ref a, .int i => match M3 a with
    | some (.lst xs) => match ixN xs.length i with
      | some j => B.nx ds (updM M3 a (.lst (xs.set j v)))
      | none => False
    | _ => False
  | _, _ => False
/-- {k: v, ..}, the keys written; a dict that may change (true), or that never changes -/
def dispD (m : Bool) (ks : List Str) (U : TAd) : TEd := fun ds M F => ∀ p, M p = none → U ds (updM M p (.dic [])) fun xs M1 => xs.length = ks.length ∧ M1 p = some (.dic []) ∧ match m with
  | true => F (.ref p) (updM M1 p (.dic ((ks.map Sum.inr).zip xs)))
  | false => F (.dic ((ks.map Sum.inr).zip xs)) (delM M1 p)
theorem AftS.setM {K : PySem.W.Frag} {M : Mp} {H : Hp} {B : Endd} {E : Ends} {a : Addr} {ho : HO} {o m : MO} {ds : Ds} {σ : L2.St} (af : AftS K M H B E) (ok : HpOk K M H) (ev : Env K M H σ ds) (e : M a = some o) (hm : Same (hid M H) (hid (updM M a m) (upd H a ho)) → MOk K (updM M a m) (upd H a ho) a m) (f : B.nx ds (updM M a m)) : E.nx σ (upd H a ho) := by
  have q : Same (hid M H) (hid (updM M a m) (upd H a ho)) := fun b u hb => by
    obtain ⟨n, eb⟩ := hid_some hb
    have nb : b ≠ a := fun z => by rw [z, e] at n; cases n
    rw [hid_of (by rw [updM_ne nb]; exact n), upd_ne nb]
    exact eb
  obtain ⟨ok2, l2⟩ := ok.put (p := a) (o := ho) (m := m) (.inl (by rw [e]; simp)) (hm q)
  exact af.nx _ _ f _ _ (ev.mono l2) ok2 l2
section
variable {X : Cx} {o i value : Expr} {T U W : TEd} {pos pos' : Pos}
theorem set_any (hu : X.A.units + 1 < cLine) : PSet X (fun o i v H Q => rSetL o i v H Q ∨ ∃ a H4, o = .ref a ∧ DPut H a i v H4 ∧ Q H4) := by
  intro pins s σ H o i v ov iv u Q I ro ri rv h
  rcases h with h | ⟨a, H4, rfl, g, q⟩
  · exact set_list pins s σ H o i v ov iv u Q I ro ri rv h
  · cases ro
    exact d_setItem hu I g ri rv fun s4 I4 => ⟨H4, I4, q⟩
theorem ds_put (hu : X.A.units + 1 < cLine) (ho : DE X o T) (hi : DE X i U) (hv : DE X value W) (hs : swapsWithSole [.Subscript o i pos'] value pos.line X.env = pure false := by rfl) (hw : swappedStores [.Subscript o i pos'] value X.env = pure none := by rfl)
    (h1 : (assignEach [.Subscript o i pos'] X.env).map (·.2) = [assign (.Subscript o i pos') X.env] := by rfl)
    (ha : ∀ v, assign (.Subscript o i pos') X.env v = (do
      let ov ← holding [v] (eval o X.env)
      let iv ← holding [v, ov] (eval i X.env)
      standAt pos'
      holding [v, ov, iv] (setItem ov iv v)
      release [v, ov, iv] []) := by intro _; rfl) : DS X (.Assign [.Subscript o i pos'] value pos) (putS T U W) := (ps_asg hv (pg_sub ho hi (set_any hu) ha) hs hw h1).fimp fun E σ H ⟨ds, M, B, ev, ok, h, af⟩ =>
  ⟨ds, M, _, ev, ok, h, fun v M1 h1 w H1 ok1 dt1 l1 => ⟨ds, M1, _, ev.mono l1, ok1, h1, fun d M2 h2 x H2 ok2 dt2 l2 => ⟨ds, M2, _, (ev.mono l1).mono l2, ok2, h2, fun k M3 h3 y H3 ok3 dt3 l3 => by
    have lt := (l1.trans l2).trans l3
    have ev3 := ev.mono lt
    have dv := dt1.mono (l2.trans l3).same
    have dx := dt2.mono l3.same
    have af3 := af.later lt
    cases dx with
    | ref a =>
      cases dt3 with
      | str z =>
        simp only at h3
        split at h3
        · next e =>
          obtain ⟨xs, e1, d1⟩ := ok3 _ _ e
          refine .inr ⟨a, _, rfl, DPut.k (k := .inr z) e1 (by rw [d1.length]; exact big_lt h3.1), ?_⟩
          exact af3.setM (m := .dic (putD _ (.inr z) v)) ok3 ev3 e (fun q => ⟨_, upd_same, (d1.mono q).put (dv.mono q)⟩) h3.2
        · exact h3.elim
      | int i =>
        simp only at h3
        split at h3
        · next e =>
          obtain ⟨xs, e1, d1⟩ := ok3 _ _ e
          split at h3
          · next j ej =>
            refine .inl ⟨a, xs, i, j, rfl, rfl, e1, by rw [d1.length]; exact ej, ?_⟩
            exact af3.setM (m := .lst (List.set _ j v)) ok3 ev3 e (fun q => ⟨_, upd_same, (d1.mono q).set j (dv.mono q)⟩) h3
          · exact h3.elim
        · exact h3.elim
      | _ => exact h3.elim
    | _ => exact h3.elim⟩⟩⟩
end
/-- the pairs of a display, the keys written texts -/
inductive Disp (X : Cx) (pos : Pos) : List (Option Expr) → List Expr → List Str → TAd → Prop
  | nil : Disp X pos [] [] [] nilD
  | cons {k : Nat} {p : Pos} {z : Str} {e : Expr} {ks : List (Option Expr)} {vs : List Expr} {zs : List Str} {T : TEd} {U : TAd} : DE X e T → Disp X pos ks vs zs U → Disp X pos (some (.Constant (.str z) k p) :: ks) (e :: vs) (z :: zs) (consD T U)
theorem Disp.pps {X : Cx} {pos : Pos} {ks : List (Option Expr)} {vs : List Expr} {zs : List Str} {U : TAd} (h : Disp X pos ks vs zs U) : ∃ trs, PPs X pos ks vs trs ∧ ks.length = vs.length ∧ ks.all (·.isSome) = true ∧ zs.length = ks.length ∧
    ∀ ds M F σ H (Q : List (V × V) → Hp → Prop), Env X.K M H σ ds → HpOk X.K M H → U ds M F → (∀ xs M', F xs M' → ∀ ws H', HpOk X.K M' H' → Dts X.K (hid M' H') ws xs → Lat M H M' H' → Q ((zs.map V.str).zip ws) H') → tPairs trs σ H Q := by
  induction h with
  | nil => exact ⟨[], pps_nil, rfl, rfl, rfl, fun ds M F σ H Q ev ok u q => q _ _ u _ _ ok .nil (Lat.refl _ _)⟩
  | cons he _ ih =>
    obtain ⟨trs, h1, h2, h3, h4, h5⟩ := ih
    refine ⟨_, pps_cons pe_str he h1, by simp [h2], by simpa using h3, by simp [h4], fun ds M F σ H Q ev ok u q => ?_⟩
    refine ⟨ds, M, _, ev, ok, u, fun d M1 g1 v H1 ok1 dt l1 => ?_⟩
    exact h5 ds M1 _ σ H1 _ (ev.mono l1) ok1 g1 fun xs M2 g2 ws H2 ok2 dts l2 => q _ _ g2 (v :: ws) H2 ok2 (.cons (dt.mono l2.same) dts) (l1.trans l2)
theorem zip_merge : ∀ (zs : List Str) (ws : List V) (acc : List (Key × V)), zs.Nodup → (∀ z ∈ zs, ∀ p ∈ acc, p.1 ≠ Sum.inr z) → mergeK acc ((zs.map Sum.inr).zip ws) = acc ++ (zs.map Sum.inr).zip ws
  | [], ws, acc, _, _ => by simp [mergeK]
  | z :: zs, [], acc, _, _ => by simp [mergeK]
  | z :: zs, w :: ws, acc, nd, h => by
    have nd' := List.nodup_cons.mp nd
    show mergeK (putK acc (Sum.inr z) w) ((zs.map Sum.inr).zip ws) = acc ++ (Sum.inr z, w) :: (zs.map Sum.inr).zip ws
    have e : putK acc (Sum.inr z) w = acc ++ [(Sum.inr z, w)] := by
      unfold putK
      rw [if_neg]
      simp only [List.any_eq_true, decide_eq_true_eq, not_exists, not_and]
      intro p hp
      exact h z List.mem_cons_self p hp
    rw [e, zip_merge zs ws _ nd'.2 fun y hy p hp => ?_, List.append_assoc]
    · rfl
    · rcases List.mem_append.mp hp with q | q
      · exact h y (List.mem_cons_of_mem _ hy) p q
      · have : p = (Sum.inr z, w) := by simpa using q
        subst this
        intro ez
        have : z = y := Sum.inr.inj ez
        subst this
        exact nd'.1 hy
theorem Dtk.zip {K : PySem.W.Frag} {G : Hp} : ∀ (zs : List Str) {ws : List V} {xs : List D}, Dts K G ws xs → Dtk K G ((zs.map Sum.inr).zip ws) ((zs.map Sum.inr).zip xs)
  | [], _, _, _ => by simp; exact .nil
  | z :: zs, _, _, .nil => by simp; exact .nil
  | z :: zs, _, _, .cons h1 h2 => .cons h1 (Dtk.zip zs h2)
section
variable {X : Cx} {pos : Pos} {ks : List (Option Expr)} {vs : List Expr} {zs : List Str} {U : TAd}
theorem de_disp (m : Bool) (h : Disp X pos ks vs zs U) (h0 : ks ≠ []) (h15 : ks.length ≤ 15) (nd : zs.Nodup) : DE X (.Dict ks vs pos) (dispD m zs U) := by
  obtain ⟨trs, h1, h2, h3, h4, h5⟩ := h.pps
  refine (pe_disp h1 h3 h2 h0 h15).fimp fun σ H Q ⟨ds, M, F, ev, ok, t, af⟩ => ?_
  intro p np
  obtain ⟨ok1, l1⟩ := ok.put (p := p) (o := .dK []) (m := .dic []) (.inr np) ⟨[], upd_same, .nil⟩
  refine h5 ds _ _ σ _ _ (ev.mono l1) ok1 (t p (ok.free np)) fun xs M1 ⟨el, eM, f⟩ ws H1 ok2 dts l2 => ?_
  obtain ⟨kv0, e1, d1⟩ := ok2 _ _ eM
  cases d1
  have lw := dts.length
  refine ⟨e1, (zs.map Sum.inr).zip ws, ?_, ?_, ?_⟩
  · clear h5 e1 dts f
    have : ∀ (zs : List Str) (ws : List V), (zs.map V.str).zip ws = ((zs.map Sum.inr).zip ws).map fun kv : Key × V => (kV kv.1, kv.2) := by
      intro zs
      induction zs with
      | nil => intro ws; simp
      | cons z zs ih =>
        intro ws
        cases ws with
        | nil => simp
        | cons w ws => simp only [List.map_cons, List.zip_cons_cons, ih ws]; rfl
    exact this zs ws
  · rw [List.length_zip, List.length_map]
    omega
  · rw [zip_merge zs ws [] nd (fun _ _ _ hp => by cases hp), List.nil_append]
    have q : Same (hid M1 H1) (hid (updM M1 p (.dic ((zs.map Sum.inr).zip xs))) (upd H1 p (.dK ((zs.map Sum.inr).zip ws)))) := fun b u hb => by
      obtain ⟨n, eb⟩ := hid_some hb
      have nb : b ≠ p := fun z => by rw [z, eM] at n; cases n
      rw [hid_of (by rw [updM_ne nb]; exact n), upd_ne nb]
      exact eb
    obtain ⟨ok3, l3⟩ := ok2.put (p := p) (o := .dK ((zs.map Sum.inr).zip ws)) (m := .dic ((zs.map Sum.inr).zip xs)) (.inl (by rw [eM]; simp)) ⟨_, upd_same, Dtk.zip zs (dts.mono q)⟩
    cases m with
    | true => exact af _ _ f _ _ ok3 (.ref p) ((l1.trans l2).trans l3)
    | false =>
      obtain ⟨ok4, l4⟩ := ok3.frz p
      have ed : delM (updM M1 p (.dic ((zs.map Sum.inr).zip xs))) p = delM M1 p := by
        funext b
        unfold delM updM
        split <;> rfl
      rw [ed] at ok4 l4
      refine af _ _ f _ _ ok4 (.dic ?_ (Dtk.zip zs ((dts.mono q).mono l4.same))) (((l1.trans l2).trans l3).trans l4)
      rw [hid_of delM_same]
      exact upd_same
/-- {} -/
theorem de_dic0 : DE X (.Dict [] [] pos) (cD (.dic [])) := pe_dnewK.fimp fun σ H Q ⟨ds, M, F, ev, ok, h, af⟩ => fun p np => by
  obtain ⟨ok2, l2⟩ := ok.lay (p := p) (o := .dK []) np
  refine af _ _ h _ _ ok2 (.dic ?_ .nil) l2
  rw [hid_of (ok.free np)]
  exact upd_same
end

/-! x in e -/
def inR (neg : Bool) : R2d
  | .str x, .str z, M, F => match x.cps.toList with
    | [c] => F (.bl (if neg then !decide (c ∈ z.cps.toList) else decide (c ∈ z.cps.toList))) M
    | _ => False
  | _, _, _, _ => False
section
variable {X : Cx}
theorem or_in : OpR X (compareOp .In) (up2 X.K (inR false)) := by
  intro pins s σ H x y v u Q I rx ry h
  obtain ⟨a, b, M, F, da, db, ok, h, af⟩ := h
  cases da <;> cases db <;> first | exact h.elim | skip
  next x z =>
  simp only [inR] at h
  split at h
  · next c e =>
    obtain ⟨⟨l⟩⟩ := x
    simp only at e
    subst e
    exact op_in_sign pins s σ H _ _ v u Q I rx ry ⟨c, z, rfl, rfl, af _ _ h _ _ ok (.bl _) (Lat.refl _ _)⟩
  · exact h.elim
end
end Fx

namespace Fx
open PySem PySem.Spec PyProof.Rows L2

/-! the law's own call: nothing is shown by repr there -/
theorem callerG : callerA.guards = some [] := rfl
theorem enterG {P : Program} {w : World} {K : PySem.W.Frag} {mg mb : Str → Option Value} {k : Nat} {fa a : Addr} {fd : FuncData} {x : Str} {R : RD} {s₁ : Shared} {vs : List Value} {ns : List Int}
    (KX : K.In s₁.heap) (gn : s₁.heap.Ns mainGlobals mg) (bn : s₁.heap.Ns builtinsNs mb) (bb : ∀ x : Str, x ≠ "__name__" → mb x = bootBuiltins x) (lim : s₁.heap.NoLimit) (gen : s₁.gens = #[])
    (ha : s₁.heap.get? a = some { cls := .type "list", data := .seq vs.toArray }) (hi : IntsAre vs ns) (hl : ns.length ≤ sizeLine) (hr : Room k callerA)
    (F : ∀ base : Heap, K.In base → base.Ns mainGlobals mg → FnG P w K mg base CX0 k fa fd [x] (SpD K 1 R)) (hbind : ∀ (s : Shared) (u : Value), BindsTo s fd ⟨[u], []⟩ [(x, u)])
    (hR : ∀ M : Mp, R [.slst (ns.map D.int)] M fun d _ => d = .bl true) :
    codeAny (model P w) callerA (.call (.ref fa) ⟨[.ref a], []⟩) (fun r s' => r = .ok (.ret (.bool true)) ∧ OldK s₁.heap s'.heap ∧ s'.os = s₁.os ∧ AllBare s'.gens) s₁ := by
  have rel := vals_ints hi
  have ln := hi.length
  have main : ∀ H : Hp, Only H → SqL K H a (ns.map V.int) → HOk P w H s₁.heap → (∀ b, H b ≠ none → b = a) → (H a ≠ none → K.lookup a = none) →
      codeAny (model P w) callerA (.call (.ref fa) ⟨[.ref a], []⟩) (fun r s' => r = .ok (.ret (.bool true)) ∧ OldK s₁.heap s'.heap ∧ s'.os = s₁.os ∧ AllBare s'.gens) s₁ := by
    intro H only sq hok hA hK
    have out : ∀ {b : Addr} {o : Obj} {es : Array DictEntry} {ep : Nat}, s₁.heap.get? b = some o → o.data = .dict es ep → H b = none := by
      intro b o es ep e d
      refine Decidable.byContradiction fun n => ?_
      have eb := hA b n
      rw [eb, ha] at e
      cases e
      cases d
    have keepNs : ∀ {b : Addr} {m : Str → Option Value}, s₁.heap.Ns b m → (hidT s₁.heap H).Ns b m := fun ⟨o, es, ep, e, d, r⟩ => ⟨o, es, ep, hidT_get e (out e d), d, r⟩
    have kb : K.In (hidT s₁.heap H) := fun b o e => hidT_get (KX b o e) (Decidable.byContradiction fun n => by
      have eb := hA b n
      rw [eb] at n e
      rw [hK n] at e
      cases e)
    have md : Mod K mg (hidT s₁.heap H) := ⟨kb, keepNs gn, ⟨mb, keepNs bn, bb⟩, let ⟨mc, h1, h2⟩ := lim; ⟨mc, keepNs h1, h2⟩⟩
    have en : Env0 P w K mg (hidT s₁.heap H) callerA [] s₁ H := ⟨rfl, md, fun b o e => of_hidT e, Nat.le_of_eq (hidT_size _ _), trivial, fun b hb => absurd (show b ∈ ([] : List Addr) from hb) (by simp), hok, .of_eq gen⟩
    have wish : SpD K 1 R [.ref a] H (fun v _ => v = .bl true) fun _ _ _ => False := by
      have e : hid (fun _ => none) H = H := by funext b; rfl
      refine ⟨[.slst (ns.map D.int)], fun _ => none, _, rfl, .cons (.slst (by rw [e]; exact sq) (Dts.ints ns)) .nil, ⟨(fun b o z => by cases z), trivial⟩, hR _, ?_⟩
      intro d M' ed v H' _ dt _
      subst ed
      cases dt
      rfl
    refine codeAny_mono ((F _ kb (keepNs gn)).go callerA [] s₁ H ⟨[.ref a], []⟩ [.ref a] [.ref a] _ _ callerG hr en (hbind s₁ (.ref a)) (.cons rfl .nil) wish) fun r s' h => ?_
    match r, h with
    | .error e, h => exact h.elim
    | .ok .next, h => exact h.elim
    | .ok .brk, h => exact h.elim
    | .ok .cont, h => exact h.elim
    | .ok (.ret u), ⟨v, H', os, bare, un, hok', rv, q⟩ =>
      have q' : v = .bl true := q
      subst q'
      obtain rfl : u = Value.bool true := rv
      refine ⟨rfl, OldK.of_keep fun b o e => ?_, os, bare⟩
      cases eb : H b with
      | none => exact un.keep b o e eb (by intro z; exact absurd (show b ∈ ([] : List Addr) from z) (by simp)) (by simp)
      | some y =>
        rcases only b with z | ⟨ob, xs, z⟩
        · rw [eb] at z; cases z
        · obtain ⟨e1, _⟩ := hok b _ z
          obtain ⟨e2, _⟩ := hok' b _ (un.frzs b ob _ z)
          rw [e] at e1
          cases e1
          exact e2
  cases hk : K.lookup a with
  | some o =>
    have e := KX a o hk
    rw [ha] at e
    cases e
    exact main (fun _ => none) (fun _ => .inl rfl) (.inr ⟨_, vs.toArray, _, hk, rfl, rfl, rfl, by rw [List.size_toArray, ln]; exact hl, by simpa using rel⟩) (fun b u z => by cases (show (none : Option HO) = some u from z)) (fun b z => absurd rfl z) fun z => absurd rfl z
  | none =>
    have at_a : ∀ (b : Addr), b = a → (fun b => if b = a then some (HO.frz { cls := .type "list", data := .seq vs.toArray } (.lst (ns.map V.int))) else none) b = some (HO.frz { cls := .type "list", data := .seq vs.toArray } (.lst (ns.map V.int))) := fun b e => if_pos e
    have off_a : ∀ (b : Addr), b ≠ a → (fun b => if b = a then some (HO.frz { cls := .type "list", data := .seq vs.toArray } (.lst (ns.map V.int))) else none) b = none := fun b e => if_neg e
    refine main (fun b => if b = a then some (HO.frz { cls := .type "list", data := .seq vs.toArray } (.lst (ns.map V.int))) else none) (fun b => ?_) (.inl (.inr ⟨_, at_a a rfl⟩)) (fun b u z => ?_) (fun b z => ?_) fun _ => hk
    · by_cases hb : b = a
      · exact .inr ⟨_, _, at_a b hb⟩
      · exact .inl (off_a b hb)
    · by_cases hb : b = a
      · rw [at_a b hb] at z
        cases z
        subst hb
        exact ⟨ha, by rw [List.length_map]; exact hl, vs, _, rel, ha⟩
      · rw [off_a b hb] at z
        cases z
    · by_cases hb : b = a
      · exact hb
      · exact absurd (off_a b hb) z
theorem walkG {l : PySem.W.OpenLaw} {n k : Nat} {q : Program} {loose : List Str} {XP : (Str → Option Value) → Heap → Prop} {YP : World → Heap → Prop} {d : DefRec} {K : Params → PySem.W.Frag} {R : RD} {x : Str}
    (hn : l.most = some n) (hn2 : n ≤ sizeLine) (hdf : d.params.defaults = []) (hr : Room k callerA)
    (hY : ∀ (w : World) (h : Heap), YP w h → (K w.params).In h)
    (F : ∀ (w : World) (mg : Str → Option Value) (fa : Addr) (h : Heap), (K w.params).In h → h.Ns mainGlobals mg → mg d.name = some (.ref fa) →
      ∃ fd : FuncData, (∀ (s : Shared) (u : Value), BindsTo s fd ⟨[u], []⟩ [(x, u)]) ∧
        ∀ base : Heap, (K w.params).In base → base.Ns mainGlobals mg → FnG l.prog w (K w.params) mg base CX0 k fa fd [x] (SpD (K w.params) 1 R))
    (hR : ∀ (ns : List Int) (M : Mp), ns.length ≤ n → R [.slst (ns.map D.int)] M fun d _ => d = .bl true) :
    PySem.W.WalkO q loose XP YP l.row.toRowW d [] (fun f vs => PySem.call f vs) := by
  refine Att.attach_call hn hdf fun w s₀ s₁ mg mb fa o pm cd doc a vs ns G Y ho hd hcd hmg hobj hints hlen hg => ?_
  have KX := hY w _ Y
  obtain ⟨fd, hb, hF⟩ := F w mg fa _ KX G.T.g hmg
  exact enterG KX G.T.g G.T.b G.T.builtins G.T.nolimit hg hobj hints (Nat.le_trans hlen hn2) hr hF hb fun M => hR ns M hlen
/-! what is known of a name of the module -/
structure FnH (P : Program) (w : World) (K : PySem.W.Frag) (mg : Str → Option Value) (base : Heap) (k : Nat) (x : Str) (f : Addr) (fd : FuncData) (ps : List Str) (R : RD) : Prop where
  fn : FnG P w K mg base CX0 k f fd ps (SpD K ps.length R)
  hn : ∀ xs M F, R xs M F → xs.length = ps.length
  gm : mg x = some (.ref f)
  kp : PySem.W.keepIn K (.ref f) = true
  bi : Binds K fd ps []
/-- a constant of the module -/
def GV (K : PySem.W.Frag) (mg : Str → Option Value) (x : Str) (d : D) : Prop := ∃ u v, mg x = some u ∧ RelV v u ∧ ∀ G, Dt K G v d
theorem GV.str {K : PySem.W.Frag} {mg : Str → Option Value} {x z : Str} {t : Tok} (h : mg x = some (.str z t)) : GV K mg x (.str z) := ⟨_, .str z, h, ⟨t, rfl⟩, fun _ => .str z⟩
theorem GV.int {K : PySem.W.Frag} {mg : Str → Option Value} {x : Str} {i : Int} {t : Tok} (h : mg x = some (.int i t)) : GV K mg x (.int i) := ⟨_, .int i, h, ⟨t, rfl⟩, fun _ => .int i⟩
theorem u200 {A : Around} {k : Nat} (hr : Room k A) : A.units + 200 < cLine := by have := hr.un; omega
section
variable [Grd]
variable {X : Cx} {j k : Nat} {f : Addr} {fd : FuncData} {ps ks : List Str} {R : RD} {x : Str} {p pos : Pos} {e : Expr} {es : List Expr} {kws : List Keyword} {U W : TAd} {d : D}
theorem dk (h : GV X.K X.mg x d) (hg : Gl X x := by rfl) (hdb : (x == ("__debug__" : Str)) = false := by decide) : DE X (.Name x pos) (cD d) := by
  obtain ⟨u, v, h1, h2, h3⟩ := h
  exact de_glob hg h1 h2 h3 hdb
theorem dcall (h : FnH X.prog X.w X.K X.mg X.base j x f fd ps R) (gd : X.A.guards = some []) (hr : Room k X.A) (ha : DA X (e :: es) U) (hjk : j ≤ k := by decide) (hg : Gl X x := by rfl) (hdb : (x == ("__debug__" : Str)) = false := by decide) (he : starEach (e :: es) X.env = (false, eval e X.env) :: starEach es X.env := by rfl) (hpl : (backTo pos (starEach es X.env)).any (·.1) = false := by rfl) :
    DE X (.Call (.Name x p) (e :: es) [] pos) (callD R U) := de_call h.fn h.hn gd (hr.mono hjk) hg h.gm h.kp h.bi ha hdb he hpl
variable {g : List Value → List Value → List Value} {gV : List V → List V → List V} {gD : List D → List D → List D}
theorem dcallK0 (h : FnH X.prog X.w X.K X.mg X.base j x f fd ps R) (hb : KBinds X.K fd ps ks g gV) (hgd : ∀ G vs ws xs ys, Dts X.K G vs xs → Dts X.K G ws ys → Dts X.K G (gV vs ws) (gD xs ys)) (gd : X.A.guards = some []) (hr : Room k X.A) (hkw : DQ X kws W) (hjk : j ≤ k := by decide) (hg : Gl X x := by rfl)
    (hall : (backToKw pos (keywordEach kws X.env)).all (·.1.isSome) = true := by rfl) (hks : (backToKw pos (keywordEach kws X.env)).filterMap (·.1) = ks := by rfl) (hdb : (x == ("__debug__" : Str)) = false := by decide)
    (hpl : ((backTo pos (starEach [] X.env)).any (·.1) || (backToKw pos (keywordEach kws X.env)).any (·.1.isNone)) = false := by rfl) :
    DE X (.Call (.Name x p) [] kws pos) (callKD R gD nilD W) := de_callK0 h.fn h.hn gd (hr.mono hjk) hg h.gm h.kp hb hgd hkw hall hks hdb hpl
end
/-- keywords alone: in the order of the parameters; two of them, the other way round -/
def kid {α : Type} (us ws : List α) : List α := match us with
  | [] => ws
  | _ :: _ => []
def kswap {α : Type} (us ws : List α) : List α := match us, ws with
  | [], [a, b] => [b, a]
  | _, _ => []
section
variable {K : PySem.W.Frag} {x qual : Str} {st : Stmt} {f : Addr} {fd : FuncData} {ps ks : List Str}
theorem kb_id (F : Fun K x qual st f fd) (hp : ps ≠ [])
    (h : ∀ (kV doc pm : Value) (an : Option Addr) (cdv ct : Value) (ws : List Value), ws.length = ps.length → bindArgs (PySem.W.fnOf x qual (defArgs st) (defBody st) (defScope st) .none kV doc pm an cdv ct) ⟨[], ps.zip ws⟩ = pure (ps.zip ws)) : KBinds K fd ps ps kid kid := by
  obtain ⟨oc, od, kV, doc, pm, an, cdv, ct, osl, rfl, lk, hcd⟩ := F.ex
  refine ⟨fun s us ws _ hl => ?_, fun {vs us zs ws} r1 r2 => ?_⟩
  · cases us with
    | nil => exact .of_eq (h kV doc pm an cdv ct ws hl)
    | cons u us => exact absurd (List.length_eq_zero_iff.mp hl.symm) hp
  · cases r1 with
    | nil => exact r2
    | cons _ _ => exact .nil
theorem kb_swap {p q : Str} (F : Fun K x qual st f fd)
    (h : ∀ (kV doc pm : Value) (an : Option Addr) (cdv ct : Value) (a b : Value), bindArgs (PySem.W.fnOf x qual (defArgs st) (defBody st) (defScope st) .none kV doc pm an cdv ct) ⟨[], [(q, a), (p, b)]⟩ = pure [(p, b), (q, a)]) : KBinds K fd [p, q] [q, p] kswap kswap := by
  obtain ⟨oc, od, kV, doc, pm, an, cdv, ct, osl, rfl, lk, hcd⟩ := F.ex
  refine ⟨fun s us ws _ hl => ?_, fun {vs us zs ws} r1 r2 => ?_⟩
  · match us, ws, hl with
    | [], [a, b], _ => exact .of_eq (h kV doc pm an cdv ct a b)
    | [], [], hl => cases hl
    | [], [_], hl => cases hl
    | [], _ :: _ :: _ :: _, hl => cases hl
    | _ :: _, _, hl => cases hl
  · cases r1 with
    | nil =>
      cases r2 with
      | nil => exact .nil
      | cons a r2 =>
        cases r2 with
        | nil => exact .nil
        | cons b r2 =>
          cases r2 with
          | nil => exact .cons b (.cons a .nil)
          | cons _ _ => exact .nil
    | cons _ _ => exact .nil
theorem gd_id : ∀ (G : Hp) (vs ws : List V) (xs ys : List D), Dts K G vs xs → Dts K G ws ys → Dts K G (kid vs ws) (kid xs ys) := fun G vs ws xs ys h1 h2 => by
  cases h1 with
  | nil => exact h2
  | cons _ _ => exact .nil
theorem gd_swap : ∀ (G : Hp) (vs ws : List V) (xs ys : List D), Dts K G vs xs → Dts K G ws ys → Dts K G (kswap vs ws) (kswap xs ys) := fun G vs ws xs ys h1 h2 => by
  cases h1 with
  | nil =>
    cases h2 with
    | nil => exact .nil
    | cons a h2 =>
      cases h2 with
      | nil => exact .nil
      | cons b h2 =>
        cases h2 with
        | nil => exact .cons b (.cons a .nil)
        | cons _ _ => exact .nil
  | cons _ _ => exact .nil
end
end Fx

namespace Fx
open PySem PySem.Spec PyProof.Rows L2

/-! zip of two sequences (true: a list, false: a tuple), with strict=True -/
def SqI (b : Bool) (h : Heap) (it l : Addr) (k : Nat) : Prop := if b then h.IsListIter it l k else h.IsTupleIter it l k
def SqS (b : Bool) (h : Heap) (l : Addr) (xs : Array Value) : Prop := if b then h.IsList l xs else h.IsTuple l xs
theorem SqI.at {b : Bool} {h h' : Heap} {it l : Addr} {k : Nat} (x : SqI b h it l k) (q : ∀ o, h.get? it = some o → h'.get? it = some o) : SqI b h' it l k := by
  cases b
  · exact Heap.IsTupleIter.at (h := h) x q
  · exact Heap.IsListIter.at (h := h) x q
theorem SqS.at {b : Bool} {h h' : Heap} {l : Addr} {xs : Array Value} (x : SqS b h l xs) (q : ∀ o, h.get? l = some o → h'.get? l = some o) : SqS b h' l xs := by
  cases b
  · exact Heap.IsTuple.at (h := h) x q
  · exact Heap.IsList.at (h := h) x q
section
variable {prog : Program} {w : World} {A : Around} {E : Value → Shared → Prop} {s : Shared}
theorem nx_item {b : Bool} {it l : Addr} {k : Nat} {xs : Array Value} {x : Value} {Q : Value → Shared → Prop} (hi : SqI b s.heap it l k) (hs : SqS b s.heap l xs) (hx : xs[k]? = some x)
    (hQ : ∀ h', SqI b h' it l (k + 1) → Heap.SameBut it s.heap h' → Q x { s with heap := h' }) : wpAny (model prog w) A (Builtin.SmallTypes.nextOf (.ref it)) Q E s := by
  cases b
  · exact RZ.nextOf_tuple_item hi hs hx hQ
  · exact wpAny_nextOf_list_item hi hs hx hQ
theorem nx_end {b : Bool} {it l : Addr} {k : Nat} {xs : Array Value} {Q : Value → Shared → Prop} (hh : A.handled = none) (hi : SqI b s.heap it l k) (hs : SqS b s.heap l xs) (hx : xs[k]? = none)
    (hE : ∀ h' e, Heap.ExtBut it s.heap h' → (∃ o, h'.get? e = some o ∧ o.cls = .type "StopIteration") → E (.ref e) { s with heap := h' }) : wpAny (model prog w) A (Builtin.SmallTypes.nextOf (.ref it)) Q E s := by
  cases b
  · exact RZ.nextOf_tuple_end hh hi hs hx hE
  · exact wpAny_nextOf_list_end hh hi hs hx hE
theorem ne_item {b : Bool} {it l : Addr} {k : Nat} {xs : Array Value} {x : Value} {Q : Option Value → Shared → Prop} (hi : SqI b s.heap it l k) (hs : SqS b s.heap l xs) (hx : xs[k]? = some x)
    (hQ : ∀ h', SqI b h' it l (k + 1) → Heap.SameBut it s.heap h' → Q (some x) { s with heap := h' }) : wpAny (model prog w) A (Builtin.SmallTypes.nextOrEnd (.ref it)) Q E s := by
  unfold Builtin.SmallTypes.nextOrEnd
  exact wpAny_bind (wpAny_attempt (nx_item hi hs hx fun h' a1 a2 => wpAny_pure (hQ h' a1 a2)))
theorem ne_end {b : Bool} {it l : Addr} {k : Nat} {xs : Array Value} {Q : Option Value → Shared → Prop} (hh : A.handled = none) (hi : SqI b s.heap it l k) (hs : SqS b s.heap l xs) (hx : xs[k]? = none)
    (hQ : ∀ h', Heap.ExtBut it s.heap h' → Q none { s with heap := h' }) : wpAny (model prog w) A (Builtin.SmallTypes.nextOrEnd (.ref it)) Q E s := by
  unfold Builtin.SmallTypes.nextOrEnd
  refine wpAny_bind (wpAny_attempt (nx_end hh hi hs hx fun h' e q1 ⟨o, q2, q3⟩ => ?_))
  exact wpAny_bind (wpAny_isInstance (T := "StopIteration") (b := true) ⟨o, q2, q3⟩ isSubtype_stop (wpAny_pure (hQ h' q1)))
end
abbrev ZipS (h : Heap) (z TI TO : Addr) (f0 : Value) : Prop := h.get? z = some { cls := .type "zip", dict := none, data := .fields #[f0, .bool false, .bool true, .ref TI, .ref TO], slots := #[] }
section
variable {prog : Program} {w : World} {A : Around} {E : Value → Shared → Prop} {s : Shared}
theorem stop_it {α : Type} {Q : α → Shared → Prop} (hh : A.handled = none) (hE : ∀ h' e, (∀ c o, s.heap.get? c = some o → h'.get? c = some o) → (∃ o, h'.get? e = some o ∧ o.cls = .type "StopIteration") → E (.ref e) { s with heap := h' }) :
    wpAny (model prog w) A (Builtin.SmallTypes.stopIteration (α := α)) Q E s := by
  unfold Builtin.SmallTypes.stopIteration
  simp only [newExc, newTuple, raiseNew]
  refine wpAny_bind (wpAny_bind (wpAny_newObj_type (wpAny_bind (m := firstArgMember _ _) (wpAny_of_eq (a := Value.none) (by first | rfl | (simp only [firstArgMember]; rfl)) (wpAny_newObj_type ?_ (by size_fits)))) (by size_fits)))
  refine wpAny_bind (wpAny_handled ?_)
  rw [hh]
  refine wpAny_bind (wpAny_pure (wpAny_throw ?_))
  exact hE _ _ (fun c o e => Heap.get?_push_of_some _ (Heap.get?_push_of_some _ e)) ⟨_, Heap.get?_push_size _ rfl, rfl⟩
end
section
variable {prog : Program} {w : World} {A : Around} {E : Value → Shared → Prop} {s : Shared} {z TI TO i1 i2 l1 l2 : Addr} {b1 b2 : Bool} {k : Nat} {xs ys : Array Value} {x y a b : Value}
theorem zs_item {Q : Value → Shared → Prop} (D : ZipApart z TI TO i1 i2 l1 l2) (hz : ZipS s.heap z TI TO .none) (hI : IsPair s.heap TI (.ref i1) (.ref i2)) (hO : IsPair s.heap TO a b)
    (h1 : SqI b1 s.heap i1 l1 k) (h2 : SqI b2 s.heap i2 l2 k) (g1 : SqS b1 s.heap l1 xs) (g2 : SqS b2 s.heap l2 ys) (hx : xs[k]? = some x) (hy : ys[k]? = some y)
    (hQ : ∀ h', ZipS h' z TI TO (rawInt s.heap.objs.size) → IsPair h' TO x y → SqI b1 h' i1 l1 (k + 1) → SqI b2 h' i2 l2 (k + 1) → IsPair h' s.heap.objs.size x y → h'.objs.size = s.heap.objs.size + 1 →
      (∀ c o, c ≠ z → c ≠ TO → c ≠ i1 → c ≠ i2 → s.heap.get? c = some o → h'.get? c = some o) → Q (.ref s.heap.objs.size) { s with heap := h' }) :
    wpAny (model prog w) A (Builtin.«zip.__next__» ⟨[.ref z], []⟩) (fun fin s' => ∃ v, fin = .done (.ret v) ∧ Q v s') E s := by
  show wpAny _ _ (field (.ref z) 2 >>= fun _ => _) _ _ _
  refine wpAny_bind (wpAny_field hz rfl (x := Value.bool true) rfl ?_)
  show wpAny _ _ (field (.ref z) 3 >>= fun _ => _) _ _ _
  refine wpAny_bind (wpAny_field hz rfl (x := Value.ref TI) rfl (wpAny_bind (wpAny_seqItems hI rfl ?_)))
  show wpAny _ _ (Builtin.SmallTypes.ownedTupleIsFree (.ref z) >>= fun _ => _) _ _ _
  unfold Builtin.SmallTypes.ownedTupleIsFree
  refine wpAny_bind (wpAny_bind (wpAny_field hz rfl (x := Value.none) rfl (wpAny_pure ?_)))
  rw [if_pos rfl]
  refine wpAny_bind (wpAny_rule (wpAny_bind (wpAny_field hz rfl (x := Value.ref TO) rfl ?_)))
  refine wpAny_bind (wpAny_setField_rec hz (by simp) fun t1 z1 c1 => wpAny_bind ?_)
  replace z1 : ZipS t1 z TI TO .ellipsis := z1
  simp only [List.zipIdx_cons, List.zipIdx_nil, List.forIn_cons, List.forIn_nil]
  refine wpAny_bind (wpAny_bind (wpAny_onRaise ?_))
  show wpAny _ _ (Builtin.SmallTypes.nextOrEnd (.ref i1)) _ _ _
  have up1 : ∀ c o, c ≠ z → s.heap.get? c = some o → t1.get? c = some o := fun c o q e => c1.extBut _ _ q e
  refine ne_item (h1.at fun o e => up1 _ o D.i1z e) (g1.at fun o e => up1 _ o D.l1z e) hx fun t2 j2 c2 => ?_
  have up2 : ∀ c o, c ≠ z → c ≠ i1 → s.heap.get? c = some o → t2.get? c = some o := fun c o q r e => c2.extBut _ _ r (up1 c o q e)
  have o2 : IsPair t2 TO a b := up2 _ _ D.TOz D.TOi1 hO
  refine wpAny_bind (wpAny_seqItems o2 rfl (wpAny_bind (wpAny_updateSeq_pair o2 fun t3 o3 c3 => ?_)))
  replace o3 : IsPair t3 TO x b := o3
  have up3 : ∀ c o, c ≠ z → c ≠ i1 → c ≠ TO → s.heap.get? c = some o → t3.get? c = some o := fun c o q r u e => c3.extBut _ _ u (up2 c o q r e)
  refine wpAny_bind (wpAny_letGo (wpAny_pure (wpAny_bind (wpAny_bind (wpAny_onRaise ?_)))))
  show wpAny _ _ (Builtin.SmallTypes.nextOrEnd (.ref i2)) _ _ _
  refine ne_item (h2.at fun o e => up3 _ o D.i2z D.i12.symm D.TOi2.symm e) (g2.at fun o e => up3 _ o D.l2z D.l2i1 D.l2TO e) hy fun t4 j4 c4 => ?_
  have o4 : IsPair t4 TO x b := c4.extBut _ _ D.TOi2 o3
  refine wpAny_bind (wpAny_seqItems o4 rfl (wpAny_bind (wpAny_updateSeq_pair o4 fun t5 o5 c5 => ?_)))
  replace o5 : IsPair t5 TO x y := o5
  refine wpAny_bind (wpAny_letGo (wpAny_pure (wpAny_pure (wpAny_bind (wpAny_seqItems o5 rfl (wpAny_bind (wpAny_newTuple ?_)))))))
  have n5 : t5.objs.size = s.heap.objs.size := by rw [c5.1, c4.1, c3.1, c2.1, c1.1]
  have z5 : ZipS t5 z TI TO .ellipsis := c5.extBut _ _ D.TOz.symm (c4.extBut _ _ D.i2z.symm (c3.extBut _ _ D.TOz.symm (c2.extBut _ _ D.i1z.symm z1)))
  have up5 : ∀ c o, c ≠ z → c ≠ TO → c ≠ i1 → c ≠ i2 → s.heap.get? c = some o → t5.get? c = some o := fun c o q1 q2 q3 q4 e => c5.extBut _ _ q2 (c4.extBut _ _ q4 (up3 c o q1 q3 q2 e))
  have j5 : SqI b1 t5 i1 l1 (k + 1) := j2.at fun o e => c5.extBut _ _ D.TOi1.symm (c4.extBut _ _ D.i12 (c3.extBut _ _ D.TOi1.symm e))
  have m5 : SqI b2 t5 i2 l2 (k + 1) := j4.at fun o e => c5.extBut _ _ D.TOi2.symm e
  have lz : z < t5.objs.size := Heap.lt_size z5
  show wpAny _ _ (Builtin.SmallTypes.ownedTupleHandOut (.ref z) (.ref t5.objs.size) >>= fun _ => _) _ _ _
  unfold Builtin.SmallTypes.ownedTupleHandOut
  have z6 : ZipS (t5.push { cls := .type "tuple", data := .seq #[x, y] }) z TI TO .ellipsis := Heap.get?_push_of_some _ z5
  refine wpAny_bind (wpAny_bind (wpAny_setField_rec z6 (by simp) fun t7 z7 c7 => ?_))
  replace z7 : ZipS t7 z TI TO (rawInt t5.objs.size) := z7
  refine wpAny_setField_rec z7 (by simp) fun t8 z8 c8 => ?_
  replace z8 : ZipS t8 z TI TO (rawInt t5.objs.size) := z8
  have up8 : ∀ c o, c ≠ z → t5.get? c = some o → t8.get? c = some o := fun c o q e => c8.extBut _ _ q (c7.extBut _ _ q (Heap.get?_push_of_some _ e))
  have p8 : IsPair t8 t5.objs.size x y := c8.extBut _ _ (Nat.ne_of_gt lz) (c7.extBut _ _ (Nat.ne_of_gt lz) (Heap.get?_push_size _ rfl))
  have n8 : t8.objs.size = t5.objs.size + 1 := by rw [c8.1, c7.1, Heap.size_push]
  rw [n5] at z8 p8 n8
  refine wpAny_pure ⟨_, rfl, ?_⟩
  show Q (.ref t5.objs.size) { s with heap := t8 }
  rw [n5]
  exact hQ t8 z8 (up8 _ _ D.TOz o5) (j5.at fun o e => up8 _ o D.i1z e) (m5.at fun o e => up8 _ o D.i2z e) p8 n8 fun c o q1 q2 q3 q4 e => up8 c o q1 (up5 c o q1 q2 q3 q4 e)
theorem zs_end {Q : Fin → Shared → Prop} (hh : A.handled = none) (D : ZipApart z TI TO i1 i2 l1 l2) (hz : ZipS s.heap z TI TO .none) (hI : IsPair s.heap TI (.ref i1) (.ref i2)) (hO : IsPair s.heap TO a b)
    (h1 : SqI b1 s.heap i1 l1 k) (h2 : SqI b2 s.heap i2 l2 k) (g1 : SqS b1 s.heap l1 xs) (g2 : SqS b2 s.heap l2 ys) (hx : xs[k]? = none) (hy : ys[k]? = none)
    (hE : ∀ h' e, (∀ c o, c ≠ z → c ≠ TO → c ≠ i1 → c ≠ i2 → s.heap.get? c = some o → h'.get? c = some o) → (∃ o, h'.get? e = some o ∧ o.cls = .type "StopIteration") → E (.ref e) { s with heap := h' }) :
    wpAny (model prog w) A (Builtin.«zip.__next__» ⟨[.ref z], []⟩) Q E s := by
  show wpAny _ _ (field (.ref z) 2 >>= fun _ => _) _ _ _
  refine wpAny_bind (wpAny_field hz rfl (x := Value.bool true) rfl ?_)
  show wpAny _ _ (field (.ref z) 3 >>= fun _ => _) _ _ _
  refine wpAny_bind (wpAny_field hz rfl (x := Value.ref TI) rfl (wpAny_bind (wpAny_seqItems hI rfl ?_)))
  show wpAny _ _ (Builtin.SmallTypes.ownedTupleIsFree (.ref z) >>= fun _ => _) _ _ _
  unfold Builtin.SmallTypes.ownedTupleIsFree
  refine wpAny_bind (wpAny_bind (wpAny_field hz rfl (x := Value.none) rfl (wpAny_pure ?_)))
  rw [if_pos rfl]
  refine wpAny_bind (wpAny_rule (wpAny_bind (wpAny_field hz rfl (x := Value.ref TO) rfl ?_)))
  refine wpAny_bind (wpAny_setField_rec hz (by simp) fun t1 z1 c1 => wpAny_bind ?_)
  replace z1 : ZipS t1 z TI TO .ellipsis := z1
  simp only [List.zipIdx_cons, List.zipIdx_nil, List.forIn_cons, List.forIn_nil]
  refine wpAny_bind (wpAny_bind (wpAny_onRaise ?_))
  show wpAny _ _ (Builtin.SmallTypes.nextOrEnd (.ref i1)) _ _ _
  have up1 : ∀ c o, c ≠ z → s.heap.get? c = some o → t1.get? c = some o := fun c o q e => c1.extBut _ _ q e
  refine ne_end hh (h1.at fun o e => up1 _ o D.i1z e) (g1.at fun o e => up1 _ o D.l1z e) hx fun t2 c2 => ?_
  have up2 : ∀ c o, c ≠ z → c ≠ i1 → s.heap.get? c = some o → t2.get? c = some o := fun c o q r e => c2 _ _ r (up1 c o q e)
  have z2 : ZipS t2 z TI TO .ellipsis := c2 _ _ D.i1z.symm z1
  refine wpAny_bind (wpAny_setField_rec z2 (by simp) fun t3 z3 c3 => wpAny_bind ?_)
  have up3 : ∀ c o, c ≠ z → c ≠ i1 → s.heap.get? c = some o → t3.get? c = some o := fun c o q r e => c3.extBut _ _ q (up2 c o q r e)
  show wpAny _ _ (forIn [(Value.ref i2, 1)] PUnit.unit _ >>= fun _ => _) _ _ _
  simp only [List.forIn_cons, List.forIn_nil]
  refine wpAny_bind (wpAny_bind (wpAny_bind (ne_end hh (h2.at fun o e => up3 _ o D.i2z D.i12.symm e) (g2.at fun o e => up3 _ o D.l2z D.l2i1 e) hy fun t4 c4 => ?_)))
  refine wpAny_pure (wpAny_pure (wpAny_bind (wpAny_rule (stop_it hh fun t5 e c5 st => hE t5 e (fun c o q1 q2 q3 q4 g => ?_) st))))
  exact c5 _ _ (c4 _ _ q4 (up3 c o q1 q3 g))
theorem zs_next {Q : Option Value → Shared → Prop} (D : ZipApart z TI TO i1 i2 l1 l2) (hz : ZipS s.heap z TI TO .none) (hI : IsPair s.heap TI (.ref i1) (.ref i2)) (hO : IsPair s.heap TO a b)
    (h1 : SqI b1 s.heap i1 l1 k) (h2 : SqI b2 s.heap i2 l2 k) (g1 : SqS b1 s.heap l1 xs) (g2 : SqS b2 s.heap l2 ys) (hx : xs[k]? = some x) (hy : ys[k]? = some y)
    (hQ : ∀ h', ZipS h' z TI TO (rawInt s.heap.objs.size) → IsPair h' TO x y → SqI b1 h' i1 l1 (k + 1) → SqI b2 h' i2 l2 (k + 1) → IsPair h' s.heap.objs.size x y → h'.objs.size = s.heap.objs.size + 1 →
      (∀ c o, c ≠ z → c ≠ TO → c ≠ i1 → c ≠ i2 → s.heap.get? c = some o → h'.get? c = some o) → Q (some (.ref s.heap.objs.size)) { s with heap := h' }) :
    wpAny (model prog w) A (pyNext (.ref z)) Q E s := by
  have ty : s.TypeIs (.ref z) "zip" := ⟨_, hz, rfl⟩
  unfold pyNext
  refine wpAny_bind (wpAny_attempt (wpAny_callSpecial?_slot (name := Str.ofString "__next__") ty F.slot_zip_next (wpAny_call_entry F.slot_zip_next ty F.entry_zip_next ?_ (F.args_zip_next_1 _))))
  exact zs_item D hz hI hO h1 h2 g1 g2 hx hy fun t p1 p2 p3 p4 p5 p6 p7 => wpAny_pure (hQ t p1 p2 p3 p4 p5 p6 p7)
theorem zs_stop {Q : Option Value → Shared → Prop} (hh : A.handled = none) (D : ZipApart z TI TO i1 i2 l1 l2) (hz : ZipS s.heap z TI TO .none) (hI : IsPair s.heap TI (.ref i1) (.ref i2)) (hO : IsPair s.heap TO a b)
    (h1 : SqI b1 s.heap i1 l1 k) (h2 : SqI b2 s.heap i2 l2 k) (g1 : SqS b1 s.heap l1 xs) (g2 : SqS b2 s.heap l2 ys) (hx : xs[k]? = none) (hy : ys[k]? = none)
    (hQ : ∀ h', (∀ c o, c ≠ z → c ≠ TO → c ≠ i1 → c ≠ i2 → s.heap.get? c = some o → h'.get? c = some o) → Q none { s with heap := h' }) : wpAny (model prog w) A (pyNext (.ref z)) Q E s := by
  have ty : s.TypeIs (.ref z) "zip" := ⟨_, hz, rfl⟩
  unfold pyNext
  refine wpAny_bind (wpAny_attempt (wpAny_callSpecial?_slot (name := Str.ofString "__next__") ty F.slot_zip_next (wpAny_call_entry F.slot_zip_next ty F.entry_zip_next ?_ (F.args_zip_next_1 _))))
  refine zs_end hh D hz hI hO h1 h2 g1 g2 hx hy fun t e p1 ⟨o, p2, p3⟩ => ?_
  exact wpAny_bind (wpAny_isInstance (T := "StopIteration") (b := true) ⟨o, p2, p3⟩ isSubtype_stop (wpAny_pure (hQ _ p1)))
theorem zs_go {elts : List Expr} {n : Nat} {pos : Pos} {T : Addr} {Q : Unit → Shared → Prop} (hz : ZipS s.heap z TI TO (rawInt T))
    (hQ : ∀ h', ZipS h' z TI TO .none → Heap.SameBut z s.heap h' → Q () { s with heap := h' }) : wpAny (model prog w) A (letOwnedTupleGo (.Tuple elts n pos) (.ref z) (.ref T)) Q E s := by
  unfold letOwnedTupleGo
  refine wpAny_bind (wpAny_load hz ?_)
  show wpAny _ _ (if (["enumerate", "zip", "dict_itemiterator", "dict_reverseitemiterator", "odict_iterator", "itertools.zip_longest", "itertools.pairwise"].contains "zip" && (#[rawInt T, .bool false, .bool true, .ref TI, .ref TO] : Array Value)[0]? == some (rawInt T)) = true then _ else _) Q E s
  rw [if_pos (by simp)]
  refine wpAny_bind (wpAny_rule (?_ : wpAny _ _ (setField (.ref z) 0 .none) Q E s))
  exact wpAny_setField_rec hz (by simp) fun t p1 p2 => hQ t p1 p2
theorem zs_self {f0 : Value} {Q : Value → Shared → Prop} (hz : ZipS s.heap z TI TO f0) (h : Q (.ref z) s) : wpAny (model prog w) A (pyIter (.ref z)) Q E s := by
  have ty : s.TypeIs (.ref z) "zip" := ⟨_, hz, rfl⟩
  refine wpAny_pyIter_slot ty F.slot_zip_iter (wpAny_call_entry F.slot_zip_iter ty F.entry_zip_iter (?_ : wpAny _ _ (ret (.ref z)) _ _ s) (F.args_zip_iter_1 _))
  exact wpAny_pure ⟨_, rfl, "zip", _, ty, F.slot_zip_next.lookup, h⟩
end
end Fx

namespace Fx
open PySem PySem.Spec PyProof.Rows L2
theorem init_kw {T newId : String} {self : Value} {us : List Value} {kw : List (Str × Value)} (hl : typeLookup (.type T) "__init__" = pure (some (.builtin "object.__init__"))) (hm : Bind.madeBy (.type T) = pure (some newId)) (hne : (some newId != some "object.__new__") = true) (hk : kw ≠ []) :
    Meets (Builtin.«object.__init__» ⟨self :: us, kw⟩) (fun _ R s => s.TypeIs self T ∧ R (.ok (.ret .none)) s) := by
  refine Meets.of_wp fun prog w A R s ⟨hT, hq⟩ => ?_
  cases kw with
  | nil => exact absurd rfl hk
  | cons k kw =>
    cases us with
    | nil =>
      repeat (any_goals (first | wp_step | assumption))
      exact ⟨_, rfl, hq⟩
    | cons u us =>
      repeat (any_goals (first | wp_step | assumption))
      exact ⟨_, rfl, hq⟩
section
variable {prog : Program} {w : World} {A : Around} {E : Value → Shared → Prop} {s : Shared}
theorem w_tc (T : String) (us : List Value) (kw : List (Str × Value)) : (Code.builtin "type.__call__" ⟨.type T :: us, kw⟩).weight = 0 ∧ (Code.builtin "type.__call__" ⟨.type T :: us, kw⟩).cUnits = 1 := ⟨rfl, rfl⟩
/-- a type that is called with keywords, its object.__init__ -/
theorem tcall_kw {T newId : String} {Bn : Builtin} {us : List Value} {kw : List (Str × Value)} {S : PySem.Spec} {Q : Value → Shared → Prop} (ft : TypeCalled T newId "object.__init__") (hne : (some newId != some "object.__new__") = true)
    (hct : checkTypeCall T ⟨us, kw⟩ = pure ()) (hcn : checkBuiltinCall newId ⟨.type T :: us, kw⟩ = pure ()) (hok : ∀ o, argsOk "object.__init__" ⟨o :: us, kw⟩) (hk : kw ≠ []) (eN : entryFor table newId = some Bn)
    (g : Meets (Bn ⟨.type T :: us, kw⟩) S) (h : S A.in1 (wants (fun o s1 => s1.TypeIs o T ∧ Q o s1) E) s) : wpAny (model prog w) A (call (.type T) us kw) Q E s := by
  obtain ⟨c, tl, m1⟩ := ft.mro
  have m2 := ft.made
  have m3 := ft.sub
  refine wpAny_call (codeAny_of_tree (?_ : wpAny _ _ (callAny (.type T) _) _ _ _))
  refine wpAny_pure ⟨Code.quiet_builtin _ (by decide +kernel), codeAny_builtin F.entry_type_call ?_⟩
  rw [Around.under_plain (w_tc T us kw).1 (w_tc T us kw).2]
  have m4 := ft.notType
  have m5 := ft.canCreate
  repeat (any_goals (first | wp_step | assumption))
  refine codeAny_mono (codeAny_call_builtin ft.plain eN (wpAny_of_eq hcn (g prog w A.in1 _ s h))) fun r s1 hr => ?_
  cases r with
  | error e => exact hr
  | ok fl =>
    cases fl with
    | ret o =>
      obtain ⟨hT, hQ⟩ := hr
      have m6 := ft.init.lookup
      have m7 := ft.init.bind o
      repeat (any_goals (first | wp_step | assumption))
      refine codeAny_mono (codeAny_call_builtin ft.init.plain F.entry_object_init (ft.init.check _ _ _ _ _ _ _ _ hT (hok o) (init_kw m6 m2 hne hk prog w A.in1 (wants (fun r s2 => r = .none ∧ Q o s2) E) s1 ⟨hT, rfl, hQ⟩))) fun r2 s2 hr2 => ?_
      cases r2 with
      | error e => exact hr2
      | ok fl2 =>
        cases fl2 with
        | ret r =>
          obtain ⟨rfl, hq⟩ := hr2
          repeat (any_goals (first | wp_step | assumption))
        | _ => exact hr2.elim
    | _ => exact hr.elim
end
abbrev zsK : List (Str × Value) := [("strict", .bool true)]
theorem zs_tc (u v : Value) : checkTypeCall "zip" ⟨[u, v], zsK⟩ = pure () := by kernel_rfl
theorem zs_nc (u v : Value) : checkBuiltinCall "zip.__new__" ⟨[.type "zip", u, v], zsK⟩ = pure () := by kernel_rfl
theorem zs_ic (u v t : Value) : argsOk "object.__init__" ⟨[u, v, t], zsK⟩ := by
  unfold argsOk
  rw [signature?_of (id := "object.__init__") (n := ['_', '_', 't', 'i', 'n', 'i', '_', '_']) (o := ['t', 'c', 'e', 'j', 'b', 'o']) (by kernel_rfl) F.owner_object]
  kernel_rfl
def itO (b : Bool) (l : Addr) : Obj := { cls := .type (if b then "list_iterator" else "tuple_iterator"), data := .fields #[.ref l, .int 0 0] }
theorem it_new {prog : Program} {w : World} {A : Around} {E : Value → Shared → Prop} {s : Shared} {b : Bool} {l : Addr} {xs : Array Value} {Q : Value → Shared → Prop} (g : SqS b s.heap l xs) (h : Q (.ref s.heap.objs.size) { s with heap := s.heap.push (itO b l) }) : wpAny (model prog w) A (pyIter (.ref l)) Q E s := by
  cases b
  · exact wpAny_pyIter_tuple g h
  · exact wpAny_pyIter_list g h
abbrev zsH1 (b1 : Bool) (h : Heap) (l1 : Addr) : Heap := h.push (itO b1 l1)
abbrev zsH2 (b1 b2 : Bool) (h : Heap) (l1 l2 : Addr) : Heap := (zsH1 b1 h l1).push (itO b2 l2)
abbrev zsH3 (b1 b2 : Bool) (h : Heap) (l1 l2 : Addr) : Heap := (zsH2 b1 b2 h l1 l2).push { cls := .type "tuple", data := .seq #[.ref h.objs.size, .ref (zsH1 b1 h l1).objs.size] }
abbrev zsH4 (b1 b2 : Bool) (h : Heap) (l1 l2 : Addr) : Heap := (zsH3 b1 b2 h l1 l2).push { cls := .type "tuple", data := .seq #[.none, .none] }
abbrev zsH5 (b1 b2 : Bool) (h : Heap) (l1 l2 : Addr) : Heap := (zsH4 b1 b2 h l1 l2).push { cls := .type "zip", data := .fields #[.none, .bool false, .bool true, .ref (zsH2 b1 b2 h l1 l2).objs.size, .ref (zsH3 b1 b2 h l1 l2).objs.size] }
theorem zs_new (b1 b2 : Bool) (l1 l2 : Addr) (xs ys : Array Value) : Meets (Builtin.«zip.__new__» ⟨[.type "zip", .ref l1, .ref l2], zsK⟩) (fun _ R s => SqS b1 s.heap l1 xs ∧ SqS b2 s.heap l2 ys ∧ R (.ok (.ret (.ref (zsH4 b1 b2 s.heap l1 l2).objs.size))) { s with heap := zsH5 b1 b2 s.heap l1 l2 }) :=
  .of_wp fun prog w A R s h => by
    obtain ⟨hp, g, d, tk, os⟩ := s
    obtain ⟨q1, q2, h⟩ := h
    have hsub := sub_zip
    have p1 : SqS b1 (Shared.heap ⟨hp, g, d, tk, os⟩) l1 xs := q1
    have p2 : SqS b2 (Shared.heap ⟨hp.push (itO b1 l1), g, d, tk, os⟩) l2 ys := SqS.at (h := hp) q2 fun o e => Heap.get?_push_of_some _ e
    wp_walk using it_new p1, it_new p2
    exact ⟨_, rfl, h⟩
end Fx

namespace Fx
open PySem PySem.Spec PyProof.Rows L2
section
variable {prog : Program} {w : World} {A : Around} {E : Value → Shared → Prop} {s : Shared}
theorem zs_call {b1 b2 : Bool} {l1 l2 : Addr} {xs ys : Array Value} {Q : Value → Shared → Prop} (q1 : SqS b1 s.heap l1 xs) (q2 : SqS b2 s.heap l2 ys)
    (h : ∀ h', ZipS h' (s.heap.objs.size + 4) (s.heap.objs.size + 2) (s.heap.objs.size + 3) .none → IsPair h' (s.heap.objs.size + 2) (.ref s.heap.objs.size) (.ref (s.heap.objs.size + 1)) → IsPair h' (s.heap.objs.size + 3) .none .none →
      SqI b1 h' s.heap.objs.size l1 0 → SqI b2 h' (s.heap.objs.size + 1) l2 0 → (∀ c o, s.heap.get? c = some o → h'.get? c = some o) → Q (.ref (s.heap.objs.size + 4)) { s with heap := h' }) :
    wpAny (model prog w) A (call (.type "zip") [.ref l1, .ref l2] zsK) Q E s := by
  refine tcall_kw F.called_zip (by decide) (zs_tc _ _) (zs_nc _ _) (fun o => zs_ic o _ _) (by decide) F.entry_zip_new (zs_new b1 b2 l1 l2 xs ys) ⟨q1, q2, ?_⟩
  have n1 : (zsH1 b1 s.heap l1).objs.size = s.heap.objs.size + 1 := Heap.size_push ..
  have n2 : (zsH2 b1 b2 s.heap l1 l2).objs.size = s.heap.objs.size + 2 := by rw [Heap.size_push, n1]
  have n3 : (zsH3 b1 b2 s.heap l1 l2).objs.size = s.heap.objs.size + 3 := by rw [Heap.size_push, n2]
  have n4 : (zsH4 b1 b2 s.heap l1 l2).objs.size = s.heap.objs.size + 4 := by rw [Heap.size_push, n3]
  have up5 : ∀ {c o}, (zsH4 b1 b2 s.heap l1 l2).get? c = some o → (zsH5 b1 b2 s.heap l1 l2).get? c = some o := fun e => Heap.get?_push_of_some _ e
  have up4 : ∀ {c o}, (zsH3 b1 b2 s.heap l1 l2).get? c = some o → (zsH5 b1 b2 s.heap l1 l2).get? c = some o := fun e => up5 (Heap.get?_push_of_some _ e)
  have up3 : ∀ {c o}, (zsH2 b1 b2 s.heap l1 l2).get? c = some o → (zsH5 b1 b2 s.heap l1 l2).get? c = some o := fun e => up4 (Heap.get?_push_of_some _ e)
  have up2 : ∀ {c o}, (zsH1 b1 s.heap l1).get? c = some o → (zsH5 b1 b2 s.heap l1 l2).get? c = some o := fun e => up3 (Heap.get?_push_of_some _ e)
  have up1 : ∀ {c o}, s.heap.get? c = some o → (zsH5 b1 b2 s.heap l1 l2).get? c = some o := fun e => up2 (Heap.get?_push_of_some _ e)
  have fr : ∀ (b : Bool) (l : Addr), (itO b l).isFreed = false := fun b l => rfl
  have g5 : (zsH5 b1 b2 s.heap l1 l2).get? (zsH4 b1 b2 s.heap l1 l2).objs.size = some _ := Heap.get?_push_size _ rfl
  have g4 := up5 (Heap.get?_push_size (zsH3 b1 b2 s.heap l1 l2) (o := { cls := .type "tuple", data := .seq #[.none, .none] }) rfl)
  have g3 := up4 (Heap.get?_push_size (zsH2 b1 b2 s.heap l1 l2) (o := { cls := .type "tuple", data := .seq #[.ref s.heap.objs.size, .ref (zsH1 b1 s.heap l1).objs.size] }) rfl)
  have g2 := up3 (Heap.get?_push_size (zsH1 b1 s.heap l1) (o := itO b2 l2) rfl)
  have g1 := up2 (Heap.get?_push_size s.heap (o := itO b1 l1) rfl)
  rw [n2, n3, n4] at g5
  rw [n1, n2] at g3
  rw [n3] at g4
  rw [n1] at g2
  have mk : ∀ (b : Bool) (h : Heap) (it l : Addr), h.get? it = some (itO b l) → SqI b h it l 0 := fun b h it l e => by
    cases b
    · exact ⟨_, e, rfl, rfl⟩
    · exact ⟨_, e, rfl, rfl⟩
  show _ ∧ _
  rw [n4]
  exact ⟨⟨_, g5, rfl⟩, h _ g5 g3 g4 (mk _ _ _ _ g1) (mk _ _ _ _ g2) fun c o e => up1 e⟩
end
/-- a sequence as it stands: a list or a tuple -/
def SqG (b : Bool) (K : PySem.W.Frag) (H : Hp) (a : Addr) (xs : List V) : Prop := if b then SqL K H a xs else SqT K H a xs
theorem inv_sq {X : Cx} {pins : List (Addr × Obj)} {σ : L2.St} {H : Hp} {s : Shared} {b : Bool} {a : Addr} {xs : List V} (I : Inv X pins σ H s) (h : SqG b X.K H a xs) : ∃ its : List Value, Vals xs its ∧ SqS b s.heap a its.toArray ∧ a < s.heap.objs.size := by
  cases b
  · obtain ⟨its, r, p, _⟩ := I.tuple (show SqT X.K H a xs from h)
    obtain ⟨o, e, _⟩ := id p
    exact ⟨its, r, p, Heap.lt_size e⟩
  · obtain ⟨its, r, p, _⟩ := I.list (show SqL X.K H a xs from h)
    exact ⟨its, r, p.isList, p.lt⟩
theorem sqg_inj {X : Cx} {pins : List (Addr × Obj)} {σ : L2.St} {H : Hp} {s : Shared} {b : Bool} {a : Addr} {xs ys : List V} (I : Inv X pins σ H s) (h : SqG b X.K H a xs) (h' : SqG b X.K H a ys) : xs = ys := by
  cases b
  · exact I.tuple_inj h h'
  · exact I.list_inj h h'
theorem sqi_obj {b : Bool} {h : Heap} {it l : Addr} {k : Nat} (x : SqI b h it l k) : ∃ o, h.get? it = some o ∧ o.data = .fields #[.ref l, .int k 0] := by
  cases b
  · obtain ⟨o, e, _, d⟩ := x
    exact ⟨o, e, d⟩
  · obtain ⟨o, e, _, d⟩ := x
    exact ⟨o, e, d⟩
/-- both rows as they stand at each turn, of one length -/
def ItS (K : PySem.W.Frag) (b1 b2 : Bool) (a b : Addr) : It :=
  ⟨fun i H => ∃ (xs ys : List V) (x y : V), SqG b1 K H a xs ∧ SqG b2 K H b ys ∧ xs[i]? = some x ∧ ys[i]? = some y,
    fun i H v H' => ∃ T x y, v = .ref T ∧ H T = none ∧ H' = upd H T (.tup [x, y]) ∧ (∀ xs, SqG b1 K H a xs → xs[i]? = some x) ∧ ∀ ys, SqG b2 K H b ys → ys[i]? = some y,
    fun i H => ∃ xs ys : List V, SqG b1 K H a xs ∧ SqG b2 K H b ys ∧ xs.length ≤ i ∧ ys.length ≤ i⟩
theorem five {p : Addr → Prop} {z TI TO i1 i2 : Addr} (h0 : p z) (h1 : p TI) (h2 : p TO) (h3 : p i1) (h4 : p i2) : ∀ c ∈ [z, TI, TO, i1, i2], p c := by
  intro c hc
  simp only [List.mem_cons, List.not_mem_nil, or_false] at hc
  rcases hc with rfl | rfl | rfl | rfl | rfl <;> assumption
theorem turn_zs {P : Program} {w : World} {K : PySem.W.Frag} {elts : List Expr} {kk : Nat} {tpos : Pos} {b1 b2 : Bool} {a b z TI TO i1 i2 : Addr} (D : ZipApart z TI TO i1 i2 a b) :
    Turn P w K (.Tuple elts kk tpos) (ItS K b1 b2 a b) [z, TI, TO, i1, i2] z (fun i h => ZipS h z TI TO .none ∧ IsPair h TI (.ref i1) (.ref i2) ∧ (∃ x y, IsPair h TO x y) ∧ SqI b1 h i1 a i ∧ SqI b2 h i2 b i) where
  mem := List.mem_cons_self
  obj := fun i h ⟨hz, hI, ⟨x, y, hO⟩, j1, j2⟩ => by
    obtain ⟨o1, e1, d1⟩ := sqi_obj j1
    obtain ⟨o2, e2, d2⟩ := sqi_obj j2
    exact five ⟨_, hz, fun v q => nomatch q⟩ ⟨_, hI, fun v q => nomatch q⟩ ⟨_, hO, fun v q => nomatch q⟩ ⟨o1, e1, fun v q => by rw [d1] at q; cases q⟩ ⟨o2, e2, fun v q => by rw [d2] at q; cases q⟩
  keep := fun i h h' ⟨hz, hI, ⟨x, y, hO⟩, j1, j2⟩ k => ⟨k z (by simp) _ hz, k TI (by simp) _ hI, ⟨x, y, k TO (by simp) _ hO⟩, j1.at fun o q => k i1 (by simp) o q, j2.at fun o q => k i2 (by simp) o q⟩
  item := by
    intro X hP hw hK hc i pins s σ H E I hf ⟨hz, hI, ⟨x0, y0, hO⟩, j1, j2⟩ ⟨xs, ys, x, y, qx, qy, hx, hy⟩
    subst hP hw hK
    obtain ⟨its, rv, p, _⟩ := inv_sq I qx
    obtain ⟨its2, rv2, p2, _⟩ := inv_sq I qy
    obtain ⟨u, hu, ru⟩ := rv.get hx
    obtain ⟨u2, hu2, ru2⟩ := rv2.get hy
    have lz : z < s.heap.objs.size := Heap.lt_size hz
    refine zs_next D hz hI hO j1 j2 p p2 (x := u) (y := u2) (by simpa using hu) (by simpa using hu2) fun t z1 O1 m1 m2 hT _ up => ⟨_, rfl, zs_go (s := { s with heap := t }) z1 fun t2 z2 sb => ?_⟩
    have T2 : t2.get? s.heap.objs.size = some { cls := .type "tuple", data := .seq #[u, u2] } := (sb.2 _ (Nat.ne_of_gt lz)).trans hT
    have new : ObjOk X.prog X.w (upd H s.heap.objs.size (.tup [x, y])) t2 s.heap.objs.size (.tup [x, y]) := ⟨by show 2 ≤ sizeLine; decide, [u, u2], .cons ru (.cons ru2 .nil), ⟨_, T2, rfl, _, rfl⟩⟩
    have I1 : Inv X pins σ (upd H s.heap.objs.size (.tup [x, y])) { s with heap := t2 } := I.turnedNew (t' := s.toks) (ch := [z, TI, TO, i1, i2]) (fun c o hb q => by
      simp only [List.mem_cons, List.not_mem_nil, or_false, not_or] at hb
      exact (sb.2 c hb.1).trans (up c o hb.1 hb.2.2.1 hb.2.2.2.1 hb.2.2.2.2 q)) hf (Nat.le_refl _) new
    obtain ⟨o1, e1, _⟩ := sqi_obj j1
    obtain ⟨o2, e2, _⟩ := sqi_obj j2
    have lt : ∀ c ∈ [z, TI, TO, i1, i2], c < s.heap.objs.size := five lz (Heap.lt_size hI) (Heap.lt_size hO) (Heap.lt_size e1) (Heap.lt_size e2)
    refine ⟨.ref s.heap.objs.size, _, I1, rfl, ⟨_, x, y, rfl, I.hok.fresh (Nat.le_refl _), rfl, fun l hl => by rw [sqg_inj I hl qx]; exact hx, fun l hl => by rw [sqg_inj I hl qy]; exact hy⟩, ⟨z2, (sb.2 _ D.TIz).trans (up _ _ D.TIz D.TITO D.TIi1 D.TIi2 hI), ⟨u, u2, (sb.2 _ D.TOz).trans O1⟩, m1.at fun o q => (sb.2 _ D.i1z).trans q, m2.at fun o q => (sb.2 _ D.i2z).trans q⟩, fun c hm => ?_⟩
    rw [upd_ne (Nat.ne_of_lt (lt c hm))]
    exact (hf c hm).1
  done := by
    intro X hP hw hK hc i pins s σ H E I hf ⟨hz, hI, ⟨x0, y0, hO⟩, j1, j2⟩ ⟨xs, ys, qx, qy, ex, ey⟩
    subst hP hw hK
    obtain ⟨its, rv, p, _⟩ := inv_sq I qx
    obtain ⟨its2, rv2, p2, _⟩ := inv_sq I qy
    have n1 := rv.length
    have n2 := rv2.length
    refine zs_stop (I.ok.hd hc) D hz hI hO j1 j2 p p2 (by simp; omega) (by simp; omega) fun t up => ⟨rfl, I.turnedL (t' := s.toks) (ch := [z, TI, TO, i1, i2]) (fun c o hb q => ?_) hf⟩
    simp only [List.mem_cons, List.not_mem_nil, or_false, not_or] at hb
    exact up c o hb.1 hb.2.2.1 hb.2.2.2.1 hb.2.2.2.2 q
  self := fun A i s Q E st h => zs_self st.1 h
end Fx

namespace Fx
open PySem PySem.Spec PyProof.Rows L2
variable [Grd]
section
variable {M : Model} {A : Around} {E : Value → Shared → Prop} {s : Shared} {env : PySem.Env}
theorem cw_typeK {pos : Pos} {T : String} {e : Expr} {rest : List Expr} {kws : List Keyword} {Q : Value → Shared → Prop}
    (h : wpAny M A (spliced (backTo pos (starEach (e :: rest) env))) (fun vs s1 => wpAny M A (evalAll ((backToKw pos (keywordEach kws env)).map (·.2))) (fun ks s2 => wpAny M A (call (.type T) vs (((backToKw pos (keywordEach kws env)).filterMap (·.1)).zip ks)) Q E s2) E s1) E s)
    (he : backTo pos (starEach (e :: rest) env) = (false, eval e env) :: backTo pos (starEach rest env) := by rfl) (hpl : (backTo pos (starEach (e :: rest) env)).any (·.1) = false := by rfl)
    (hall : (backToKw pos (keywordEach kws env)).all (·.1.isSome) = true := by rfl) (hkw : (backToKw pos (keywordEach kws env)).any (·.1.isNone) = false := by rfl) :
    wpAny M A (callWith pos (.type T) [] (backTo pos (starEach (e :: rest) env)) (backToKw pos (keywordEach kws env))) Q E s := by
  unfold callWith
  rw [he] at h hpl ⊢
  refine wpAny_bind (wpAny_holding (thn (evalArgs_kwB (f := .type T) (Q := fun a s2 => wpAny M A (call (.type T) a.pos a.kw) Q E s2) hall h) fun a s1 h1 => wpAny_bind (wpAny_standAt ?_)))
  simp only [hpl, hkw, Bool.or_false]
  exact wpAny_bind (wpAny_pure (wpAny_bind (thn h1 fun r s2 hr => wpAny_bind (wpAny_holding (wpAny_point (wpAny_pure hr))))))
end
section
variable {X : Cx} {e e2 : Expr} {p pos tpos kpos cpos : Pos} {elts : List Expr} {kk cn : Nat}
def iZs (K : PySem.W.Frag) (ta : TA) : TI := fun σ H R => ta σ H fun vs H1 => ∃ b1 b2 a b xs ys, vs = [.ref a, .ref b] ∧ SqG b1 K H1 a xs ∧ SqG b2 K H1 b ys ∧ R (ItS K b1 b2 a b) H1
theorem pi_zs {ta : TA} (hg : Gl X "zip") (hm : X.mg "zip" = none) (ha : PA X [e, e2] ta) (hs : backTo pos (starEach [e, e2] X.env) = (false, eval e X.env) :: backTo pos (starEach [e2] X.env) := by rfl) (hpl : (backTo pos (starEach [e, e2] X.env)).any (·.1) = false := by rfl) :
    PI X (.Tuple elts kk tpos) (.Call (.Name "zip" p) [e, e2] [⟨some "strict", .Constant (.bool true) cn cpos, kpos⟩] pos) (iZs X.K ta) := by
  refine ⟨fun pins s σ H R I h => ?_⟩
  refine wpAny_Call_Name_kw (ld_blt I hg hm PyProof.Rows.boot_zip ?_)
  refine cw_typeK (e := e) (rest := [e2]) (kws := [⟨some "strict", .Constant (.bool true) cn cpos, kpos⟩]) ?_ hs hpl rfl rfl
  refine thn (ha.run pos pins s σ H _ I h) fun us s1 ⟨vs, H1, I1, r1, q1⟩ => ?_
  have hk : PK X [⟨some "strict", .Constant (.bool true) cn cpos, kpos⟩] (tCons (tC (.bl true)) tNil) := pk_cons pe_bl pk_nil
  refine thn (hk.run pos pins s1 σ H1 (fun zs H2 => zs = [.bl true] ∧ H2 = H1) I1 ⟨rfl, rfl⟩) fun ws s2 ⟨zs, H2, I2, rz, ez, eh⟩ => ?_
  subst ez eh
  obtain ⟨b1, b2, a, b, xs, ys, rfl, hqx, hqy, q⟩ := q1
  cases r1 with
  | cons r rr =>
    cases rr with
    | cons r' rr =>
      cases rr
      cases r
      cases r'
      obtain ⟨its, rv, p1, la⟩ := inv_sq I2 hqx
      obtain ⟨its2, rv2, p2, lb⟩ := inv_sq I2 hqy
      cases rz with
      | cons z1 z2 =>
        cases z2
        cases z1
        refine zs_call p1 p2 fun h' hz hI hO h1 h2 up => zs_self hz ?_
        have I3 : Inv X pins σ H2 { s2 with heap := h' } := I2.kept (t' := s2.toks) up
        refine ⟨s2.heap.objs.size + 4, [s2.heap.objs.size + 4, s2.heap.objs.size + 2, s2.heap.objs.size + 3, s2.heap.objs.size, s2.heap.objs.size + 1], _, _, H2, rfl, I3, turn_zs (PySem.W.ktu_apart s2.heap.objs.size a b la lb), ⟨hz, hI, ⟨_, _, hO⟩, h1, h2⟩, fun c hcm => ?_, q⟩
        have hle : ∀ c ∈ [s2.heap.objs.size + 4, s2.heap.objs.size + 2, s2.heap.objs.size + 3, s2.heap.objs.size, s2.heap.objs.size + 1], s2.heap.objs.size ≤ c := five (Nat.le_add_right _ _) (Nat.le_add_right _ _) (Nat.le_add_right _ _) (Nat.le_refl _) (Nat.le_add_right _ _)
        exact I2.fpOk (hle c hcm) (I2.hok.fresh (hle c hcm))
/-- the items of a row -/
def seqOf : D → Option (Bool × List D)
  | .lst xs => some (true, xs)
  | .slst xs => some (true, xs)
  | .tup xs => some (false, xs)
  | _ => none
def zipSI (U : TAd) : TId := fun ds M F => U ds M fun xs M1 => match xs with
  | [d1, d2] => match seqOf d1, seqOf d2 with
    | some (_, xs), some (_, ys) => xs.length = ys.length ∧ F (zipL xs ys) M1
    | _, _ => False
  | _ => False
theorem seqOf_sq {K : PySem.W.Frag} {M : Mp} {H : Hp} {v : V} {d : D} {b : Bool} {xs : List D} (dt : Dt K (hid M H) v d) (e : seqOf d = some (b, xs)) : ∃ a vs, v = .ref a ∧ SqG b K (hid M H) a vs ∧ Dts K (hid M H) vs xs := by
  cases dt with
  | lst q dd => cases e; exact ⟨_, _, rfl, .inl (.inl q), dd⟩
  | slst q dd => cases e; exact ⟨_, _, rfl, q, dd⟩
  | tup q dd => cases e; exact ⟨_, _, rfl, q, dd⟩
  | _ => cases e
theorem sqg_same {K : PySem.W.Frag} {b : Bool} {H H' : Hp} {a : Addr} {xs : List V} (e : Same H H') (h : SqG b K H a xs) : SqG b K H' a xs := by
  cases b
  · exact sqT_same e h
  · exact Same.seq e h
theorem walks_zs {K : PySem.W.Frag} {b1 b2 : Bool} {a b : Addr} {vs ws : List V} {xs ys : List D} {M0 : Mp} {H0 : Hp} (h : SqG b1 K (hid M0 H0) a vs) (d : Dts K (hid M0 H0) vs xs) (h' : SqG b2 K (hid M0 H0) b ws) (d' : Dts K (hid M0 H0) ws ys) (hl : xs.length = ys.length) : Walks K (ItS K b1 b2 a b) (zipL xs ys) M0 H0 := fun i M H ok l => by
  have hq : SqG b1 K H a vs := sqg_same hid_sub (sqg_same l.same h)
  have hq' : SqG b2 K H b ws := sqg_same hid_sub (sqg_same l.same h')
  refine ⟨fun x hx => ?_, fun e => ⟨vs, ws, hq, hq', by rw [zipL_len] at e; rw [d.length]; omega, by rw [zipL_len] at e; rw [d'.length]; omega⟩⟩
  obtain ⟨x1, y1, g1, g2, rfl⟩ := zipL_get _ _ _ _ hx
  obtain ⟨v, e1, e2⟩ := d.get g1
  obtain ⟨w, f1, f2⟩ := d'.get g2
  refine ⟨⟨vs, ws, v, w, hq, hq', e1, f1⟩, fun y H' ⟨T, z, z', ey, nT, eH, hz, hz'⟩ => ?_⟩
  subst ey eH
  have e3 := (hz vs hq).symm.trans e1
  cases e3
  have e4 := (hz' ws hq').symm.trans f1
  cases e4
  obtain ⟨ok2, l2⟩ := ok.lay (p := T) (o := .tup [v, w]) nT
  refine ⟨.tup (.inl (.inl ?_)) (.cons ((e2.mono l.same).mono l2.same) (.cons ((f2.mono l.same).mono l2.same) .nil)), ok2, l2⟩
  rw [hid_of (ok.free nT)]
  exact upd_same
theorem di_zs {U : TAd} (hg : Gl X "zip") (hm : X.mg "zip" = none) (ha : DA X [e, e2] U) (hs : backTo pos (starEach [e, e2] X.env) = (false, eval e X.env) :: backTo pos (starEach [e2] X.env) := by rfl) (hpl : (backTo pos (starEach [e, e2] X.env)).any (·.1) = false := by rfl) :
    DI X (.Tuple elts kk tpos) (.Call (.Name "zip" p) [e, e2] [⟨some "strict", .Constant (.bool true) cn cpos, kpos⟩] pos) (zipSI U) := (pi_zs hg hm ha hs hpl).fimp fun σ H R ⟨ds, M, F, ev, ok, h, af⟩ =>
  ⟨ds, M, _, ev, ok, h, fun xs M1 h1 vs H1 ok1 dts l1 => by
    split at h1
    · split at h1
      · next b1 xs b2 ys s1 s2 =>
        obtain ⟨hl, hF⟩ := h1
        cases dts with
        | cons d1 d2 =>
          cases d2 with
          | cons d2 d3 =>
            cases d3
            obtain ⟨a, us, rfl, q1, w1⟩ := seqOf_sq d1 s1
            obtain ⟨b, us', rfl, q2, w2⟩ := seqOf_sq d2 s2
            exact ⟨b1, b2, a, b, us, us', rfl, sqg_same hid_sub q1, sqg_same hid_sub q2, af _ M1 hF H1 _ ok1 l1 (walks_zs q1 w1 q2 w2 hl)⟩
      · exact h1.elim
    · exact h1.elim⟩
end
end Fx

namespace Fx
open PySem PySem.Spec PyProof.Rows L2
variable [Grd]
/-! lists that may change, made by a display, by list(x), by a comprehension -/
def lcM (T : TId) (t : Tg) (C : TTd) (E : TEd) (vs : List Nat) : TEd := fun ds M F => T ds M fun xs M1 => ∀ L, M1 L = none → ∃ W : Nat → List D → Mp → Prop, W 0 [] (updM M1 L (.lst [])) ∧
  (∀ i d acc M', xs[i]? = some d → W i acc M' → acc.length < 1000000 ∧ gD t d (wipeD ds vs) fun ds2 => C ds2 M' fun b M2 => br b
    (E ds2 M2 fun y M3 => M3 L = some (.lst acc) ∧ W (i + 1) (acc ++ [y]) (updM M3 L (.lst (acc ++ [y]))))
    (W (i + 1) acc M2)) ∧ ∀ acc M', W xs.length acc M' → M' L = some (.lst acc) ∧ F (.ref L) M'
theorem emb_lcM {K : PySem.W.Frag} {T : TId} {t : Tg} {C : TTd} {E : TEd} {vs : List Nat} (hv : ∀ j ∈ slots t, j ∈ vs) : ∀ σ H Q, emb K (lcM T t C E vs) σ H Q → tLc (embI K T) (gV K t) (embT K C) (emb K E) vs σ H Q := fun σ H Q ⟨ds, M, F, ev, ok, h, af⟩ =>
  ⟨ds, M, _, ev, ok, h, fun xs M1 h1 H1 J ok1 l1 wk L hL => by
    obtain ⟨W, w0, wt, wd⟩ := h1 L (ok1.free hL)
    obtain ⟨ok2, l2⟩ := ok1.put (p := L) (o := .lst []) (m := .lst []) (.inr hL) ⟨[], upd_same, .nil⟩
    refine ⟨fun i m H' => m = xs.length - i ∧ i ≤ xs.length ∧ ∃ acc M', W i acc M' ∧ HpOk K M' H' ∧ Lat M1 H1 M' H', ⟨xs.length, by simp, Nat.zero_le _, [], _, w0, ok2, l2⟩, fun i m H' ⟨em, hi, acc, M', w', ok', l'⟩ => ?_⟩
    obtain ⟨wgo, wstop⟩ := wk i M' H' ok' l'
    by_cases hlt : i < xs.length
    · obtain ⟨go, yl⟩ := wgo xs[i] (by simp [hlt])
      obtain ⟨hz, wt'⟩ := wt i xs[i] acc M' (by simp [hlt]) w'
      refine .inr ⟨go, fun H2 => ∃ acc2 M2, W (i + 1) acc2 M2 ∧ HpOk K M2 H2 ∧ Lat M1 H1 M2 H2, fun H2 ⟨acc2, M2, w2, ok2, l2⟩ => ⟨xs.length - (i + 1), by omega, rfl, hlt, acc2, M2, w2, ok2, l2⟩, fun x H2 y => ?_⟩
      obtain ⟨dt, ok3, l3⟩ := yl x H2 y
      have lt : Lat M1 H1 M' H2 := l'.trans l3
      refine gD_ok t dt (env_wipe (ev.mono (l1.trans lt)) vs) wt' fun ds3 σ3 f3 ev3 hw => ⟨?_, ds3, M', _, ev3, ok3, f3, fun b M3 h3 H3 ok4 l4 => ?_⟩
      · rw [hw vs hv]
        clear hw f3 ev3 dt y yl
        have : ∀ ws : List Nat, (∀ j ∈ ws, j ∈ vs) → wipe (wipe σ vs) ws = wipe σ vs := by
          intro ws
          induction ws with
          | nil => intro _; rfl
          | cons w ws ih =>
            intro hsub
            show (wipe (wipe σ vs) ws).set w none = wipe σ vs
            rw [ih fun j hj => hsub j (List.mem_cons_of_mem _ hj)]
            have hwm := hsub w List.mem_cons_self
            have key : ∀ us : List Nat, w ∈ us → (wipe σ us).set w none = wipe σ us := by
              intro us
              induction us with
              | nil => intro z; cases z
              | cons u us ih2 =>
                intro hu
                unfold wipe
                by_cases e : w = u
                · subst e
                  rw [List.set_set]
                · rw [List.set_comm _ _ (Ne.symm e), ih2 ((List.mem_cons.mp hu).resolve_left e)]
            exact key vs hwm
        exact this vs fun _ z => z
      · cases b with
        | true =>
          refine iteT ⟨ds3, M3, _, ev3.mono l4, ok4, h3, fun y M4 ⟨eL, w4⟩ v H4 ok5 dt5 l5 => ?_⟩
          obtain ⟨av, e1, e2⟩ := ok5 _ _ eL
          obtain ⟨ok6, l6⟩ := ok5.put (p := L) (o := .lst (av ++ [v])) (m := .lst (acc ++ [y])) (.inl (by rw [eL]; simp)) ⟨av ++ [v], upd_same, by
            have q : Same (hid M4 H4) (hid (updM M4 L (.lst (acc ++ [y]))) (upd H4 L (.lst (av ++ [v])))) := fun b o hb => by
              obtain ⟨n, e⟩ := hid_some hb
              have nb : b ≠ L := fun z => by rw [z, eL] at n; cases n
              rw [hid_of (by rw [updM_ne nb]; exact n), upd_ne nb]
              exact e
            exact (e2.append (.cons dt5 .nil)).mono q⟩
          exact ⟨av, e1, by rw [e2.length]; exact big_lt hz, _, _, w4, ok6, ((lt.trans l4).trans l5).trans l6⟩
        | false => exact iteF ⟨acc, M3, h3, ok4, lt.trans l4⟩
    · have e : i = xs.length := by omega
      subst e
      obtain ⟨eL, f⟩ := wd _ _ w'
      exact .inl ⟨wstop rfl, af _ _ f _ _ ok' (.ref L) (l1.trans l')⟩⟩
section
variable {X : Cx} {elt tg iter : Expr} {ifs : List Expr} {scope : Scope} {own : List (Str × Nat)} {pos : Pos} {T : TId} {t : Tg} {C : TTd} {E : TEd}
theorem de_lcM (vs : List Nat) (hc : X.calm = true) (hN : X.N.Nodup) (hi : DI X tg iter T) (ok : BlkOk X.N X.env.scope scope own) (hv : ∀ j ∈ slots t, j ∈ own.map (·.2))
    (hg : ∀ (s : Shared) (H : Hp) (Ca : Addr) (cl : List (Str × Addr)) (fp : List Addr), PG (X.blk s H scope (compEnvC scope cl Ca X.env) fp) tg (gV X.K t)) (ht : ∀ (s : Shared) (H : Hp) (Ca : Addr) (cl : List (Str × Addr)) (fp : List Addr), DTs (X.blk s H scope (compEnvC scope cl Ca X.env) fp) ifs C)
    (he : ∀ (s : Shared) (H : Hp) (Ca : Addr) (cl : List (Str × Addr)) (fp : List Addr), DE (X.blk s H scope (compEnvC scope cl Ca X.env) fp) elt E) (hs : ∀ x, foldedSetIterable iter X.env x = pure x := by intro _; rfl) (hvs : own.map (·.2) = vs := by rfl) :
    DE X (.ListComp elt [⟨tg, iter, ifs, 0⟩] scope pos) (lcM T t C E vs) := by
  subst hvs
  exact (pe_lc hc hN hi ok hg ht he hs).fimp (emb_lcM hv)
theorem ds_setLcM {y : Str} {py spos : Pos} (vs : List Nat) (i : Nat) (hc : X.calm = true) (hN : X.N.Nodup) (hi : DI X tg iter T) (ok : BlkOk X.N X.env.scope scope own) (hv : ∀ j ∈ slots t, j ∈ own.map (·.2))
    (hg : ∀ (s : Shared) (H : Hp) (Ca : Addr) (cl : List (Str × Addr)) (fp : List Addr), PG (X.blk s H scope (compEnvC scope cl Ca X.env) fp) tg (gV X.K t)) (ht : ∀ (s : Shared) (H : Hp) (Ca : Addr) (cl : List (Str × Addr)) (fp : List Addr), DTs (X.blk s H scope (compEnvC scope cl Ca X.env) fp) ifs C)
    (he : ∀ (s : Shared) (H : Hp) (Ca : Addr) (cl : List (Str × Addr)) (fp : List Addr), DE (X.blk s H scope (compEnvC scope cl Ca X.env) fp) elt E) (hsw : swapsWith (.ListComp elt [⟨tg, iter, ifs, 0⟩] scope pos) (some (.Name y py)) spos.line X.env = pure true) (hy : X.N[i]? = some y := by rfl) (hyl : X.env.scope.names.lookup y = some .local := by rfl)
    (hs : ∀ x, foldedSetIterable iter X.env x = pure x := by intro _; rfl) (hvs : own.map (·.2) = vs := by rfl) :
    DS X (.Assign [.Name y py] (.ListComp elt [⟨tg, iter, ifs, 0⟩] scope pos) spos) (asgD (lcM T t C E vs) (.nm i)) := by
  subst hvs
  exact (ps_setLc hc hN hy hyl hsw hi ok hg ht he hs).fimp fun Z σ H ⟨ds, M, B, ev, ok, h, a⟩ => emb_lcM hv σ H _ ⟨ds, M, _, ev, ok, h, fun d M1 h1 v H1 ok1 dt l1 => a.nx _ _ h1 _ _ ((ev.mono l1).set i dt) ok1 l1⟩
end
section
variable {X : Cx} {es : List Expr} {U : TAd} {pos : Pos} {e : Expr} {T : TEd}
def lstM (U : TAd) : TEd := fun ds M F => U ds M fun xs M1 => xs.length ≤ 1000000 ∧ ∀ p, M1 p = none → F (.ref p) (updM M1 p (.lst xs))
theorem de_lstM (h : DA X es U) : DE X (.List es pos) (lstM U) := (pe_lst h).fimp fun σ H Q ⟨ds, M, F, ev, ok, h, a⟩ =>
  ⟨ds, M, _, ev, ok, h, fun xs M1 h1 vs H1 ok1 dts l1 => ⟨by rw [dts.length]; exact big_le h1.1, (a.later l1).layM ok1 dts h1.2⟩⟩
/-- a list that changes no more -/
def frzD (T : TEd) : TEd := fun ds M F => T ds M fun d M1 => match d with
  | .ref p => match M1 p with
    | some (.lst xs) => F (.lst xs) (delM M1 p)
    | _ => False
  | d => F d M1
theorem de_frz (h : DE X e T) : DE X e (frzD T) := h.fimp fun σ H Q ⟨ds, M, F, ev, ok, h, a⟩ => ⟨ds, M, _, ev, ok, h, fun d M1 h1 v H1 ok1 dt l1 => by
  split at h1
  · next p =>
    split at h1
    · next xs e =>
      cases dt
      obtain ⟨av, e1, e2⟩ := ok1 _ _ e
      obtain ⟨ok3, l3⟩ := ok1.frz p
      refine a _ _ h1 _ _ ok3 (.lst ?_ (e2.mono l3.same)) (l1.trans l3)
      rw [hid_of delM_same]
      exact e1
    · exact h1.elim
  · exact a _ _ h1 _ _ ok1 dt l1⟩
/-- behind the value, one of the changing lists is no longer looked at -/
def drpD (T : TEd) : TEd := fun ds M F => T ds M fun d M1 => ∃ p, F d (delM M1 p)
theorem de_drp (h : DE X e T) : DE X e (drpD T) := h.fimp fun σ H Q ⟨ds, M, F, ev, ok, h, a⟩ => ⟨ds, M, _, ev, ok, h, fun d M1 ⟨p, h1⟩ v H1 ok1 dt l1 => by
  obtain ⟨ok3, l3⟩ := ok1.frz p
  exact a _ _ h1 _ _ ok3 (dt.mono l3.same) (l1.trans l3)⟩
theorem u65 {A : Around} {k : Nat} (hr : Room k A) : A.units + 65 < cLine := by have := u200 hr; omega
/-- x in y, x not in y: a sign of a text, one of a row of data -/
def memR (neg : Bool) : R2d
  | .str x, .str z, M, F => match x.cps.toList with
    | [c] => F (.bl (if neg then !decide (c ∈ z.cps.toList) else decide (c ∈ z.cps.toList))) M
    | _ => False
  | d, .tup ys, M, F => (okD d && okD (.tup ys)) = true ∧ F (.bl (if neg then !(ys.any fun y => eqD y d) else ys.any fun y => eqD y d)) M
  | d, .lst ys, M, F => (okD d && okD (.lst ys)) = true ∧ F (.bl (if neg then !(ys.any fun y => eqD y d) else ys.any fun y => eqD y d)) M
  | _, _, _, _ => False
theorem any_py (d : D) : ∀ ys : List D, ((pys ys).any fun y => PyData.eqv y (py d)) = ys.any fun y => eqD y d
  | [] => rfl
  | y :: ys => by
    rw [pys, List.any_cons, List.any_cons, any_py d ys]
    rfl
theorem shp {d : D} (h : okD d = true) : flat d = true ∧ SeqAt.shaped (py d) = true := by simpa [okD] using h
theorem room_mem {A : Around} {d : PyData} {ds : List PyData} (h : SeqAt.shaped d = true) (hu : A.units + 65 < cLine) : A.units + 1 + min (PyData.depthAll ds) d.depth < cLine := by
  have := SeqAt.depth_of_shaped h
  have := Nat.min_le_right (PyData.depthAll ds) d.depth
  omega
end
section
variable {X : Cx}
theorem or_mem {pins : List (Addr × Obj)} {s : Shared} {σ : L2.St} {H : Hp} {x y : V} {v u : Value} {Q : VK} (neg : Bool) (op : CmpOp) (hop : op = if neg then .NotIn else .In) (hu : X.A.units + 65 < cLine) (I : Inv X pins σ H s) (rx : RelV x v) (ry : RelV y u) (h : up2 X.K (memR neg) x y H Q) : wpAny (model X.prog X.w) X.A (compareOp op v u) (EP X pins σ Q) X.xe s := by
  obtain ⟨a, b, M, F, da, db, ok, h, af⟩ := h
  unfold memR at h
  split at h
  · next x z =>
    cases da
    cases db
    split at h
    · next c e =>
      obtain ⟨⟨l⟩⟩ := x
      simp only at e
      subst e
      cases neg
      · subst hop
        exact op_in_sign pins s σ H _ _ v u Q I rx ry ⟨c, z, rfl, rfl, af _ _ h _ _ ok (.bl _) (Lat.refl _ _)⟩
      · subst hop
        exact op_notIn_sign pins s σ H _ _ v u Q I rx ry ⟨c, z, rfl, rfl, af _ _ h _ _ ok (.bl _) (Lat.refl _ _)⟩
    · exact h.elim
  · next ys =>
    obtain ⟨hk, hF⟩ := h
    have k1 : okD a = true ∧ okD (.tup ys) = true := by simpa using hk
    obtain ⟨f1, s1⟩ := shp k1.1
    obtain ⟨f2, s2⟩ := shp k1.2
    obtain ⟨as, r1⟩ := Dp.reads I _ x v (da.dp f1) rx
    obtain ⟨bs, r2⟩ := Dp.reads I _ y u (db.dp f2) ry
    rw [py] at r2 s2
    cases neg
    · subst hop
      exact SeqAt.in_tuple_reads r2 r1 (SeqAt.canLay_of_shaped s2) (SeqAt.canLay_of_shaped s1) (room_mem s1 hu) ⟨.bl _, H, I, rfl, by rw [any_py]; exact af _ _ hF _ _ ok (.bl _) (Lat.refl _ _)⟩
    · subst hop
      exact SeqAt.notIn_tuple_reads r2 r1 (SeqAt.canLay_of_shaped s2) (SeqAt.canLay_of_shaped s1) (room_mem s1 hu) ⟨.bl _, H, I, rfl, by rw [any_py]; exact af _ _ hF _ _ ok (.bl _) (Lat.refl _ _)⟩
  · next ys =>
    obtain ⟨hk, hF⟩ := h
    have k1 : okD a = true ∧ okD (.lst ys) = true := by simpa using hk
    obtain ⟨f1, s1⟩ := shp k1.1
    obtain ⟨f2, s2⟩ := shp k1.2
    obtain ⟨as, r1⟩ := Dp.reads I _ x v (da.dp f1) rx
    obtain ⟨bs, r2⟩ := Dp.reads I _ y u (db.dp f2) ry
    rw [py] at r2 s2
    cases neg
    · subst hop
      exact SeqAt.in_list_reads r2 r1 (SeqAt.canLay_of_shaped s2) (SeqAt.canLay_of_shaped s1) (room_mem s1 hu) ⟨.bl _, H, I, rfl, by rw [any_py]; exact af _ _ hF _ _ ok (.bl _) (Lat.refl _ _)⟩
    · subst hop
      exact SeqAt.notIn_list_reads r2 r1 (SeqAt.canLay_of_shaped s2) (SeqAt.canLay_of_shaped s1) (room_mem s1 hu) ⟨.bl _, H, I, rfl, by rw [any_py]; exact af _ _ hF _ _ ok (.bl _) (Lat.refl _ _)⟩
  · exact h.elim
theorem or_inM (hu : X.A.units + 65 < cLine) : OpR X (compareOp .In) (up2 X.K (memR false)) := fun pins s σ H x y v u Q I rx ry h => or_mem false _ rfl hu I rx ry h
theorem or_notinM (hu : X.A.units + 65 < cLine) : OpR X (compareOp .NotIn) (up2 X.K (memR true)) := fun pins s σ H x y v u Q I rx ry h => or_mem true _ rfl hu I rx ry h
/-- int(x) of a number or a truth value -/
def intR : RB
  | [.int i], M, F => F (.int i) M
  | [.bl b], M, F => F (.int (if b then 1 else 0)) M
  | _, _, _ => False
theorem cb_int : CallR X (.type "int") (upC X.K intR) := by
  intro pins s σ H vs us Q I r h
  obtain ⟨xs, M, F, dts, ok, h, af⟩ := h
  unfold intR at h
  split at h
  · cases dts with
    | cons d1 d2 =>
      cases d2
      cases d1
      exact call_int1 pins s σ H _ _ Q I r (.inl ⟨_, rfl, af _ _ h _ _ ok (.int _) (Lat.refl _ _)⟩)
  · cases dts with
    | cons d1 d2 =>
      cases d2
      cases d1
      exact call_int1 pins s σ H _ _ Q I r (.inr ⟨_, rfl, af _ _ h _ _ ok (.int _) (Lat.refl _ _)⟩)
  · exact h.elim
/-- list(x), as a list that may change -/
def listM : RB
  | [.lst xs], M, F => ∀ p, M p = none → F (.ref p) (updM M p (.lst xs))
  | [.slst xs], M, F => ∀ p, M p = none → F (.ref p) (updM M p (.lst xs))
  | [.tup xs], M, F => ∀ p, M p = none → F (.ref p) (updM M p (.lst xs))
  | _, _, _ => False
theorem cb_listM : CallR X (.type "list") (upC X.K listM) := by
  intro pins s σ H vs us Q I rv h
  obtain ⟨xs, M, F, dts, ok, h, af⟩ := h
  unfold listM at h
  split at h
  · obtain ⟨v, rfl, dt⟩ := one_of dts
    cases dt with
    | lst q dd => exact call_list_of pins s σ H _ us Q I rv ⟨_, _, rfl, .inl (.inl (.inl (hid_sub _ _ q))), af.layM ok dd h⟩
  · obtain ⟨v, rfl, dt⟩ := one_of dts
    cases dt with
    | slst q dd => exact call_list_of pins s σ H _ us Q I rv ⟨_, _, rfl, .inl (Same.seq hid_sub q), af.layM ok dd h⟩
  · obtain ⟨v, rfl, dt⟩ := one_of dts
    cases dt with
    | tup q dd => exact call_list_of pins s σ H _ us Q I rv ⟨_, _, rfl, .inr (sqT_same hid_sub q), af.layM ok dd h⟩
  · exact h.elim
end
end Fx

namespace Fx
open PySem PySem.Spec PyProof.Rows L2
variable [Grd]
/-! written values -/
def CS (T : TEd) (d : D) : Prop := ∀ ds M (F : DK), F d M → T ds M F
def CA (U : TAd) (xs : List D) : Prop := ∀ ds M (G : List D → Mp → Prop), G xs M → U ds M G
omit [Grd] in
theorem cs_c {d : D} : CS (cD d) d := fun _ _ _ h => h
omit [Grd] in
theorem cs_neg {i : Int} : CS (negD (cD (.int i))) (.int (-i)) := fun _ _ _ h => h
omit [Grd] in
theorem ca_nil : CA nilD [] := fun _ _ _ h => h
omit [Grd] in
theorem ca_cons {T : TEd} {U : TAd} {d : D} {xs : List D} (h : CS T d) (r : CA U xs) : CA (consD T U) (d :: xs) := fun ds M _ g => h ds M _ (r ds M _ g)
omit [Grd] in
theorem cs_lst {U : TAd} {xs : List D} (h : CA U xs) (hl : xs.length ≤ 1000000) : CS (lstD U) (.lst xs) := fun ds M _ g => h ds M _ ⟨hl, g⟩
omit [Grd] in
theorem cs_tup {U : TAd} {xs : List D} (h : CA U xs) (hl : xs.length ≤ 1000000) : CS (tupD U) (.tup xs) := fun ds M _ g => h ds M _ ⟨hl, g⟩
theorem de_as {X : Cx} {e : Expr} {T : TEd} {d : D} (h : DE X e T) (c : CS T d) : DE X e (cD d) := h.fimp fun σ H Q ⟨ds, M, F, ev, ok, q, a⟩ => ⟨ds, M, F, ev, ok, c ds M F q, a⟩
/-! e[::-1] of lists, tuples and texts -/
omit [Grd] in
theorem strRev_ix (n : Nat) : Builtin.Str.strSliceIndices none none (-1) n = (List.range n).reverse := by
  show sliceRange ((n : Int) - 1) (-1) (-1) = _
  rw [PySem.W.krv_sliceRange, PySem.W.krv_range]
section
open HT
variable {prog : Program} {w : World} {A : Around} {E : Value → Shared → Prop} {s : Shared}
omit [Grd] in
theorem applied_rev {sl : Addr} {vl vu vs : Value} {n : Nat} {Q : Int × Int × Nat → Shared → Prop} (hs : s.heap.IsSliceOf sl vl vu vs) (pl : IsPart vl none) (pu : IsPart vu none) (ps : IsPart vs (some (-1)))
    (h : Q ((n : Int) - 1, -1, n) s) : wpAny (model prog w) A (Builtin.Slice.sliceApplied (.ref sl) (pure (n : Int))) Q E s := by
  obtain ⟨os, hos, hcs, hds⟩ := id hs
  unfold Builtin.Slice.sliceApplied Builtin.Slice.sliceFields
  refine wpAny_bind (wpAny_bind (wpAny_field hos hds (x := vl) rfl (wpAny_bind (wpAny_field hos hds (x := vu) rfl (wpAny_bind (wpAny_field hos hds (x := vs) rfl (wpAny_pure ?_)))))))
  refine wpAny_bind (slicePart_ ps ?_)
  show wpAny _ _ (if ((-1 : Int) == 0) = true then _ else _) _ _ s
  rw [if_neg (by decide)]
  refine wpAny_bind (slicePart_ pl (wpAny_bind (slicePart_ pu (wpAny_bind (wpAny_pure ?_)))))
  show wpAny _ _ (pure ((n : Int) - 1, (-1 : Int), Builtin.Slice.slicePlaces ((n : Int) - 1) (-1) (-1))) _ _ s
  have e : Builtin.Slice.slicePlaces ((n : Int) - 1) (-1) (-1) = n := by
    unfold Builtin.Slice.slicePlaces
    rw [if_neg (by decide)]
    split
    · rw [show (- -1 : Int) = 1 by decide, Int.ediv_one]
      omega
    · omega
  rw [e]
  exact wpAny_pure h
omit [Grd] in
theorem getItem_tuple_rev {t sl : Addr} {items : Array Value} {vl vu vs : Value} {Q : Value → Shared → Prop} (ht : IsTup s.heap t items) (hs : s.heap.IsSliceOf sl vl vu vs) (pl : IsPart vl none) (pu : IsPart vu none) (ps : IsPart vs (some (-1)))
    (h : Q (.ref s.heap.objs.size) { s with heap := s.heap.push { cls := .type "tuple", data := .seq items.toList.reverse.toArray } })
    (hsz : items.size ≤ sizeLine) : wpAny (model prog w) A (getItem (.ref t) (.ref sl)) Q E s := by
  have htake : sizeOk (.seq items.toList.reverse.toArray) := by
    show items.toList.reverse.toArray.size ≤ sizeLine
    rw [List.size_toArray, List.length_reverse, Array.length_toList]
    exact hsz
  obtain ⟨os, hos, hcs, hds⟩ := id hs
  have hTs : s.TypeIs (.ref sl) "slice" := ⟨os, hos, hcs⟩
  have pick : ((List.range items.size).filterMap fun (k : Nat) => items[(((items.size : Int) - 1) + (k : Int) * (-1)).toNat]?).toArray = items.toList.reverse.toArray := by
    have e : (List.range items.size).filterMap (fun (k : Nat) => items[(((items.size : Int) - 1) + (k : Int) * (-1)).toNat]?) = ((List.range items.size).map fun k => items.size - 1 - k).filterMap (items[·]?) := by
      rw [List.filterMap_map]
      have key : ∀ l : List Nat, (∀ k ∈ l, k < items.size) → l.filterMap (fun (k : Nat) => items[(((items.size : Int) - 1) + (k : Int) * (-1)).toNat]?) = l.filterMap ((fun x => items[x]?) ∘ fun k => items.size - 1 - k) := by
        intro l
        induction l with
        | nil => intro _; rfl
        | cons k l ih =>
          intro hl
          have hk := hl k (List.mem_cons_self ..)
          have q : (((items.size : Int) - 1) + (k : Int) * (-1)).toNat = items.size - 1 - k := by omega
          rw [List.filterMap_cons, List.filterMap_cons, ih fun z hz => hl z (List.mem_cons_of_mem _ hz), q]
          rfl
      exact key _ fun k hk => List.mem_range.mp hk
    rw [e, PySem.W.krv_range, List.filterMap_reverse, PySem.W.krv_all]
  unfold getItem
  try with_reducible refine wpAny_holding ?_
  first | refine wpAny_bind (wpAny_pure ?_) | skip
  refine wpAny_bind (wpAny_sequenceKey ht.typeIs (by decide) ?_)
  refine wpAny_bind (wpAny_callSpecial?_slot (name := Str.ofString "__getitem__") ht.typeIs PyProof.Rows.slot_tuple_getitem
    (wpAny_call_entry PyProof.Rows.slot_tuple_getitem ht.typeIs entry_tuple_getitem ?_ (args_tuple_getitem _ _)))
  show wpAny _ _ (Builtin.Tuple.tupleItemsOf (.ref t) >>= _) _ _ s
  refine wpAny_bind (tupleItemsOf_ ht ?_)
  refine wpAny_bind (wpAny_typeOf hTs ?_)
  rw [if_pos (by decide)]
  refine wpAny_bind (applied_rev hs pl pu ps ?_)
  have hno : ¬ ((((items.size : Int) - 1) == 0 && (-1 : Int) == 1 && items.size == items.size) = true) := by
    intro q
    rw [Bool.and_eq_true, Bool.and_eq_true] at q
    exact absurd q.1.2 (by decide)
  show wpAny _ _ (if (((items.size : Int) - 1) == 0 && (-1 : Int) == 1 && items.size == items.size) = true then _ else _) _ _ s
  rw [if_neg hno, pick]
  first
    | exact wpAny_bind (m := Builtin.Tuple.tupleExact _) (wpAny_newObj_type (wpAny_pure ⟨_, rfl, wpAny_pure h⟩) htake)
    | exact wpAny_bind (m := Builtin.Tuple.tupleExact _) (wpAny_newObj_type (wpAny_bind (wpAny_pure (wpAny_pure ⟨_, rfl, wpAny_pure h⟩))) htake)
    | exact wpAny_bind (wpAny_bind (m := Builtin.Tuple.tupleExact _) (wpAny_newObj_type (wpAny_pure (wpAny_pure ⟨_, rfl, wpAny_pure h⟩)) htake))
    | exact wpAny_bind (wpAny_bind (m := Builtin.Tuple.tupleExact _) (wpAny_newObj_type (wpAny_pure ⟨_, rfl, wpAny_pure h⟩) htake))
end
def revS (z : Str) : Str := ⟨z.cps.toList.reverse.toArray⟩
def tRevA (K : PySem.W.Frag) (te : TE) : TE := fun σ H Q => te σ H fun x H1 => (∃ a xs, x = .ref a ∧ SqL K H1 a xs ∧ ∀ p, H1 p = none → Q (.ref p) (upd H1 p (.lst xs.reverse))) ∨
  (∃ a xs, x = .ref a ∧ SqT K H1 a xs ∧ ∀ p, H1 p = none → Q (.ref p) (upd H1 p (.tup xs.reverse))) ∨ ∃ z, x = .str z ∧ z.length ≤ sizeLine ∧ Q (.str (revS z)) H1
section
variable {X : Cx}
omit [Grd] in
theorem pe_revA {e : Expr} {te : TE} {k : Nat} {p1 p2 p3 pos : Pos} (he : PE X e te) : PE X (.Subscript e (.Slice none none (some (.UnaryOp .USub (.Constant (.int 1) k p1) p2)) p3) pos) (tRevA X.K te) := by
  refine ⟨fun pins s σ H Q I h => ?_⟩
  refine Subscript_ (thn (he.run pins s σ H _ I h) fun v s1 ⟨x, H1, I1, r1, q1⟩ => ?_)
  have hst : PO X (some (.UnaryOp .USub (.Constant (.int 1) k p1) p2)) (tPart (tUn (rU fun i => .int (-i)) (tC (.int 1)))) := po_some (pe_un un_neg pe_int)
  refine wpAny_Slice (thn (po_none.run pins s1 σ H1 (fun o H2 => o = none ∧ H2 = H1) I1 ⟨rfl, rfl⟩) fun vl s2 ⟨l, H2, I2, pl, el, e2⟩ => ?_)
  subst el e2
  refine thn (po_none.run pins s2 σ H2 (fun o H3 => o = none ∧ H3 = H2) I2 ⟨rfl, rfl⟩) fun vu s3 ⟨u, H3, I3, pu, eu, e3⟩ => ?_
  subst eu e3
  refine thn (hst.run pins s3 σ H3 (fun o H4 => o = some (-1) ∧ H4 = H3) I3 ⟨1, rfl, -1, rfl, rfl, rfl⟩) fun vs s4 ⟨o, H4, I4, ps, eo, e4⟩ => ?_
  subst eo e4
  have I5 : Inv X pins σ H4 { s4 with heap := s4.heap.push { cls := .type "slice", data := .fields #[vl, vu, vs] } } := I4.kept (t' := s4.toks) fun b ob q => Heap.get?_push_of_some _ q
  show wpAny (model X.prog X.w) X.A (subscriptTail e (.Slice none none (some (.UnaryOp .USub (.Constant (.int 1) k p1) p2)) p3) v (.ref s4.heap.objs.size)) (EP X pins σ Q) X.xe { s4 with heap := s4.heap.push { cls := .type "slice", data := .fields #[vl, vu, vs] } }
  rcases q1 with ⟨a, xs, ex, hx, q⟩ | ⟨a, xs, ex, hx, q⟩ | ⟨z, ex, hz, q⟩
  · subst ex
    cases r1
    obtain ⟨its, r, ht, hz⟩ := I5.list hx
    have hlen := r.length
    refine tail_any (ops := [.ref a, .ref s4.heap.objs.size]) ht.isList.typeIs (PySem.slot_list_getitem.lookup) ?_ (by with_unfolding_all rfl)
    refine wpAny_getItem_list_slice ht.isList (Heap.IsSliceOf.new _ vl vu vs) pl pu ps (by decide) ?_ (by rw [List.size_toArray]; omega)
    rw [PySem.W.krv_pick]
    refine ⟨.ref _, _, I5.laid (t' := s4.toks) (o := .lst xs.reverse) (fun b ob q => Heap.get?_push_of_some _ q) (Nat.le_refl _) ?_, rfl, q _ (I5.hok.fresh (Nat.le_refl _))⟩
    exact ⟨by rw [List.length_reverse]; exact hz, _, 0, r.reverse, Heap.get?_push_size _ rfl⟩
  · subst ex
    cases r1
    obtain ⟨its, r, ht, hz⟩ := I5.tuple hx
    have hlen := r.length
    refine tail_any (ops := [.ref a, .ref s4.heap.objs.size]) ht.typeIs PyProof.Rows.slot_tuple_getitem.lookup ?_ (by with_unfolding_all rfl)
    refine getItem_tuple_rev ht (Heap.IsSliceOf.new _ vl vu vs) pl pu ps ?_ (by rw [List.size_toArray]; omega)
    refine ⟨.ref _, _, I5.laid (t' := s4.toks) (o := .tup xs.reverse) (fun b ob q => Heap.get?_push_of_some _ q) (Nat.le_refl _) ?_, rfl, q _ (I5.hok.fresh (Nat.le_refl _))⟩
    exact ⟨by rw [List.length_reverse]; exact hz, _, r.reverse, IsTup.new _ _⟩
  · subst ex
    obtain ⟨t, rfl⟩ := r1
    obtain ⟨os, hos, hcs, hds⟩ := Heap.IsSliceOf.new s4.heap vl vu vs
    obtain ⟨l, rfl, el⟩ := IsPart.raw pl
    obtain ⟨u, rfl, eu⟩ := IsPart.raw pu
    obtain ⟨w, rfl, ew⟩ := IsPart.raw ps
    refine tail_any (ops := [.ref s4.heap.objs.size, .str z t]) (typeIs_str _ _ _) F.slot_str_getitem.lookup ?_ (by with_unfolding_all rfl)
    have e0 : w.map (·.1) = some (-1) := ew
    refine wpAny_getItem_str_slice (l := l) (u := u) (st := w) ⟨os, hos, hcs, hds⟩ (by rw [e0]; decide) ?_
    have e1 : slicePicked z l u w = (List.range z.length).reverse := by
      unfold slicePicked
      rw [e0, el, eu]
      exact strRev_ix _
    unfold sliceMade
    rw [e1, e0]
    rw [if_neg (by simp)]
    have e2 : (((List.range z.length).reverse.filterMap (z.cps[·]?)).toArray : Array Nat) = z.cps.toList.reverse.toArray := by
      rw [List.filterMap_reverse]
      have := PySem.W.krv_all z.cps
      show ((List.filterMap (z.cps[·]?) (List.range z.cps.size)).reverse).toArray = _
      rw [this]
    rw [e2]
    refine ⟨?_, .str _, H4, I5.tok _, ⟨_, rfl⟩, q⟩
    show z.cps.toList.reverse.toArray.size ≤ sizeLine
    rw [List.size_toArray, List.length_reverse, Array.length_toList]
    exact hz
end
def revA (T : TEd) : TEd := fun ds M F => T ds M fun d M1 => match d with
  | .lst xs => F (.lst xs.reverse) M1
  | .slst xs => F (.lst xs.reverse) M1
  | .tup xs => F (.tup xs.reverse) M1
  | .str z => z.length ≤ 1000000 ∧ F (.str (revS z)) M1
  | _ => False
section
variable {X : Cx} {e a b c : Expr} {es : List Expr} {T U : TEd} {V' W' : TAd} {pos : Pos}
theorem de_revA {k : Nat} {p1 p2 p3 : Pos} (he : DE X e T) : DE X (.Subscript e (.Slice none none (some (.UnaryOp .USub (.Constant (.int 1) k p1) p2)) p3) pos) (revA T) := (pe_revA he).fimp fun σ H Q ⟨ds, M, F, ev, ok, h, af⟩ =>
  ⟨ds, M, _, ev, ok, h, fun d M1 h1 v H1 ok1 dt l1 => by
    cases dt with
    | lst q dd => exact .inl ⟨_, _, rfl, .inl (.inl (hid_sub _ _ q)), (af.later l1).layL ok1 dd.rev h1⟩
    | slst q dd => exact .inl ⟨_, _, rfl, Same.seq hid_sub q, (af.later l1).layL ok1 dd.rev h1⟩
    | tup q dd => exact .inr (.inl ⟨_, _, rfl, sqT_same hid_sub q, (af.later l1).layT ok1 dd.rev h1⟩)
    | str z => exact .inr (.inr ⟨z, rfl, big_le h1.1, af _ _ h1.2 _ _ ok1 (.str _) l1⟩)
    | _ => exact h1.elim⟩
end
/-! more operations -/
/-- a list that may change counts as a list here -/
def lisD (M : Mp) : D → Option (List D)
  | .lst xs => some xs
  | .ref a => match M a with
    | some (.lst xs) => some xs
    | _ => none
  | _ => none
def addR2 : R2d
  | .int i, .int j, M, F => F (.int (i + j)) M
  | .str x, .str y, M, F => x.length + y.length ≤ 1000000 ∧ F (.str (x ++ y)) M
  | .tup xs, .tup ys, M, F => xs.length + ys.length ≤ 1000000 ∧ F (.tup (xs ++ ys)) M
  | a, b, M, F => match lisD M a, lisD M b with
    | some xs, some ys => xs.length + ys.length ≤ 1000000 ∧ F (.lst (xs ++ ys)) M
    | _, _ => False
def mulR2 : R2d
  | .int i, .int j, M, F => ((-(2 ^ 64) < i ∧ i < 2 ^ 64) ∨ (-(2 ^ 64) < j ∧ j < 2 ^ 64)) ∧ F (.int (i * j)) M
  | .lst xs, .int k, M, F => 0 ≤ k ∧ k ≤ 1000000 ∧ xs.length * k.toNat ≤ 1000000 ∧ F (.lst (List.replicate k.toNat xs).flatten) M
  | .str x, .int k, M, F => -1000000 ≤ k ∧ k ≤ 1000000 ∧ x.length * k.toNat ≤ 1000000 ∧ F (.str (Txt.mul x k)) M
  | _, _, _, _ => False
def leS (p : Str → Str → Bool) (q : Int → Int → Bool) : R2d
  | .int i, .int j, M, F => F (.bl (q i j)) M
  | .str i, .str j, M, F => F (.bl (p i j)) M
  | _, _, _, _ => False
abbrev leR2 : R2d := leS (fun i j => !decide (j.cps.toList < i.cps.toList)) fun i j => decide (i ≤ j)
abbrev ltR2 : R2d := leS (fun i j => decide (i.cps.toList < j.cps.toList)) fun i j => decide (i < j)
section
variable {X : Cx}
theorem lis_at {K : PySem.W.Frag} {M : Mp} {H : Hp} {v : V} {d : D} {xs : List D} (ok : HpOk K M H) (dt : Dt K (hid M H) v d) (e : lisD M d = some xs) : ∃ a ys, v = .ref a ∧ H a = some (.lst ys) ∧ Dts K (hid M H) ys xs := by
  cases dt with
  | lst q dd => cases e; exact ⟨_, _, rfl, hid_sub _ _ q, dd⟩
  | ref a =>
    unfold lisD at e
    dsimp only at e
    split at e
    · next h =>
      cases e
      obtain ⟨ys, e1, d1⟩ := ok _ _ h
      exact ⟨_, _, rfl, e1, d1⟩
    · cases e
  | _ => cases e
theorem or_add2 : OpR X (binaryOp .Add) (up2 X.K addR2) := by
  intro pins s σ H x y v u Q I rx ry h
  obtain ⟨a, b, M, F, da, db, ok, h, af⟩ := h
  unfold addR2 at h
  split at h
  · cases da
    cases db
    exact op_add pins s σ H _ _ v u Q I rx ry ⟨_, _, rfl, rfl, af _ _ h _ _ ok (.int _) (Lat.refl _ _)⟩
  · cases da
    cases db
    exact op_add_str pins s σ H _ _ v u Q I rx ry ⟨_, _, rfl, rfl, big_le h.1, af _ _ h.2 _ _ ok (.str _) (Lat.refl _ _)⟩
  · cases da with
    | tup h1 d1 =>
    cases db with
    | tup h2 d2 =>
    refine op_catA pins s σ H _ _ v u Q I rx ry ⟨_, _, _, _, rfl, rfl, sqT_same hid_sub h1, sqT_same hid_sub h2, by rw [d1.length, d2.length]; exact big_le h.1, fun e => ?_, fun _ e => ?_, fun _ _ => af.layT ok (d1.append d2) h.2⟩
    · subst e
      cases d1
      exact af _ _ h.2 _ _ ok (.tup h2 d2) (Lat.refl _ _)
    · subst e
      cases d2
      have h3 := h.2
      rw [List.append_nil] at h3
      exact af _ _ h3 _ _ ok (.tup h1 d1) (Lat.refl _ _)
  · split at h
    · next e1 e2 =>
      obtain ⟨a1, ys1, rfl, s1, d1⟩ := lis_at ok da e1
      obtain ⟨a2, ys2, rfl, s2, d2⟩ := lis_at ok db e2
      exact op_cat pins s σ H _ _ v u Q I rx ry ⟨_, _, _, _, rfl, rfl, s1, s2, by rw [d1.length, d2.length]; exact big_le h.1, af.layL ok (d1.append d2) h.2⟩
    · exact h.elim
theorem mulOk_of {x : Str} {k : Int} (h1 : -1000000 ≤ k) (h2 : k ≤ 1000000) (h3 : x.length * k.toNat ≤ 1000000) : MulOk x k := by
  refine ⟨?_, fun hk hc => ?_, fun hk hc => ?_⟩
  · rw [Bool.or_eq_false_iff]
    exact ⟨decide_eq_false (by omega), decide_eq_false (by omega)⟩
  · intro z
    have hx : x.length ≤ 1000000 := Nat.le_trans (by
      have : 1 ≤ k.toNat := by omega
      exact Nat.le_mul_of_pos_right _ this) h3
    have h4 : (x.length : Int) * k ≤ 2 ^ 63 - 1 := by
      have : (x.length : Int) * k ≤ 1000000 * 1000000 := Int.mul_le_mul (by omega) h2 (by omega) (by omega)
      omega
    have h5 : (x.length : Int) ≤ (2 ^ 63 - 1) / k := (Int.le_ediv_iff_mul_le (by omega)).mpr h4
    omega
  · unfold Builtin.Str.tooLong
    first
      | exact decide_eq_false (by omega)
      | (simp; omega)
      | (rw [decide_eq_false_iff_not]; have : sizeLine = 16777216 := sizeLine_eq; omega)
theorem or_mul2 : OpR X (binaryOp .Mult) (up2 X.K mulR2) := by
  intro pins s σ H x y v u Q I rx ry h
  obtain ⟨a, b, M, F, da, db, ok, h, af⟩ := h
  cases da <;> cases db <;> first | exact h.elim | skip
  · exact op_mul pins s σ H _ _ v u Q I rx ry ⟨_, _, rfl, rfl, h.1, af _ _ h.2 _ _ ok (.int _) (Lat.refl _ _)⟩
  · obtain ⟨t, rfl⟩ := rx
    obtain ⟨t', rfl⟩ := ry
    exact SB.mul (mulOk_of h.1 h.2.1 h.2.2.1) fun tk k => ⟨.str _, H, I.tok k, ⟨tk, rfl⟩, af _ _ h.2.2.2 _ _ ok (.str _) (Lat.refl _ _)⟩
  · next h1 d1 k =>
    obtain ⟨k0, k1, k2, h⟩ := h
    exact op_rep pins s σ H _ _ v u Q I rx ry ⟨_, _, _, rfl, rfl, hid_sub _ _ h1, by omega, by omega, by rw [d1.length]; exact big_le k2, af.layL ok (d1.flat _) h⟩
theorem or_le2 : OpR X (compareOp .LtE) (up2 X.K (leS (fun i j => !decide (j.cps.toList < i.cps.toList)) fun i j => decide (i ≤ j))) := by
  intro pins s σ H x y v u Q I rx ry h
  obtain ⟨a, b, M, F, da, db, ok, h, af⟩ := h
  cases da <;> cases db <;> first | exact h.elim | skip
  · exact op_le pins s σ H _ _ v u Q I rx ry ⟨_, _, rfl, rfl, af _ _ h _ _ ok (.bl _) (Lat.refl _ _)⟩
  · obtain ⟨t, rfl⟩ := rx
    obtain ⟨t', rfl⟩ := ry
    exact P.le_str (fin_bl I (af _ _ h _ _ ok (.bl _) (Lat.refl _ _)) rfl)
theorem or_lt2 : OpR X (compareOp .Lt) (up2 X.K (leS (fun i j => decide (i.cps.toList < j.cps.toList)) fun i j => decide (i < j))) := by
  intro pins s σ H x y v u Q I rx ry h
  obtain ⟨a, b, M, F, da, db, ok, h, af⟩ := h
  cases da <;> cases db <;> first | exact h.elim | skip
  · exact op_lt pins s σ H _ _ v u Q I rx ry ⟨_, _, rfl, rfl, af _ _ h _ _ ok (.bl _) (Lat.refl _ _)⟩
  · exact op_lt_str pins s σ H _ _ v u Q I rx ry ⟨_, _, rfl, rfl, af _ _ h _ _ ok (.bl _) (Lat.refl _ _)⟩
end
def isInt : D → Bool
  | .int _ => true
  | _ => false
def getInt : D → Int
  | .int i => i
  | _ => 0
def sumR : RB
  | [.lst xs], M, F => xs.all isInt = true ∧ F (.int (xs.map getInt).sum) M
  | _, _, _ => False
def max2R : RB
  | [.int i, .int j], M, F => F (.int (max i j)) M
  | _, _, _ => False
def min2R : RB
  | [.int i, .int j], M, F => F (.int (min i j)) M
  | _, _, _ => False
theorem ints_of {K : PySem.W.Frag} {G : Hp} : ∀ {vs : List V} {xs : List D}, Dts K G vs xs → xs.all isInt = true → vs = (xs.map getInt).map V.int
  | _, _, .nil, _ => rfl
  | _, _, .cons h1 h2, h => by
    rw [List.all_cons, Bool.and_eq_true] at h
    rw [List.map_cons, List.map_cons, ← ints_of h2 h.2]
    cases h1 <;> first | rfl | (exact absurd h.1 (by simp [isInt]))
section
variable {X : Cx}
theorem cb_sum (hc : X.calm = true) : CallR X (.builtin "sum") (upC X.K sumR) := by
  intro pins s σ H vs us Q I rv h
  obtain ⟨xs, M, F, dts, ok, h, af⟩ := h
  unfold sumR at h
  split at h
  · obtain ⟨v, rfl, dt⟩ := one_of dts
    cases dt with
    | lst q dd =>
      have e := ints_of dd h.1
      subst e
      exact cr_sum hc pins s σ H _ us Q I rv ⟨_, _, rfl, .inl (.inl (hid_sub _ _ q)), af _ _ h.2 _ _ ok (.int _) (Lat.refl _ _)⟩
  · exact h.elim
theorem cb_max2 (hc : X.calm = true) : CallR X (.builtin "max") (upC X.K max2R) := by
  intro pins s σ H vs us Q I rv h
  obtain ⟨xs, M, F, dts, ok, h, af⟩ := h
  unfold max2R at h
  split at h
  · obtain ⟨v, w, rfl, d1, d2⟩ := two_of dts
    cases d1
    cases d2
    refine call_max2 hc pins s σ H _ us Q I rv ⟨_, _, rfl, ?_⟩
    next i j =>
    have e : (if j > i then j else i) = max i j := by
      split <;> omega
    rw [e]
    exact af _ _ h _ _ ok (.int _) (Lat.refl _ _)
  · exact h.elim
theorem cb_min2 (hc : X.calm = true) : CallR X (.builtin "min") (upC X.K min2R) := by
  intro pins s σ H vs us Q I rv h
  obtain ⟨xs, M, F, dts, ok, h, af⟩ := h
  unfold min2R at h
  split at h
  · obtain ⟨v, w, rfl, d1, d2⟩ := two_of dts
    cases d1
    cases d2
    refine call_min2 hc pins s σ H _ us Q I rv ⟨_, _, rfl, ?_⟩
    next i j =>
    have e : (if j < i then j else i) = min i j := by
      split <;> omega
    rw [e]
    exact af _ _ h _ _ ok (.int _) (Lat.refl _ _)
  · exact h.elim
end
/-! [a, *e, b] -/
def starD (T : TEd) (U : TAd) : TAd := fun ds M F => T ds M fun d M1 => match d with
  | .lst xs => U ds M1 fun ys M2 => F (xs ++ ys) M2
  | .slst xs => U ds M1 fun ys M2 => F (xs ++ ys) M2
  | .tup xs => U ds M1 fun ys M2 => F (xs ++ ys) M2
  | _ => False
section
variable {X : Cx} {e : Expr} {es : List Expr} {T : TEd} {U : TAd} {p pos : Pos}
theorem da_star (h : DE X e T) (r : DA X es U) (hs : starEach (.Starred e p :: es) X.env = (true, eval e X.env) :: starEach es X.env := by rfl) : DA X (.Starred e p :: es) (starD T U) := (StX.pa_star h r hs).fimp fun σ H Q ⟨ds, M, F, ev, ok, h, a⟩ =>
  ⟨ds, M, _, ev, ok, h, fun d M1 h1 v H1 ok1 dt l1 => by
    cases dt with
    | lst q dd => exact ⟨_, _, rfl, .inr (.inl (.inl (hid_sub _ _ q))), ds, M1, _, ev.mono l1, ok1, h1, fun ys M2 h2 vs H2 ok2 dts l2 => a _ _ h2 _ _ ok2 ((dd.mono l2.same).append dts) (l1.trans l2)⟩
    | slst q dd => exact ⟨_, _, rfl, .inr (Same.seq hid_sub q), ds, M1, _, ev.mono l1, ok1, h1, fun ys M2 h2 vs H2 ok2 dts l2 => a _ _ h2 _ _ ok2 ((dd.mono l2.same).append dts) (l1.trans l2)⟩
    | tup q dd => exact ⟨_, _, rfl, .inl (sqT_same hid_sub q), ds, M1, _, ev.mono l1, ok1, h1, fun ys M2 h2 vs H2 ok2 dts l2 => a _ _ h2 _ _ ok2 ((dd.mono l2.same).append dts) (l1.trans l2)⟩
    | _ => exact h1.elim⟩
end
/-! a, b, c = x, y, z; continue; break -/
def par3D (i j l : Nat) (U : TAd) : TSd := fun B ds M => U ds M fun xs M1 => match xs with
  | [a, b, c] => B.nx (((ds.set i (some a)).set j (some b)).set l (some c)) M1
  | _ => False
def contD : TSd := fun B ds M => B.ct ds M
def brkD : TSd := fun B ds M => B.bk ds M
section
variable {X : Cx} {pos : Pos}
theorem ds_par3 {x y z : Str} {a b c : Expr} {U : TAd} {px py pz pt pt2 : Pos} {kt k2 : Nat} (i j l : Nat) (hc : X.calm = true) (hN : X.N.Nodup) (hij : i ≠ j) (hil : i ≠ l) (hjl : j ≠ l) (ha : DA X [a, b, c] U) (hi : X.N[i]? = some x := by rfl) (hj : X.N[j]? = some y := by rfl) (hl : X.N[l]? = some z := by rfl)
    (hx : X.env.scope.names.lookup x = some .local := by rfl) (hy : X.env.scope.names.lookup y = some .local := by rfl) (hz : X.env.scope.names.lookup z = some .local := by rfl)
    (hw : swappedStores [.Tuple [.Name x px, .Name y py, .Name z pz] kt pt] (.Tuple [a, b, c] k2 pt2) X.env = pure (some [x, y, z]) := by rfl)
    (hs : swapsWithSole [.Tuple [.Name x px, .Name y py, .Name z pz] kt pt] (.Tuple [a, b, c] k2 pt2) pos.line X.env = pure false := by rfl) :
    DS X (.Assign [.Tuple [.Name x px, .Name y py, .Name z pz] kt pt] (.Tuple [a, b, c] k2 pt2) pos) (par3D i j l U) := (ps_par3 hc hN hi hj hl hij hil hjl hx hy hz ha hw hs).fimp fun E σ H ⟨ds, M, B, ev, ok, h, af⟩ =>
  ⟨ds, M, _, ev, ok, h, fun xs M1 h1 vs H1 ok1 dts l1 => by
    match xs, vs, dts, h1 with
    | [d1, d2, d3], [v1, v2, v3], .cons e1 (.cons e2 (.cons e3 .nil)), h1 => exact ⟨v1, v2, v3, rfl, af.nx _ _ h1 _ _ ((((ev.mono l1).set i e1).set j e2).set l e3) ok1 l1⟩
    | [], _, _, h1 => exact h1.elim
    | [_], _, _, h1 => exact h1.elim
    | [_, _], _, _, h1 => exact h1.elim
    | _ :: _ :: _ :: _ :: _, _, _, h1 => exact h1.elim⟩
theorem ds_cont : DS X (.Continue pos) contD := ps_continue.fimp fun E σ H ⟨ds, M, B, ev, ok, h, a⟩ => a.ct _ _ h _ _ ev ok (Lat.refl M H)
end
/-! methods of texts -/
def rstR : RM
  | .str x, [.str y], M, F => x.length ≤ 1000000 ∧ F (.str (Txt.rstripChars x y)) M
  | _, _, _, _ => False
def splR : RM
  | .str x, [.str y], M, F => 0 < y.length ∧ x.length ≤ 1000000 ∧ F (.lst ((Txt.split x y).map D.str)) M
  | _, _, _, _ => False
def sixR : RM
  | .str x, [.str y], M, F => match Builtin.Str.occurrences x y 0 x.length 1 with
    | i :: _ => F (.int (i : Nat)) M
    | [] => False
  | _, _, _, _ => False
section
variable {X : Cx}
theorem dm_rst : MtR X "str.rstrip" (upM X.K rstR) := by
  intro pins s σ H x vs v us Q I rx rv h
  obtain ⟨d, xs, M, F, dt, dts, ok, h, af⟩ := h
  unfold rstR at h
  split at h
  · cases dt
    obtain ⟨w, rfl, dw⟩ := one_of dts
    cases dw
    exact mt_rstripChars pins s σ H _ _ v us Q I rx rv ⟨_, _, rfl, rfl, big_le h.1, af _ _ h.2 _ _ ok (.str _) (Lat.refl _ _)⟩
  · exact h.elim
theorem Dts.strs {K : PySem.W.Frag} {G : Hp} (zs : List Str) : Dts K G (zs.map V.str) (zs.map D.str) := by
  induction zs with
  | nil => exact .nil
  | cons n ns ih => exact .cons (.str n) ih
theorem dm_spl : MtR X "str.split" (upM X.K splR) := by
  intro pins s σ H x vs v us Q I rx rv h
  obtain ⟨d, xs, M, F, dt, dts, ok, h, af⟩ := h
  unfold splR at h
  split at h
  · cases dt
    obtain ⟨w, rfl, dw⟩ := one_of dts
    cases dw
    exact mt_split pins s σ H _ _ v us Q I rx rv ⟨_, _, rfl, rfl, by simpa using Nat.ne_of_gt h.1, by have := h.2.1; rw [sizeLine_eq]; omega, af.layL ok (Dts.strs _) h.2.2⟩
  · exact h.elim
theorem dm_six : MtR X "str.index" (upM X.K sixR) := by
  intro pins s σ H x vs v us Q I rx rv h
  obtain ⟨d, xs, M, F, dt, dts, ok, h, af⟩ := h
  unfold sixR at h
  split at h
  · split at h
    · next hq =>
      cases dt
      obtain ⟨w, rfl, dw⟩ := one_of dts
      cases dw
      exact mt_sindex pins s σ H _ _ v us Q I rx rv ⟨_, _, _, _, rfl, rfl, hq, af _ _ h _ _ ok (.int _) (Lat.refl _ _)⟩
    · exact h.elim
  · exact h.elim
end
end Fx

namespace Fx
open PySem PySem.W PySem.Calls PyProof.Rows PySem.HandSPX
/-! errors of the program: a class over GapError over Exception, its __init__: super().__init__(text), then fields -/
abbrev gTail (G : Addr) : List Value := .ref G :: ESX.exTail
theorem g_contains (G : Addr) (X : String) : (gTail G).contains (.type X) = ESX.exTail.contains (.type X) := by
  show ((Value.ref G :: ESX.exTail).contains (.type X)) = _
  rw [List.contains_cons]
  have : (Value.type X == Value.ref G) = false := rfl
  rw [this, Bool.false_or]
section
open Builtin Builtin.ObjectAttr
variable {prog : Program} {w : World} {A : Around} {E : Value → Shared → Prop} {R : Result → Shared → Prop} {hp : Heap} {g : Array GenState} {d : Drawn} {t : Nat} {os : OsState}
theorem g_mro {K : W.Frag} {C G : Addr} {cd : ClassData} (hcd : W.clsIn K C = some cd) (hm : cd.mro = .ref C :: gTail G) {b : Value} (hb : (Value.ref C :: gTail G).contains b = true) : W.mroIn K C b = some true := by
  unfold W.mroIn
  rw [hcd, Option.bind_some, hm]
  rw [if_neg (show ¬ (List.isEmpty (Value.ref C :: gTail G) = true) from Bool.false_ne_true), hb]
theorem g_store {K : W.Frag} {name : Str} {tk : Tok} {v : Value} {x C G : Addr} {ox : Obj} {od : Option Obj} {cd : ClassData} (X : K.In hp) (I : W.InstAt hp x ox C od) (hcd : W.clsIn K C = some cd) (hm : cd.mro = .ref C :: gTail G) (ha : W.findIn K (.ref C) name = some none)
    (hq : wpAny (model prog w) A.in1 (storeInOwnDict (.ref x) (.ref C) (.str name tk) name v false) (fun fin s' => match fin with | .done f => R (.ok f) s' | .again c' => c'.quiet = true ∧ codeAny (model prog w) A c' R s') (fun e s' => R (.error e) s') ⟨hp, g, d, t, os⟩) :
    codeAny (model prog w) A (.call (.builtin "object.__setattr__") ⟨[.ref x, .str name tk, v], []⟩) R ⟨hp, g, d, t, os⟩ := by
  have S := F.store_object
  have sb : W.Looks (model prog w) hp (isInstance (.ref x) (.type "object")) true := I.type.andThen (W.looks_mroIn X (g_mro hcd hm (by rw [List.contains_cons, g_contains, show ESX.exTail.contains (.type "object") = true by decide +kernel, Bool.or_true])))
  refine codeAny_call_builtin S.slot.plain S.entry (@W.check_slot (model prog w) _ _ ⟨hp, g, d, t, os⟩ "object.__setattr__" "object" "__setattr__" (.ref x) [.str name tk, v] [] _ S.kind S.split sb (S.args (.ref x) (.str name tk) v) ?_)
  have mr : W.Looks (model prog w) hp (mroOf (.ref C)) cd.mro := (W.looks_clsIn X hcd).andThen .now
  have L0 : W.Looks (model prog w) hp (storeTaker? none) none := .now
  have ps : refuseLoop (.ref x) "__setattr__" cd.mro = pure () := by
    rw [hm, refuseLoop_ref, refuseLoop_ref]
    exact F.store_Exception.passes _
  rw [W.osa_eq, refuse_eq]
  refine wpAny_bind (wpAny_bind (I.type.at (wpAny_bind (mr.at (?_)))))
  rw [ps]
  exact wpAny_pure (wpAny_bind (I.type.at (wpAny_bind ((W.looks_findIn X ha).at (wpAny_bind (L0.at hq))))))
theorem g_new {K : W.Frag} {name : Str} {tk : Tok} {v : Value} {x C G : Addr} {fv : Array Value} {cd : ClassData} (X : K.In hp) (hx : hp.get? x = some { cls := .ref C, data := .fields fv }) (hcd : W.clsIn K C = some cd) (hm : cd.mro = .ref C :: gTail G) (hh : cd.hasDict = true) (ha : W.findIn K (.ref C) name = some none)
    (hq : ∀ h' tk' dx, (∀ b o, b ≠ x → hp.get? b = some o → h'.get? b = some o) → hp.objs.size ≤ dx → dx ≠ x → h'.get? x = some { cls := .ref C, dict := some dx, data := .fields fv } → h'.Ns1 dx (fun y => if y = name then some v else none) → R (.ok (.ret .none)) ⟨h', g, d, tk', os⟩) :
    codeAny (model prog w) A (.call (.builtin "object.__setattr__") ⟨[.ref x, .str name tk, v], []⟩) R ⟨hp, g, d, t, os⟩ := by
  have I : W.InstAt hp x { cls := .ref C, data := .fields fv } C none := ⟨hx, rfl, rfl, trivial⟩
  have ne : x ≠ hp.objs.size := Nat.ne_of_lt (Heap.lt_size hx)
  refine g_store X I hcd hm ha ?_
  have cl : W.Looks (model prog w) hp (classData C) cd := W.looks_clsIn X hcd
  obtain ⟨nm, bs, mro, ns, qn, hd, sn, sb, ab, col, del⟩ := cd
  dsimp only at hh
  subst hh
  unfold storeInOwnDict ownDictForStores
  repeat (first | with_reducible refine wpAny_loadPart_at hx ?_ | with_reducible refine cl.at ?_ | with_reducible refine HandSPX.store_in_new ?_ ?_ | wp_step)
  · exact ⟨_, #[], _, (Heap.get?_update_ne _ _ _ _ ne.symm).trans (Heap.get?_push_at rfl rfl), rfl, fun e he => absurd he (by simp), fun _ => rfl⟩
  · intro h' tk' hn' hs
    have up : (hp.push { cls := .type "dict", data := .dict #[] }).get? x = some { cls := .ref C, data := .fields fv } := Heap.get?_push_of_some _ hx
    refine hq h' tk' hp.objs.size (fun b o hb ho => ?_) (Nat.le_refl _) ne.symm ((hs.2 x ne).trans (Heap.get?_update_self _ up rfl)) hn'
    exact (hs.2 b (Nat.ne_of_lt (Heap.lt_size ho))).trans ((Heap.get?_update_ne _ _ _ _ hb).trans (Heap.get?_push_of_some _ ho))
theorem g_old {K : W.Frag} {name : Str} {tk : Tok} {v : Value} {x C G dx : Addr} {fv : Array Value} {cd : ClassData} {m0 : Str → Option Value} {nl : List Str} (X : K.In hp) (hx : hp.get? x = some { cls := .ref C, dict := some dx, data := .fields fv }) (hns : hp.Ns1 dx m0) (hw : Within m0 nl) (hz : nl.length ≤ 1000) (hcd : W.clsIn K C = some cd) (hm : cd.mro = .ref C :: gTail G) (hh : cd.hasDict = true) (ha : W.findIn K (.ref C) name = some none)
    (hq : ∀ h' tk', (∀ b o, b ≠ dx → hp.get? b = some o → h'.get? b = some o) → h'.Ns1 dx (fun y => if y = name then some v else m0 y) → R (.ok (.ret .none)) ⟨h', g, d, tk', os⟩) :
    codeAny (model prog w) A (.call (.builtin "object.__setattr__") ⟨[.ref x, .str name tk, v], []⟩) R ⟨hp, g, d, t, os⟩ := by
  obtain ⟨oD, es, ep, ho, hd, _⟩ := hns.count hw
  refine g_store X (⟨hx, rfl, rfl, ho⟩ : W.InstAt hp x { cls := .ref C, dict := some dx, data := .fields fv } C (some oD)) hcd hm ha ?_
  have cl : W.Looks (model prog w) hp (classData C) cd := W.looks_clsIn X hcd
  obtain ⟨nm, bs, mro, ns, qn, hd, sn, sb, ab, col, del⟩ := cd
  dsimp only at hh
  subst hh
  unfold storeInOwnDict ownDictForStores
  repeat (first | with_reducible refine wpAny_loadPart_at hx ?_ | with_reducible refine cl.at ?_ | with_reducible refine ESX.store_in_old hns hw hz ?_ | wp_step)
  exact fun h' tk' hn' hs => hq h' tk' (fun b o hb ho => (hs.2 b hb).trans ho) hn'
end
end Fx

namespace Fx
open PySem PySem.W PySem.Calls PyProof.Rows PySem.HandSPX
/-- the text of an __init__ with one field -/
def inA (f : Str) (p1 p2 : Pos) : Arguments := { posonlyargs := [], args := [{ arg := "self", annotation := none, pos := p1 }, { arg := f, annotation := none, pos := p2 }], vararg := none, kwonlyargs := [], kw_defaults := [], kwarg := none, defaults := [] }
def inB (msg f : Str) (q : Nat → Pos) (kn : Nat) : List Stmt := [.Expr (.Call (.Attribute (.Call (.Name "super" (q 0)) [] [] (q 1)) "__init__" (q 2)) [.Constant (.str msg) kn (q 3)] [] (q 4)) (q 5), .Assign [.Attribute (.Name "self" (q 6)) f (q 7)] (.Name f (q 8)) (q 9)]
/-- super().__init__(text) is a call of a method whose name stands in the row of its bracket -/
def supE (msg : Str) (q : Nat → Pos) (kn : Nat) : Prop := ∀ env : PySem.Env, ∃ pl : Sem Bool, eval (.Call (.Attribute (.Call (.Name "super" (q 0)) [] [] (q 1)) "__init__" (q 2)) [.Constant (.str msg) kn (q 3)] [] (q 4)) env = (do
      let ov ← attributeBase (.Call (.Name "super" (q 0)) [] [] (q 1)) "__init__" env (eval (.Call (.Name "super" (q 0)) [] [] (q 1)) env)
      standAt (q 2).atName
      let (f, first) ← holding [ov] (getMethod ov "__init__" pl)
      callWith (q 4) f first (backTo (q 4) (starEach [.Constant (.str msg) kn (q 3)] env)) [])
structure ErrTxt (P : Program) (K : Frag) (f msg : Str) (C G fI cc cda : Addr) : Prop where
  cls : ∃ nm q N bs sn sub ab col dd k0 k1 k2 k3 k5, K.lookup C = some (excClassObj nm q C N bs (gTail G) true sn sub ab col dd k0 k1 k2 k3 k5 "Exception.__new__")
  sa : findIn K (.ref C) "__setattr__" = some (some (.builtin "object.__setattr__"))
  noN : findIn K (.ref C) f = some none
  iC : findIn K (.ref C) "__init__" = some (some (.ref fI))
  tC : typeIn K (.ref fI) = some (.type "function")
  sup : alongIn K "__init__" (gTail G) = some (some (.builtin "Exception.__init__"))
  opq : nsIn K cStatics "thirdparty.any" = some none
  cel : ∃ cl cld csl, K.lookup cc = some ⟨cl, cld, .cell (some (.ref C)), csl⟩
  cod : ∃ ccl cdd vs ccs file tf, K.lookup cda = some ⟨ccl, cdd, .fields vs, ccs⟩ ∧ vs[2]? = some (.str file tf) ∧ ((P.main.file : Str) == file) = true
  top : (P.main.scope.names.lookup ("super" : Str)).isSome = false
  fn : ∃ (oc : Value) (od : Option Addr) (qual : Str) (sc : Scope) (kV doc pm : Value) (an : Option Addr) (ct : Value) (osl : Array (Option Value)) (p1 p2 : Pos) (q : Nat → Pos) (kn : Nat),
    K.lookup fI = some ⟨oc, od, .func (ksFn "__init__" qual (inA f p1 p2) (inB msg f q kn) sc .none kV doc pm an (.ref cda) ct cc), osl⟩ ∧ codeIn K (.ref cda) qual = true ∧
    sc.kind = .function ∧ sc.isGenerator = false ∧ sc.isCoroutine = false ∧ (∀ x ∈ sc.names, x.2 ≠ .cell) ∧ sc.names.lookup ("self" : Str) = some .local ∧ sc.names.lookup f = some .local ∧ sc.names.lookup ("super" : Str) = some .globalImplicit ∧ sc.names.lookup ("__class__" : Str) = some .free ∧
    (∀ u v : Value, bindArgs (ksFn "__init__" qual (inA f p1 p2) (inB msg f q kn) sc .none kV doc pm an (.ref cda) ct cc) ⟨[u, v], []⟩ = (pure [(("self" : Str), u), (f, v)] : Sem (List (Str × Value)))) ∧ supE msg q kn
section
variable {prog : Program} {w : World} {A : Around} {E : Value → Shared → Prop} {R : Result → Shared → Prop} {s : Shared} {K : Frag} {mg mb : Str → Option Value} {f msg : Str} {C G fI cc cda : Addr}
theorem err_init (T : ErrTxt prog K f msg C G fI cc cda) (hf : (f == ("self" : Str)) = false) (hd : (f == ("__debug__" : Str)) = false) {x t0 : Addr} {v : Value} (X : K.In s.heap) (hlim : s.heap.NoLimit) (gn : s.heap.Ns mainGlobals mg) (bn : s.heap.Ns builtinsNs mb) (g0 : mg "super" = none) (b0 : mb "super" = some (.type "super"))
    (hx : s.heap.get? x = some (excO C t0)) (hnx : K.lookup x = none) (hroom : A.depth < recursionLimit)
    (hq : ∀ h' tk dx t1, (∀ b o, b ≠ x → s.heap.get? b = some o → h'.get? b = some o) → h'.get? x = some { cls := .ref C, dict := some dx, data := .fields #[.ref t1, .none, .none, .none, .bool false, .none] } → s.heap.objs.size ≤ dx → dx ≠ x → h'.Ns1 dx (fun y => if y = f then some v else none) → R (.ok (.ret .none)) { s with heap := h', toks := tk }) :
    codeAny (model prog w) A (.call (.ref fI) ⟨[.ref x, v], []⟩) R s := by
  obtain ⟨nm, q, N, bs, sn, sub, ab, col, dd, k0, k1, k2, k3, k5, hC⟩ := T.cls
  obtain ⟨oc, od, qual, sc, kV, doc, pm, an, ct, osl, p1, p2, qp, kn, ho, hcd, s1, s2, s3, s4, n1, n2, n3, n4, hb, hev⟩ := T.fn
  obtain ⟨cl, cld, csl, hcell⟩ := T.cel
  obtain ⟨ccl, cdd, vs, ccs, file, tf, hco, hvs, hfile⟩ := T.cod
  have hcl : clsIn K C = some { name := nm, bases := bs, mro := .ref C :: gTail G, ns := N, qualname := q, hasDict := true, slotNames := sn, subclasses := sub, abstract := ab, collection := col, hasDel := false } := by unfold clsIn; rw [hC] <;> rfl
  refine ks_codeAny_call_defAt (fd := ksFn "__init__" qual (inA f p1 p2) (inB msg f qp kn) sc .none kV doc pm an (.ref cda) ct cc) (body := inB msg f qp kn) (binds := [("self", .ref x), (f, v)]) hroom (X _ _ ho) rfl hlim (codeRec_of X hcd) rfl (BindsTo.of_eq (hb _ _)) s4 (fun y hy => ?_) (fun h1 hns k1 => ?_) s3 s2 s1
  · simp only [List.mem_cons, List.not_mem_nil, or_false] at hy
    rcases hy with rfl | rfl
    · exact n1
    · exact n2
  · have hxL : s.heap.objs.size ≠ x := Nat.ne_of_gt (Heap.lt_size hx)
    have X1 : K.In h1 := X.keeps k1
    have hx1 := k1 _ _ hx
    have I1 : InstAt h1 x (excO C t0) C none := ⟨hx1, rfl, rfl, trivial⟩
    obtain ⟨pl, he⟩ := hev (callEnv (ksFn "__init__" qual (inA f p1 p2) (inB msg f qp kn) sc .none kV doc pm an (.ref cda) ct cc) s.heap.objs.size fI)
    refine ks_wpAt_execs_cons (ks_wpAt_Expr_any (ks_wpAt_MethodCall ?_ he) (by show (sc.kind == ScopeKind.module && _) = false; rw [s1]; rfl) rfl)
    refine ks_wpAt_super_base n3 n4 (by decide) rfl (X1 _ _ ho) rfl rfl rfl (X1 _ _ hco) rfl hvs hfile T.top ?_
    refine ks_loadName_global s1 n3 (loadGlobal_builtin (env := callEnv (ksFn "__init__" qual (inA f p1 p2) (inB msg f qp kn) sc .none kV doc pm an (.ref cda) ct cc) s.heap.objs.size fI) (gn.keeps k1) g0 (bn.keeps k1) b0 ⟨rfl, ?_⟩)
    refine wpAny_loadName_free s1 n4 rfl ⟨_, X1 _ _ hcell, rfl⟩ (wpAny_loadName_local s1 n1 hns (v := .ref x) ?_ ?_)
    · have e1 : (("self" : Str) == f) = false := by
        rw [Bool.eq_false_iff] at hf ⊢
        intro z
        exact hf (by rw [eq_of_beq z]; exact beq_self_eq_true _)
      show List.lookup ("self" : Str) [(f, v), ("self", .ref x)] = _
      rw [List.lookup_cons, e1, List.lookup_cons, beq_self_eq_true]
    · obtain ⟨oD, hD1, hD2⟩ : ∃ oD, h1.get? C = some oD ∧ oD.data = .cls { name := nm, bases := bs, mro := .ref C :: gTail G, ns := N, qualname := q, hasDict := true, slotNames := sn, subclasses := sub, abstract := ab, collection := col, hasDel := false } := ⟨_, X1 _ _ hC, rfl⟩
      refine ks_wpAny_isType_cls hD1 hD2 ⟨rfl, ?_⟩
      refine ks_wpAny_call_super hD1 hD2 hx1 rfl (fun c e => by cases e) (looks_mroIn X1 (g_mro hcl rfl (by rw [List.contains_cons, beq_self_eq_true]; rfl))) (fun h2 e2 k2 => ?_)
      have X2 : K.In h2 := X1.keeps k2
      have hx2 := k2 _ _ hx1
      have I2 : InstAt h2 x (excO C t0) C none := ⟨hx2, rfl, rfl, trivial⟩
      have mr : Looks (model prog w) h2 (mroOf (.ref C)) (.ref C :: gTail G) := (looks_clsIn X2 hcl).andThen .now
      have ie : Looks (model prog w) h2 (isInstance (.ref x) (.type "Exception")) true := I2.type.andThen (looks_mroIn X2 (g_mro hcl rfl (by rw [List.contains_cons, g_contains, show ESX.exTail.contains (.type "Exception") = true by decide +kernel, Bool.or_true])))
      refine ESX.getMethod_super e2 (looks_opaque X2 T.opq) mr (ESX.drop_own C _) X2 T.sup (ks_ne X2 I2 hcl) (by decide) ie ?_
      refine ESX.callWith_bound (x := x) ?_ rfl rfl
      refine Calls.spliced_cons (Calls.Constant_str (k := kn) (pos := qp 3) (Calls.spliced_nil ⟨Heap.get?_push_size _ rfl, ?_⟩))
      have k3 : ∀ b o, h2.get? b = some o → (h2.push (ESX.bw x)).get? b = some o := fun b o e => Heap.get?_push_of_some _ e
      refine ESX.call_bw (C := C) (X2.keeps k3 _ _ hC) (k3 _ _ hx2) (Heap.get?_push_size _ rfl) (by rw [sizeLine_eq]; exact (by decide : 1 ≤ 16777216)) fun h4 t1 k4 hx4 => ?_
      have k24 : ∀ b o, b ≠ x → s.heap.get? b = some o → h4.get? b = some o := fun b o hb e => k4 b o hb (k3 b o (k2 b o (k1 b o e)))
      have X4 : K.In h4 := fun b o e => k24 b o (fun z => by rw [z, hnx] at e; cases e) (X b o e)
      have hn4 : h4.Ns s.heap.objs.size (fun y => [(("self" : Str), Value.ref x), (f, v)].reverse.lookup y) := hns.at fun o e => k4 _ o hxL (k3 _ o (k2 _ o e))
      have e1 : (("self" : Str) == f) = false := by
        rw [Bool.eq_false_iff] at hf ⊢
        intro z
        exact hf (by rw [eq_of_beq z]; exact beq_self_eq_true _)
      have lv : [(("self" : Str), Value.ref x), (f, v)].reverse.lookup f = some v := by
        show List.lookup f [(f, v), (("self" : Str), .ref x)] = _
        rw [List.lookup_cons, beq_self_eq_true]
      have ls : [(("self" : Str), Value.ref x), (f, v)].reverse.lookup ("self" : Str) = some (.ref x) := by
        show List.lookup ("self" : Str) [(f, v), ("self", .ref x)] = _
        rw [List.lookup_cons, e1, List.lookup_cons, beq_self_eq_true]
      refine ks_wpAt_execs_cons (wpAt_of_wpAny (plainObj_wpAny_Assign_Attribute ?_))
      refine ESX.ldL hn4 lv (ESX.ldL hn4 ls ?_ s1 n1) s1 n2 hd
      refine set_plain X4 (ox := excO C t1) (od := none) ⟨hx4, rfl, rfl, trivial⟩ T.sa ?_
      refine g_new X4 hx4 hcl rfl rfl T.noN fun h5 tk5 dx k5 dn dne hx5 hn5 => ?_
      exact wpAt_of_wpAny (wpAny_execs_nil (hq h5 tk5 dx t1 (fun b o hb e => k5 b o hb (k24 b o hb e)) hx5 (Nat.le_of_lt (Nat.lt_of_lt_of_le hn4.lt dn)) dne hn5))
/-- an error that was made: at e, its own dict d holds the field -/
structure Mde (h h' : Heap) (e C d : Addr) (f : Str) (v : Value) : Prop where
  keep : ∀ b o, h.get? b = some o → h'.get? b = some o
  new : h.objs.size ≤ e
  obj : ∃ t1, h'.get? e = some { cls := .ref C, dict := some d, data := .fields #[.ref t1, .none, .none, .none, .bool false, .none] }
  dbig : h.objs.size ≤ d
  dne : d ≠ e
  ns : h'.Ns1 d (fun y => if y = f then some v else none)
theorem err_made (T : ErrTxt prog K f msg C G fI cc cda) (hf : (f == ("self" : Str)) = false) (hd : (f == ("__debug__" : Str)) = false) {v : Value} (X : K.In s.heap) (hlim : s.heap.NoLimit) (gn : s.heap.Ns mainGlobals mg) (bn : s.heap.Ns builtinsNs mb) (g0 : mg "super" = none) (b0 : mb "super" = some (.type "super"))
    (hroom : A.depth + 1 < recursionLimit) (hq : ∀ h' tk e d, Mde s.heap h' e C d f v → R (.ok (.ret (.ref e))) { s with heap := h', toks := tk }) :
    codeAny (model prog w) A (.call (.ref C) ⟨[v], []⟩) R s := by
  obtain ⟨nm, q, N, bs, sn, sub, ab, col, dd, k0, k1, k2, k3, k5, hC⟩ := T.cls
  obtain ⟨hp, g, dr, tk, os⟩ := s
  have k : ∀ b o, hp.get? b = some o → ((hp.push (kdv_tup [v])).push (excO C hp.objs.size)).get? b = some o := fun b o e => Heap.get?_push_of_some _ (Heap.get?_push_of_some _ e)
  have hg : ((hp.push (kdv_tup [v])).push (excO C hp.objs.size)).get? (hp.objs.size + 1) = some (excO C hp.objs.size) := by heap_get
  have hnx : K.lookup (hp.objs.size + 1) = none := by
    cases e : K.lookup (hp.objs.size + 1) with
    | none => rfl
    | some o => exact absurd (Nat.lt_of_succ_lt (Heap.lt_size (show hp.get? (hp.objs.size + 1) = some o from X _ _ e))) (Nat.lt_irrefl _)
  refine call_own F.excBase_Exception (fun X => g_contains G X) (X _ _ hC) (looks_findIn X T.iC) (fun self => bind_fn X self T.tC) (by rw [sizeLine_eq]; exact (by decide : 1 ≤ 16777216)) ?_
  refine err_init (s := ⟨(hp.push (kdv_tup [v])).push (excO C hp.objs.size), g, dr, tk, os⟩) T hf hd (X.keeps k) (hlim.keeps k) (gn.keeps k) (bn.keeps k) g0 b0 hg hnx (show A.depth + 1 < recursionLimit from hroom) fun h' tk' dx t1 k' hx dn dne hns => ?_
  have z : hp.objs.size + 1 + 1 ≤ dx := by
    have := dn
    rw [Heap.size_push, Heap.size_push] at this
    exact this
  exact ⟨rfl, hq h' tk' (hp.objs.size + 1) dx ⟨fun b o e => k' b o (Nat.ne_of_lt (Nat.lt_succ_of_lt (Heap.lt_size e))) (k b o e), Nat.le_succ _, ⟨t1, hx⟩, Nat.le_trans (Nat.le_trans (Nat.le_succ _) (Nat.le_succ _)) z, dne, hns⟩⟩
end
end Fx

namespace Fx
open PySem PySem.Spec PyProof.Rows L2
/-- a class of errors with one field, as the module knows it -/
structure ErrH (P : Program) (K : PySem.W.Frag) (mg : Str → Option Value) (n : String) (f : Str) (C : Addr) : Prop where
  T : ∃ msg G fI cc cda, ErrTxt P K f msg C G fI cc cda
  hf : (f == ("self" : Str)) = false
  hd : (f == ("__debug__" : Str)) = false
  cl : clsA K n C
  gm : mg (Str.ofString n) = some (.ref C)
  kp : PySem.W.keepIn K (.ref C) = true
  bE : PySem.W.subIn K (.ref C) (.type "BaseException") = some true
  tE : PySem.W.typeIn K (.ref C) = some (.type "type")
  xf : XfC K C
  no : PySem.W.findIn K (.ref C) f = some none
  su : mg "super" = none
def tMk1 (C : Addr) (f : Str) (ta : TA) : L2.St → Hp → XK → Prop := fun σ H Q => ta σ H fun vs H1 => ∃ v, vs = [v] ∧ ∀ d, H1 d = none → Q (.ref C) (some d) (upd H1 d (.xd [(f, v)]))
section
variable {X : Cx} {e : Expr} {es : List Expr} {ta : TA} {f : Str} {p pos : Pos} {n : String} {C : Addr}
theorem made_inv {pins : List (Addr × Obj)} {σ : L2.St} {H : Hp} {s : Shared} {h' : Heap} {tk : Nat} {a d : Addr} {v : V} {u : Value} (I : Inv X pins σ H s) (r : RelV v u) (m : Mde s.heap h' a C d f u) :
    ∃ G : Heap, Inv X pins σ (upd H d (.xd [(f, v)])) { s with heap := G, toks := tk } ∧ (∀ b o, G.get? b = some o → h'.get? b = some o) ∧ G.get? a = none ∧ H d = none ∧ H a = none := by
  obtain ⟨G, g1, g2⟩ := restrict h' fun b => decide (b ≠ a)
  have gk : ∀ b, b ≠ a → G.get? b = h'.get? b := fun b hb => g1 b (decide_eq_true hb)
  have ge : G.get? a = none := g2 a (by simp)
  have hn : H d = none := I.hok.fresh m.dbig
  have ha : H a = none := I.hok.fresh m.new
  refine ⟨G, I.laid (t' := tk) (a := d) (o := .xd [(f, v)]) (fun b o e => ?_) m.dbig ?_, fun b o e => ?_, ge, hn, ha⟩
  · rw [gk b (Nat.ne_of_lt (Nat.lt_of_lt_of_le (Heap.lt_size e) m.new))]
    exact m.keep b o e
  · refine ⟨_, m.ns.at fun o y => (gk d m.dne).trans y, relO_put (fs := []) r fun g => True.intro⟩
  · by_cases hb : b = a
    · rw [hb, ge] at e
      cases e
    · exact (gk b hb).symm.trans e
theorem call_err {pins : List (Addr × Obj)} {σ : L2.St} {H : Hp} {s : Shared} {k : Nat} {u : Value} {Q : Value → Shared → Prop} (T : ErrH X.prog X.K X.mg n f C) (I : Inv X pins σ H s) (hr : Room k X.A)
    (hq : ∀ h' tk a d, Mde s.heap h' a C d f u → Q (.ref a) { s with heap := h', toks := tk }) : wpAny (model X.prog X.w) X.A (call (.ref C) [u]) Q X.xe s := by
  obtain ⟨msg, G, fI, cc, cda, ET⟩ := T.T
  obtain ⟨mb, h1, h2⟩ := I.mod.blt
  refine wpAny_call (err_made (mg := X.mg) (mb := mb) ET T.hf T.hd I.kIn (I.mod.nolimit.keeps I.bk) (I.mod.glob.keeps I.bk) (h1.keeps I.bk) T.su ((h2 "super" (by decide)).trans (by decide +kernel)) (by have := hr.dp; omega) fun h' tk a d m => ?_)
  exact hq h' tk a d m
theorem pmk_err {k : Nat} {x : Str} (T : ErrH X.prog X.K X.mg n f C) (hx : x = Str.ofString n) (hr : Room k X.A) (hg : Gl X x) (ha : PA X [e] ta)
    (hdb : (x == ("__debug__" : Str)) = false := by decide) (he : starEach [e] X.env = (false, eval e X.env) :: starEach [] X.env := by rfl) (hpl : (backTo pos (starEach [] X.env)).any (·.1) = false := by rfl) :
    PMk X (.Call (.Name x p) [e] [] pos) (tMk1 C f ta) := by
  intro pins s σ H Q I h
  subst hx
  refine wpAny_Call_Name_kw (ld_glob I hg T.gm ?_ hdb)
  refine PySem.W.callWith_K (h₀ := X.base) I.ok.mod.kin T.kp (thn (ha.run pos pins s σ H _ I h) fun us s1 ⟨vs, H1, I1, r1, v, ev, q1⟩ => ⟨I1.kIn, ?_⟩) he hpl
  subst ev
  cases r1 with
  | cons ru rn =>
    cases rn
    refine call_err T I1 hr fun h' tk a d m => ?_
    obtain ⟨G, J, kG, ge, hn, na⟩ := made_inv (tk := tk) I1 ru m
    obtain ⟨t1, ho⟩ := m.obj
    exact ⟨a, _, _, _, _, .ref C, some d, rfl, J, kG, ge, ho, ⟨rfl, rfl⟩, rfl, rfl, by rw [upd_ne (Ne.symm m.dne)]; exact na, rfl, J.bare, raises_own T.bE T.tE, q1 d hn⟩
end
end Fx

namespace Fx
open PySem PySem.Spec PyProof.Rows L2
/-! errors at the data level: class by name, names of the fields, their values -/
abbrev XD := String → List Str → List D → Mp → Prop
abbrev WXd := String → List Str → List D → Ds → Mp → Prop
def ErrAt (K : PySem.W.Frag) (G : Hp) (d : Option Addr) (ns : List Str) (es : List D) : Prop := match d with
  | none => ns = [] ∧ es = []
  | some d => ∃ xs, G d = some (.xd (ns.zip xs)) ∧ ns.length = xs.length ∧ Dts K G xs es
theorem ErrAt.mono {K : PySem.W.Frag} {G G' : Hp} {d : Option Addr} {ns : List Str} {es : List D} (e : Same G G') (h : ErrAt K G d ns es) : ErrAt K G' d ns es := by
  cases d with
  | none => exact h
  | some d =>
    obtain ⟨xs, h1, h2, h3⟩ := h
    exact ⟨xs, e _ _ h1, h2, h3.mono e⟩
theorem Env.setN {K : PySem.W.Frag} {M : Mp} {H : Hp} {σ : L2.St} {ds : Ds} (e : Env K M H σ ds) (i : Nat) : Env K M H (σ.set i none) (ds.set i none) := by
  refine ⟨by rw [List.length_set, List.length_set]; exact e.1, fun j u hj => ?_⟩
  rw [List.getElem?_set] at hj
  rw [List.getElem?_set]
  by_cases q : i = j
  · rw [if_pos q] at hj
    by_cases z : i < ds.length
    · rw [if_pos z] at hj
      cases hj
    · rw [if_neg z] at hj
      cases hj
  · rw [if_neg q] at hj
    rw [if_neg q]
    exact e.2 j u hj
/-- one class lies under another -/
def subN (n m : String) : Bool := n == m || m == "GapError" || m == "Exception"
abbrev RX := List D → Mp → DK → XD → Prop
/-- a ground that knows one state more -/
@[reducible] def Grd.and (g : Grd) (M0 : Mp) (H0 : Hp) : Grd := ⟨fun M H => g.gr M H ∧ Lat M0 H0 M H, fun a b => ⟨g.up a.1 b, a.2.trans b⟩⟩
section
variable [Grd]
def AftX (K : PySem.W.Frag) (M : Mp) (H : Hp) (W : XD) (E : XK) : Prop := ∀ n ns es M', W n ns es M' → ∀ C d H', clsA K n C → HpOk K M' H' → ErrAt K (hid M' H') d ns es → Lat M H M' H' → E (.ref C) d H'
def LkD (K : PySem.W.Frag) (Wd : WXd) (W : WX) : Prop := ∀ n ns es ds M, Wd n ns es ds M → ∀ C d σ H, clsA K n C → Env K M H σ ds → HpOk K M H → ErrAt K (hid M H) d ns es → W (.ref C) d σ H
/-- the errors of a code are taken -/
def TkD (X : Cx) (Wd : WXd) : Prop := ∃ W : WX, Takes X W ∧ LkD X.K Wd W
theorem takes_none {X : Cx} : Takes X (fun _ _ _ _ => False) := fun _ _ x => by
  obtain ⟨_, _, _, _, _, _, _, _, _, _, _, _, _, _, _, _, z⟩ := x
  exact z.elim
theorem tk0 {X : Cx} : TkD X (fun _ _ _ _ _ => False) := ⟨_, takes_none, fun _ _ _ _ _ z => z.elim⟩
end
def SpX (K : PySem.W.Frag) (n : Nat) (R : RX) : Sp := fun vs H Q E => ∃ ds M F W, ds.length = n ∧ Dts K (hid M H) vs ds ∧ @HpOk Grd.triv K M H ∧ R ds M F W ∧ @AftE Grd.triv K M H F Q ∧ @AftX Grd.triv K M H W E
/-- the rule for a def that may raise -/
theorem fndX {P : Program} {w : World} {K : PySem.W.Frag} {mg : Str → Option Value} {base : Heap} {k : Nat} {f : Addr} {fd : FuncData} {ps : List Str} {x qual : Str} {st : Stmt} {N : List Str} {R : RX} (Fu : Fun K x qual st f fd) (S : FnScope N ps (defScope st))
    (hb : ∀ (g : Grd) (cdv : Value) (A : Around) (outer : List PySem.Env) (s : Shared) (H : Hp) (E : XK) (Wd : WXd), (A.deeper (envOfC qual (defScope st) s.heap.objs.size f cdv)).guards = some [] → Room k (A.deeper (envOfC qual (defScope st) s.heap.objs.size f cdv)) →
      @TkD g (cxOf (L2.CX P w) P w K mg base N qual (defScope st) f cdv A outer s H E) Wd →
      ∃ T : TSd, @DSs g (cxOf (L2.CX P w) P w K mg base N qual (defScope st) f cdv A outer s H E) (defBody st) T ∧ ∀ ds M F W, (Wd = fun n ns es _ M' => W n ns es M') → ds.length = ps.length → R ds M F W → T { nx := fun _ M' => F .non M', rt := F } (startD N.length ds) M) :
    FnG P w K mg base (L2.CX P w) (k + 1) f fd ps (SpX K ps.length R) := by
  refine fng_of Fu S (fun vs H Q E h => ?_) (fun cdv A outer s H vs Q E g hr h => ?_)
  · obtain ⟨ds, M, F, W, e, d, _⟩ := h
    rw [d.length, e]
  · obtain ⟨ds, M, F, W, e, d, ok, r, a, ax⟩ := h
    have tk : @TkD (Grd.from M H) (cxOf (L2.CX P w) P w K mg base N qual (defScope st) f cdv A outer s H E) (fun n ns es _ M' => W n ns es M') :=
      ⟨fun cls d _ H' => E cls d H', takes_of rfl rfl rfl rfl, fun n ns es ds' M' w' C d' σ' H' cl ev' ok' er => ax n ns es M' w' C d' H' cl ok'.triv er ok'.2⟩
    obtain ⟨T, hT, q⟩ := hb (Grd.from M H) cdv A outer s H E (fun n ns es _ M' => W n ns es M') g hr tk
    exact ⟨_, hT, startD N.length ds, M, _, env_start d, ⟨ok.1, Lat.refl M H⟩, q ds M F W rfl e r, @AftS.mk (Grd.from M H) _ _ _ _ _ (fun ds' M' z σ' H' ev ok' l => a _ _ z _ _ ok'.triv .non l) (fun d' M' z v H' ok' dt l => a d' M' z v H' ok'.triv dt l) (fun _ _ z => z.elim) (fun _ _ z => z.elim)⟩
section
variable [Grd]
variable {X : Cx} {CX : CXT} {k n : Nat} {f C : Addr} {fd : FuncData} {ps ks : List Str} {sp : Sp} {E : L2.St → XK} {x : Str} {p pos : Pos} {e : Expr} {es : List Expr} {kws : List Keyword} {t tk' : TA}
omit [Grd] in
theorem run_gS {pins : List (Addr × Obj)} {σ : L2.St} {H : Hp} {s : Shared} {Q : VK} {us all : List Value} {kw : List (Str × Value)} {vs : List V} (F : FnG X.prog X.w X.K X.mg X.base CX k f fd ps sp) (gd : X.A.guards = some []) (hr : Room k X.A) (hx : PassesAt CX X σ (E σ))
    (I : Inv X pins σ H s) (r : Vals vs all) (hb : BindsTo s fd ⟨us, kw⟩ (ps.zip all)) (h : sp vs H Q (E σ)) : wpAny (model X.prog X.w) X.A (call (.ref f) us kw) (EP X pins σ Q) X.xe s := by
  refine wpAny_call (codeAny_mono (F.go X.A X.stack s H ⟨us, kw⟩ all vs Q (E σ) gd hr I.env0 hb r h) fun res s' hq => ?_)
  match res, hq with
  | .error e, hq => exact hx pins H s e s' I hq
  | .ok (.ret u), hq => exact I.after hq
  | .ok .next, hq => exact hq.elim
  | .ok .brk, hq => exact hq.elim
  | .ok .cont, hq => exact hq.elim
omit [Grd] in
theorem pg_callS (F : FnG X.prog X.w X.K X.mg X.base CX k f fd ps sp) (gd : X.A.guards = some []) (hr : Room k X.A) (hg : Gl X x) (hm : X.mg x = some (.ref f)) (hk : PySem.W.keepIn X.K (.ref f) = true) (hb : Binds X.K fd ps []) (hx : ∀ σ, PassesAt CX X σ (E σ))
    (ha : PA X (e :: es) t) (hdb : (x == ("__debug__" : Str)) = false := by decide) (he : starEach (e :: es) X.env = (false, eval e X.env) :: starEach es X.env := by rfl) (hpl : (backTo pos (starEach es X.env)).any (·.1) = false := by rfl) :
    PE X (.Call (.Name x p) (e :: es) [] pos) (tCallS sp E t) := ⟨fun pins s σ H Q I h =>
  wpAny_Call_Name_kw (ld_glob I hg hm (PySem.W.callWith_K (h₀ := X.base) I.ok.mod.kin hk (thn (ha.run pos pins s σ H _ I h) fun us s1 ⟨vs, H1, I1, r, q⟩ => ⟨I1.kIn, by
    have hl : us.length = ps.length := by rw [← r.length]; exact F.nlen _ _ _ _ q
    have b := hb s1 us I1.kIn (by rw [List.append_nil]; exact hl)
    rw [List.append_nil] at b
    exact run_gS F gd hr (hx σ) I1 r b q⟩) he hpl) hdb)⟩
variable {g : List Value → List Value → List Value} {gV : List V → List V → List V} {gD : List D → List D → List D}
def tCallKS (sp : Sp) (gV : List V → List V → List V) (E : L2.St → XK) (t tk : TA) : TE := fun σ H Q => t σ H fun vs H1 => tk σ H1 fun zs H2 => sp (gV vs zs) H2 Q (E σ)
omit [Grd] in
theorem pg_callKS (F : FnG X.prog X.w X.K X.mg X.base CX k f fd ps sp) (gd : X.A.guards = some []) (hr : Room k X.A) (hg : Gl X x) (hm : X.mg x = some (.ref f)) (hk : PySem.W.keepIn X.K (.ref f) = true) (hb : KBinds X.K fd ps ks g gV) (hx : ∀ σ, PassesAt CX X σ (E σ))
    (ha : PA X (e :: es) t) (hkw : PK X kws tk') (hall : (backToKw pos (keywordEach kws X.env)).all (·.1.isSome) = true := by rfl) (hks : (backToKw pos (keywordEach kws X.env)).filterMap (·.1) = ks := by rfl)
    (hdb : (x == ("__debug__" : Str)) = false := by decide) (he : starEach (e :: es) X.env = (false, eval e X.env) :: starEach es X.env := by rfl)
    (hpl : ((backTo pos (starEach (e :: es) X.env)).any (·.1) || (backToKw pos (keywordEach kws X.env)).any (·.1.isNone)) = false := by rfl) :
    PE X (.Call (.Name x p) (e :: es) kws pos) (tCallKS sp gV E t tk') := ⟨fun pins s σ H Q I h => by
  refine wpAny_Call_Name_kw (ld_glob I hg hm (PySem.W.callWith_KW (h₀ := X.base) I.ok.mod.kin hk hall (thn (ha.run pos pins s σ H _ I h) fun us s1 ⟨vs, H1, I1, r, q⟩ => thn (hkw.run pos pins s1 σ H1 _ I1 q) fun ws s2 ⟨zs, H2, I2, rz, q2⟩ => ⟨I2.kIn, ?_⟩) hpl he) hdb)
  have r2 := hb.rel r rz
  rw [hks]
  exact run_gS F gd hr (hx σ) I2 r2 (hb.to s2 us ws I2.kIn (by rw [← r2.length]; exact F.nlen _ _ _ _ q2)) q2⟩
omit [Grd] in
theorem pg_callKS0 (F : FnG X.prog X.w X.K X.mg X.base CX k f fd ps sp) (gd : X.A.guards = some []) (hr : Room k X.A) (hg : Gl X x) (hm : X.mg x = some (.ref f)) (hk : PySem.W.keepIn X.K (.ref f) = true) (hb : KBinds X.K fd ps ks g gV) (hx : ∀ σ, PassesAt CX X σ (E σ))
    (hkw : PK X kws tk') (hall : (backToKw pos (keywordEach kws X.env)).all (·.1.isSome) = true := by rfl) (hks : (backToKw pos (keywordEach kws X.env)).filterMap (·.1) = ks := by rfl)
    (hdb : (x == ("__debug__" : Str)) = false := by decide)
    (hpl : ((backTo pos (starEach [] X.env)).any (·.1) || (backToKw pos (keywordEach kws X.env)).any (·.1.isNone)) = false := by rfl) :
    PE X (.Call (.Name x p) [] kws pos) (tCallKS sp gV E tNil tk') := ⟨fun pins s σ H Q I h => by
  refine wpAny_Call_Name_kw (ld_glob I hg hm (PySem.W.callWith_KW0 (h₀ := X.base) I.ok.mod.kin hk hall (thn (hkw.run pos pins s σ H _ I h) fun ws s2 ⟨zs, H2, I2, rz, q2⟩ => ⟨I2.kIn, ?_⟩) hpl) hdb)
  have r2 := hb.rel .nil rz
  rw [hks]
  exact run_gS (us := []) F gd hr (hx σ) I2 r2 (hb.to s2 [] ws I2.kIn (by rw [← r2.length]; exact F.nlen _ _ _ _ q2)) q2⟩
end
/-! calls -/
def callX (R : RX) (W : WXd) (U : TAd) : TEd := fun ds M F => U ds M fun xs M1 => R xs M1 F fun n ns es M2 => W n ns es ds M2
def callKX (R : RX) (gD : List D → List D → List D) (W : WXd) (U V : TAd) : TEd := fun ds M F => U ds M fun xs M1 => V ds M1 fun ys M2 => R (gD xs ys) M2 F fun n ns es M3 => W n ns es ds M3
structure FnX (P : Program) (w : World) (K : PySem.W.Frag) (mg : Str → Option Value) (base : Heap) (k : Nat) (x : Str) (f : Addr) (fd : FuncData) (ps : List Str) (R : RX) : Prop where
  fn : FnG P w K mg base (L2.CX P w) k f fd ps (SpX K ps.length R)
  hn : ∀ xs M F W, R xs M F W → xs.length = ps.length
  gm : mg x = some (.ref f)
  kp : PySem.W.keepIn K (.ref f) = true
  bi : Binds K fd ps []
section
variable [Grd]
variable {X : Cx} {j k n : Nat} {f C : Addr} {fd : FuncData} {ps ks : List Str} {R : RX} {x : Str} {p pos : Pos} {e : Expr} {es : List Expr} {kws : List Keyword} {U V' : TAd} {Wd : WXd} {W : WX} {K : PySem.W.Frag}
theorem emb_callX {σ : L2.St} {H : Hp} {Q : VK} (hn : ∀ xs M F W, R xs M F W → xs.length = n) (lk : LkD K Wd W) (h : emb K (callX R Wd U) σ H Q) : tCallS (SpX K n R) (WE W) (embA K U) σ H Q := by
  obtain ⟨ds, M, F, ev, ok, h, a⟩ := h
  refine ⟨ds, M, _, ev, ok, h, fun xs M1 h1 vs H1 ok1 dts l1 => ?_⟩
  exact ⟨xs, M1, F, _, hn _ _ _ _ h1, dts, ok1.triv, h1, (a.later l1).triv ok1, fun n' ns es' M2 w' C' d' H2 cl ok2 er l2 => lk n' ns es' ds M2 w' C' d' σ H2 cl ((ev.mono l1).mono l2) (ok1.back l2 ok2) er⟩
theorem dcallX (h : FnX X.prog X.w X.K X.mg X.base j x f fd ps R) (tk : TkD X Wd) (gd : X.A.guards = some []) (hr : Room k X.A) (ha : DA X (e :: es) U) (hjk : j ≤ k := by decide) (hg : Gl X x := by rfl) (hdb : (x == ("__debug__" : Str)) = false := by decide) (he : starEach (e :: es) X.env = (false, eval e X.env) :: starEach es X.env := by rfl) (hpl : (backTo pos (starEach es X.env)).any (·.1) = false := by rfl) :
    DE X (.Call (.Name x p) (e :: es) [] pos) (callX R Wd U) := by
  obtain ⟨W, tW, lk⟩ := tk
  exact (pg_callS h.fn gd (hr.mono hjk) hg h.gm h.kp h.bi (fun σ => passAt tW σ) ha hdb he hpl).fimp fun _ _ _ q => emb_callX h.hn lk q
variable {g : List Value → List Value → List Value} {gV : List V → List V → List V} {gD : List D → List D → List D}
theorem emb_callKX {σ : L2.St} {H : Hp} {Q : VK} {t : TA} (hn : ∀ xs M F W, R xs M F W → xs.length = n) (hg : ∀ G vs ws xs ys, Dts K G vs xs → Dts K G ws ys → Dts K G (gV vs ws) (gD xs ys)) (lk : LkD K Wd W)
    (ht : ∀ σ H Q, embA K U σ H Q → t σ H Q) (h : emb K (callKX R gD Wd U V') σ H Q) : tCallKS (SpX K n R) gV (WE W) t (embA K V') σ H Q := by
  obtain ⟨ds, M, F, ev, ok, h, a⟩ := h
  refine ht _ _ _ ⟨ds, M, _, ev, ok, h, fun xs M1 h1 vs H1 ok1 dts1 l1 => ⟨ds, M1, _, ev.mono l1, ok1, h1, fun ys M2 h2 ws H2 ok2 dts2 l2 => ?_⟩⟩
  exact ⟨_, M2, F, _, hn _ _ _ _ h2, hg _ _ _ _ _ (dts1.mono l2.same) dts2, ok2.triv, h2, (a.later (l1.trans l2)).triv ok2, fun n' ns es' M3 w' C' d' H3 cl ok3 er l3 => lk n' ns es' ds M3 w' C' d' σ H3 cl (((ev.mono l1).mono l2).mono l3) (ok2.back l3 ok3) er⟩
theorem dcallKX (h : FnX X.prog X.w X.K X.mg X.base j x f fd ps R) (hb : KBinds X.K fd ps ks g gV) (hgd : ∀ G vs ws xs ys, Dts X.K G vs xs → Dts X.K G ws ys → Dts X.K G (gV vs ws) (gD xs ys)) (tk : TkD X Wd) (gd : X.A.guards = some []) (hr : Room k X.A) (ha : DA X (e :: es) U) (hkw : DQ X kws V') (hjk : j ≤ k := by decide) (hg : Gl X x := by rfl)
    (hall : (backToKw pos (keywordEach kws X.env)).all (·.1.isSome) = true := by rfl) (hks : (backToKw pos (keywordEach kws X.env)).filterMap (·.1) = ks := by rfl)
    (hdb : (x == ("__debug__" : Str)) = false := by decide) (he : starEach (e :: es) X.env = (false, eval e X.env) :: starEach es X.env := by rfl)
    (hpl : ((backTo pos (starEach (e :: es) X.env)).any (·.1) || (backToKw pos (keywordEach kws X.env)).any (·.1.isNone)) = false := by rfl) :
    DE X (.Call (.Name x p) (e :: es) kws pos) (callKX R gD Wd U V') := by
  obtain ⟨W, tW, lk⟩ := tk
  exact (pg_callKS h.fn gd (hr.mono hjk) hg h.gm h.kp hb (fun σ => passAt tW σ) ha hkw hall hks hdb he hpl).fimp fun _ _ _ q => emb_callKX h.hn hgd lk (fun _ _ _ z => z) q
theorem dcallKX0 (h : FnX X.prog X.w X.K X.mg X.base j x f fd ps R) (hb : KBinds X.K fd ps ks g gV) (hgd : ∀ G vs ws xs ys, Dts X.K G vs xs → Dts X.K G ws ys → Dts X.K G (gV vs ws) (gD xs ys)) (tk : TkD X Wd) (gd : X.A.guards = some []) (hr : Room k X.A) (hkw : DQ X kws V') (hjk : j ≤ k := by decide) (hg : Gl X x := by rfl)
    (hall : (backToKw pos (keywordEach kws X.env)).all (·.1.isSome) = true := by rfl) (hks : (backToKw pos (keywordEach kws X.env)).filterMap (·.1) = ks := by rfl)
    (hdb : (x == ("__debug__" : Str)) = false := by decide)
    (hpl : ((backTo pos (starEach [] X.env)).any (·.1) || (backToKw pos (keywordEach kws X.env)).any (·.1.isNone)) = false := by rfl) :
    DE X (.Call (.Name x p) [] kws pos) (callKX R gD Wd nilD V') := by
  obtain ⟨W, tW, lk⟩ := tk
  exact (pg_callKS0 h.fn gd (hr.mono hjk) hg h.gm h.kp hb (fun σ => passAt tW σ) hkw hall hks hdb hpl).fimp fun _ _ _ q => emb_callKX (t := tNil) h.hn hgd lk (fun _ H _ ⟨ds, M, F, ev, ok, h, a⟩ => a _ _ h _ _ ok .nil (Lat.refl M H)) q
end
/-! raise C(e) -/
def raiseD (n : String) (f : Str) (W : WXd) (U : TAd) : TSd := fun _ ds M => U ds M fun xs M1 => match xs with
  | [v] => W n [f] [v] ds M1
  | _ => False
section
variable [Grd]
variable {X : Cx} {k : Nat} {C : Addr} {x f : Str} {n : String} {p pos pos' : Pos} {e : Expr} {U : TAd} {Wd : WXd}
theorem ds_raise (T : ErrH X.prog X.K X.mg n f C) (tk : TkD X Wd) (hc : X.calm = true) (hr : Room k X.A) (ha : DA X [e] U) (hx : x = Str.ofString n := by rfl) (hg : Gl X x := by rfl) 
    (hdb : (x == ("__debug__" : Str)) = false := by decide) (he : starEach [e] X.env = (false, eval e X.env) :: starEach [] X.env := by rfl) (hpl : (backTo pos' (starEach [] X.env)).any (·.1) = false := by rfl) :
    DS X (.Raise (some (.Call (.Name x p) [e] [] pos')) none pos) (raiseD n f Wd U) := by
  obtain ⟨W, tW, lk⟩ := tk
  refine (ps_raise hc tW (pmk_err T hx hr hg ha hdb he hpl)).fimp fun E σ H ⟨ds, M, B, ev, ok, h, a⟩ => ⟨ds, M, _, ev, ok, h, fun xs M1 h1 vs H1 ok1 dts l1 => ?_⟩
  match xs, vs, dts, h1 with
  | [d], [v], .cons e1 .nil, h1 =>
    refine ⟨v, rfl, fun dd hd => ?_⟩
    obtain ⟨ok2, l2⟩ := ok1.lay (p := dd) (o := .xd [(f, v)]) hd
    refine lk n [f] [d] ds M1 h1 C (some dd) σ _ T.cl ((ev.mono l1).mono l2) ok2 ⟨[v], ?_, rfl, .cons (e1.mono l2.same) .nil⟩
    rw [hid_of (ok1.free hd)]
    exact upd_same
  | [], _, _, h1 => exact h1.elim
  | _ :: _ :: _, _, _, h1 => exact h1.elim
end
/-! try .. except C as n -/
def tryW (errs : List String) (cn : String) (i : Nat) (th : Addr → String → Option Addr → TSd) (W : WXd) (B : Endd) : WXd := fun n ns es ds M => n ∈ errs ∧ br (subN n cn)
  (∀ a d, th a n d { nx := fun ds2 M2 => B.nx (ds2.set i none) M2, rt := B.rt, bk := fun ds2 M2 => B.bk (ds2.set i none) M2, ct := fun ds2 M2 => B.ct (ds2.set i none) M2 } (ds.set i (some (.obj (.cau a n d) ns es))) M) (W n ns es ds M)
def tryD (errs : List String) (cn : String) (i : Nat) (tb : WXd → TSd) (th : Addr → String → Option Addr → TSd) (W : WXd) : TSd := fun B ds M => tb (tryW errs cn i th W B) B ds M
/-- what an except clause asks of the classes -/
def ExmH (K : PySem.W.Frag) (errs : List String) (cn : String) (c : Value) : Prop := ∀ n ∈ errs, ∀ C, clsA K n C → PySem.W.exmOne K (.ref C) c = some (subN n cn)
section
variable [Grd]
variable {X : Cx} {errs : List String} {cn : String} {c : Value} {x y : Str} {i : Nat} {body suite : List Stmt} {b₀ : Stmt} {np pos pos' : Pos} {tb : WXd → TSd} {th : Addr → String → Option Addr → TSd} {Wd : WXd}
theorem ds_try (hx : ExmH X.K errs cn c) (hc : Names X x c) (hs : X.stack = X.env :: X.outer) (hf : X.env.frame = some X.env.locals) (hN : X.N.Nodup) (tk : TkD X Wd)
    (hb : ∀ (g : Grd) (W' : WXd) (pn : List (Addr × Obj)) (xe : Value → Shared → Prop), @TkD g (X.tr pn xe) W' → PassesOwn (model X.prog X.w) X.A X.env xe → @DSs g (X.tr pn xe) body (tb W'))
    (hsu : ∀ (a : Addr) (oe : Obj) (n : String) (C : Addr) (d : Option Addr) (pn : List (Addr × Obj)), n ∈ errs → clsA X.K n C → Zc (.ref C) d oe → (∃ vs, oe.data = .fields vs) → DSs (X.suite a ((a, oe) :: pn)) (b₀ :: suite) (th a n d))
    (hi : X.N[i]? = some y := by rfl) (hln : X.env.kindOf y = some .local := by rfl) :
    DS X (.Try body [.ExceptHandler (some (.Name x np)) (some y) (b₀ :: suite) pos'] [] [] pos) (tryD errs cn i tb th Wd) := by
  obtain ⟨W, tW, lk⟩ := tk
  refine (ps_try_as (i := i) (n := y) (tb := fun W' D σ H => ∃ (g : Grd) (Wd' : WXd), @LkD g X.K Wd' W' ∧ @embS g X.K (tb Wd') D σ H) (ts := fun a cls d D σ H => ∃ n C, n ∈ errs ∧ cls = .ref C ∧ clsA X.K n C ∧ embS X.K (th a n d) D σ H) (Wout := W) hs hf hN hi hln hc tW ?_ ?_).fimp ?_
  · intro W' pn xe tk' po
    exact ⟨fun pins s σ H D I ⟨g, Wd', lk', q⟩ => (hb g Wd' pn xe ⟨W', tk', lk'⟩ po).run pins s σ H D I q⟩
  · intro a oe cls d pn hz hd
    refine ⟨fun pins s σ H D I ⟨n, C, hn, ec, cl, q⟩ => ?_⟩
    subst ec
    exact (hsu a oe n C d pn hn cl hz hd).run pins s σ H D I q
  · intro D σ H ⟨ds, M, B, ev, ok, h, a⟩
    refine ⟨Grd.and inferInstance M H, _, ?_, ds, M, B, ev, ⟨ok.1, ok.2, Lat.refl M H⟩, h, ?_⟩
    · intro n ns es ds' M' ⟨hn, w⟩ C d σ' H' cl ev' ok' er
      have ok1 : HpOk X.K M' H' := ⟨ok'.1, ok'.2.1⟩
      have lt : Lat M H M' H' := ok'.2.2
      refine ⟨subN n cn, hx n hn C cl, fun hy a' ha' => ?_, fun hy => ?_⟩
      · rw [hy] at w
        refine ⟨n, C, hn, rfl, cl, ds'.set i (some (.obj (.cau a' n d) ns es)), M', _, ev'.set i ?_, ok1, w a' d, ?_⟩
        · cases d with
          | none =>
            obtain ⟨rfl, rfl⟩ := er
            exact .obj (xs := []) ⟨rfl, rfl⟩ rfl .nil
          | some dd =>
            obtain ⟨xs, e1, e2, e3⟩ := er
            exact .obj (xs := xs) ⟨rfl, e1⟩ e2 e3
        · exact ⟨fun ds2 M2 z σ2 H2 ev2 ok2 l2 => a.nx _ _ z _ _ (ev2.setN i) ok2 (lt.trans l2), a.rt.later lt, fun ds2 M2 z σ2 H2 ev2 ok2 l2 => a.bk _ _ z _ _ (ev2.setN i) ok2 (lt.trans l2), fun ds2 M2 z σ2 H2 ev2 ok2 l2 => a.ct _ _ z _ _ (ev2.setN i) ok2 (lt.trans l2)⟩
      · rw [hy] at w
        exact lk n ns es ds' M' w C d σ' H' cl ev' ok1 er
    · exact @AftS.mk (Grd.and inferInstance M H) _ _ _ _ _ (fun ds' M' z σ' H' ev' ok' l => a.nx _ _ z _ _ ev' ⟨ok'.1, ok'.2.1⟩ l) (fun d M' z v H' ok' dt l => a.rt d M' z v H' ⟨ok'.1, ok'.2.1⟩ dt l) (fun ds' M' z σ' H' ev' ok' l => a.bk _ _ z _ _ ev' ⟨ok'.1, ok'.2.1⟩ l) (fun ds' M' z σ' H' ev' ok' l => a.ct _ _ z _ _ ev' ⟨ok'.1, ok'.2.1⟩ l)
end
/-! e.f and isinstance(e, C) in a suite -/
def cauD (a : Addr) (d : Option Addr) (x : D) (K : List Str → List D → Prop) : Prop := match x with
  | .obj (.cau a' n d') ns es => a' = a ∧ d' = d ∧ K ns es
  | _ => False
def xfD (cn n : String) (a : Addr) (d : Option Addr) (f : Str) (T : TEd) : TEd := fun ds M F => n = cn ∧ T ds M fun x M1 => cauD a d x fun ns es => match (ns.zip es).lookup f with
  | some v => F v M1
  | none => False
def isXD (errs : List String) (n g : String) (a : Addr) (d : Option Addr) (T : TEd) : TEd := fun ds M F => n ∈ errs ∧ T ds M fun x M1 => cauD a d x fun _ _ => F (.bl (subN n g)) M1
theorem lookup_dts {K : PySem.W.Frag} {G : Hp} {f : Str} {v : D} : ∀ {ns : List Str} {xs : List V} {es : List D}, Dts K G xs es → ns.length = xs.length → (ns.zip es).lookup f = some v → ∃ u, (ns.zip xs).lookup f = some u ∧ Dt K G u v
  | [], _, _, _, _, h => by simp at h
  | n :: ns, _, _, .nil, hl, _ => by simp at hl
  | n :: ns, _, _, .cons (v := u) h1 h2, hl, h => by
    rw [List.zip_cons_cons, List.lookup_cons] at h ⊢
    cases q : (f == n) with
    | true =>
      rw [q] at h
      cases h
      exact ⟨u, rfl, h1⟩
    | false =>
      rw [q] at h
      exact lookup_dts h2 (by simpa using hl) h
/-- what isinstance asks of the classes -/
structure IsxH (K : PySem.W.Frag) (errs : List String) (g : String) (Cg : Addr) : Prop where
  cl : clsA K g Cg
  ec : ∀ n ∈ errs, ∀ C, clsA K n C → ExcC K C ∧ PySem.W.kitOne K (.ref C) (.ref Cg) = some (subN n g)
section
variable [Grd]
variable {X : Cx} {errs : List String} {cn n gn : String} {C Cg a : Addr} {oe : Obj} {d : Option Addr} {pn : List (Addr × Obj)} {e : Expr} {f x : Str} {T : TEd} {p p2 pos : Pos}
omit [Grd] in
theorem clsA_inj {K : PySem.W.Frag} {n : String} {C C' : Addr} (h : clsA K n C) (h' : clsA K n C') : C = C' := by
  unfold clsA at h h'
  rw [h] at h'
  cases h'
  rfl
theorem de_xf {C' : Addr} (E : ErrH X.prog X.K X.mg cn f C') (cl : clsA X.K n C) (hz : Zc (.ref C) d oe) (hf : ∃ vs, oe.data = .fields vs) (he : DE (X.suite a ((a, oe) :: pn)) e T) (hb : attributeBase e f X.env (eval e X.env) = eval e X.env := by rfl) :
    DE (X.suite a ((a, oe) :: pn)) (.Attribute e f pos) (xfD cn n a d f T) := by
  refine (pe_xf (C := C') (cls := .ref C) (d := d) E.xf E.no hz hf he hb).fimp fun σ H Q ⟨ds, M, F, ev, ok, ⟨hn, h⟩, af⟩ => ⟨ds, M, _, ev, ok, h, fun xx M1 h1 v H1 ok1 dt l1 => ?_⟩
  subst hn
  have e1 := clsA_inj cl E.cl
  subst e1
  cases dt with
  | obj o1 o2 o3 =>
    rename_i k ns xs es
    cases k with
    | cau a' n' d' =>
      obtain ⟨ea, ed, h1⟩ := h1
      subst ea ed
      split at h1
      · next v' hv =>
        obtain ⟨u, hu, du⟩ := lookup_dts o3 o2 hv
        obtain ⟨rfl, o1⟩ := o1
        cases d' with
        | none =>
          have o1' : ns.zip xs = [] := o1
          rw [o1'] at hu
          cases hu
        | some dd => exact ⟨rfl, rfl, dd, _, u, rfl, hid_sub _ _ o1, hu, af _ _ h1 _ _ ok1 du l1⟩
      · exact h1.elim
    | err n' => exact h1.elim
    | ins n' => exact h1.elim
  | _ => exact h1.elim
omit [Grd] in
theorem call_isX (E : ExcC X.K C) (hz : Zc (.ref C) d oe) (hf : ∃ vs, oe.data = .fields vs) : CallR (X.suite a ((a, oe) :: pn)) (.builtin "isinstance") (fun vs H Q => ∃ (b : Bool), vs = [.ref a, .ref Cg] ∧ PySem.W.kitOne X.K (.ref C) (.ref Cg) = some b ∧ (∀ dd, d = some dd → ∃ fs, H dd = some (.xd fs)) ∧ Q (.bl b) H) := by
  intro pins s σ H xs us Q I r h
  obtain ⟨b, rfl, e, hd, q⟩ := h
  cases r with
  | cons rx rr =>
    cases rr with
    | cons rt rr =>
      cases rr
      cases rx
      cases rt
      obtain ⟨hget, _⟩ := I.pin (a, oe) (List.mem_append.mpr (.inl List.mem_cons_self))
      obtain ⟨vs, hv⟩ := hf
      have hcl : (PySem.W.clsIn X.K C).isSome = true := by
        obtain ⟨cd, hc, _⟩ := PySem.W.any_some E.hd
        rw [hc]
        rfl
      have fin : ∀ od, PySem.W.InstAt s.heap a oe C od → wpAny (model X.prog X.w) (X.suite a ((a, oe) :: pn)).A (call (.builtin "isinstance") [.ref a, .ref Cg]) (EP (X.suite a ((a, oe) :: pn)) pins σ Q) (X.suite a ((a, oe) :: pn)).xe s := fun od J =>
        PySem.W.kia_one (PySem.W.kitx_exc hcl E.hg E.hk E.hs E.ha E.hn E.ht E.hm) I.kIn J e (fun z => nomatch z) fun tk => ⟨.bl b, H, I.kept (t' := tk) fun _ _ z => z, rfl, q⟩
      obtain ⟨oc, od, oda, osl⟩ := oe
      obtain ⟨h1, h2⟩ := hz
      dsimp only at h1 h2 hv
      subst h1 h2 hv
      cases od with
      | none => exact fin none ⟨hget, rfl, rfl, trivial⟩
      | some dd =>
        obtain ⟨fs, hfs⟩ := hd dd rfl
        have hx : ObjOk X.prog X.w H s.heap dd (.xd fs) := I.hok dd _ hfs
        obtain ⟨mA, ⟨o, es, ep, ho, _⟩, _⟩ := hx
        exact fin (some o) ⟨hget, rfl, rfl, ho⟩
theorem de_isX (G : IsxH X.K errs gn Cg) (hmg : X.mg x = some (.ref Cg)) (cl : clsA X.K n C) (hz : Zc (.ref C) d oe) (hf : ∃ vs, oe.data = .fields vs) (he : DE (X.suite a ((a, oe) :: pn)) e T) (hm : X.mg "isinstance" = none) (hg : Gl X "isinstance" := by rfl) (hg2 : Gl X x := by rfl)
    (hdb2 : (x == ("__debug__" : Str)) = false := by decide) (hse : starEach [e, .Name x p2] X.env = (false, eval e X.env) :: starEach [.Name x p2] X.env := by rfl) (hse2 : starEach [.Name x p2] X.env = (false, eval (.Name x p2) X.env) :: starEach [] X.env := by rfl) (hpl : (backTo pos (starEach [.Name x p2] X.env)).any (·.1) = false := by rfl) :
    DE (X.suite a ((a, oe) :: pn)) (.Call (.Name "isinstance" p) [e, .Name x p2] [] pos) (isXD errs n gn a d T) := by
  by_cases hn : n ∈ errs
  · obtain ⟨E, ek⟩ := G.ec n hn C cl
    refine (pe_callB (X := X.suite a ((a, oe) :: pn)) (call_isX (Cg := Cg) E hz hf) hg hm boot_isinstance (pa_cons he (pa_cons (pe_glob (X := X.suite a ((a, oe) :: pn)) (v := .ref Cg) hg2 hmg rfl hdb2) pa_nil hse2) hse) (by decide) (by decide) hse hpl).fimp fun σ H Q ⟨ds, M, F, ev, ok, ⟨_, h⟩, af⟩ => ?_
    refine ⟨ds, M, _, ev, ok, h, fun xx M1 h1 v H1 ok1 dt l1 => ?_⟩
    cases dt with
    | obj o1 o2 o3 =>
      rename_i k ns xs es
      cases k with
      | cau a' n' d' =>
        obtain ⟨ea, ed, h1⟩ := h1
        subst ea ed
        obtain ⟨rfl, o1⟩ := o1
        refine ⟨subN n gn, rfl, ek, fun dd e => ?_, af _ _ h1 _ _ ok1 (.bl _) l1⟩
        subst e
        exact ⟨_, hid_sub _ _ o1⟩
      | err n' => exact h1.elim
      | ins n' => exact h1.elim
    | _ => exact h1.elim
  · exact ⟨fun pins s σ H Q I ⟨ds, M, F, ev, ok, ⟨h, _⟩, af⟩ => absurd h hn⟩
end
end Fx

namespace Fx
open PySem PySem.Spec PyProof.Rows L2
/-! a slice of a list that may change -/
def slM : D → Option Int → Option Int → Mp → DK → Prop
  | .ref a, lo, hi, M, F => match M a with
    | some (.lst xs) => F (.lst (cutL xs lo hi)) M
    | _ => False
  | _, _, _, _, _ => False
def sliM (T : TEd) (A B : TOd) : TEd := fun ds M F => T ds M fun d M1 => A ds M1 fun lo M2 => B ds M2 fun hi M3 => slM d lo hi M3 F
section
variable [Grd]
variable {X : Cx} {e : Expr} {lo hi : Option Expr} {T : TEd} {A B : TOd} {pos p2 : Pos}
theorem sl_dM : SlR X (fun v lo hi H Q => ∃ d M F, Dt X.K (hid M H) v d ∧ HpOk X.K M H ∧ slM d lo hi M F ∧ AftE X.K M H F Q) := by
  intro pins s σ H x v vl vu lo hi sl Q I rx hs pl pu h
  obtain ⟨d, M, F, dt, ok, h, af⟩ := h
  unfold slM at h
  split at h
  · split at h
    · next e =>
      cases dt
      obtain ⟨ys, e1, d1⟩ := ok _ _ e
      exact sl_list pins s σ H _ v vl vu lo hi sl Q I rx hs pl pu ⟨_, _, rfl, .inl (.inl e1), af.layL ok (d1.cut lo hi) h⟩
    · exact h.elim
  · exact h.elim
theorem de_sliM (he : DE X e T) (ha : DO X lo A) (hb : DO X hi B) : DE X (.Subscript e (.Slice lo hi none p2) pos) (sliM T A B) := (pe_slice sl_dM he ha hb).fimp fun σ H Q ⟨ds, M, F, ev, ok, h, af⟩ =>
  ⟨ds, M, _, ev, ok, h, fun d M1 h1 v H1 ok1 dt l1 => ⟨ds, M1, _, ev.mono l1, ok1, h1, fun o M2 h2 H2 ok2 l2 => ⟨ds, M2, _, (ev.mono l1).mono l2, ok2, h2, fun o2 M3 h3 H3 ok3 l3 => ⟨d, M3, F, (dt.mono l2.same).mono l3.same, ok3, h3, af.later ((l1.trans l2).trans l3)⟩⟩⟩⟩
end
/-! calls with keywords and defaults -/
def kmix {α : Type} (np nk : Nat) (idx : List Nat) (us ws : List α) : List α := if us.length = np ∧ ws.length = nk then idx.filterMap ((us ++ ws)[·]?) else []
theorem pick_rel {α β : Type} {R : α → β → Prop} {xs : List α} {ys : List β} (h : Paired R xs ys) : ∀ idx : List Nat, Paired R (idx.filterMap (xs[·]?)) (idx.filterMap (ys[·]?))
  | [] => .nil
  | i :: idx => by
    have key : ∀ {xs : List α} {ys : List β}, Paired R xs ys → ∀ i : Nat, (xs[i]? = none ∧ ys[i]? = none) ∨ ∃ a b, xs[i]? = some a ∧ ys[i]? = some b ∧ R a b := by
      intro xs ys h
      induction h with
      | nil => intro i; exact .inl ⟨by simp, by simp⟩
      | cons r t ih =>
        intro i
        cases i with
        | zero => exact .inr ⟨_, _, rfl, rfl, r⟩
        | succ i => simpa using ih i
    rw [List.filterMap_cons, List.filterMap_cons]
    rcases key h i with ⟨e1, e2⟩ | ⟨a, b, e1, e2, r⟩
    · rw [e1, e2]
      exact pick_rel h idx
    · rw [e1, e2]
      exact .cons r (pick_rel h idx)
theorem vals_append {vs ws : List V} {us zs : List Value} (h : Vals vs us) (h' : Vals ws zs) : Vals (vs ++ ws) (us ++ zs) := h.append h'
theorem mix_rel {np nk : Nat} {idx : List Nat} {vs zs : List V} {us ws : List Value} (h : Vals vs us) (h' : Vals zs ws) : Vals (kmix np nk idx vs zs) (kmix np nk idx us ws) := by
  unfold kmix
  rw [h.length, h'.length]
  split
  · exact pick_rel (h.append h') idx
  · exact .nil
theorem Dts.pick {K : PySem.W.Frag} {G : Hp} {xs : List V} {ys : List D} (h : Dts K G xs ys) : ∀ idx : List Nat, Dts K G (idx.filterMap (xs[·]?)) (idx.filterMap (ys[·]?))
  | [] => .nil
  | i :: idx => by
    rw [List.filterMap_cons, List.filterMap_cons]
    cases e : ys[i]? with
    | none =>
      have : xs[i]? = none := by
        rw [List.getElem?_eq_none_iff] at e ⊢
        rw [h.length]
        exact e
      rw [this]
      exact h.pick idx
    | some d =>
      obtain ⟨v, e1, dv⟩ := h.get e
      rw [e1]
      exact .cons dv (h.pick idx)
theorem gd_mix {K : PySem.W.Frag} {np nk : Nat} {idx : List Nat} : ∀ (G : Hp) (vs ws : List V) (xs ys : List D), Dts K G vs xs → Dts K G ws ys → Dts K G (kmix np nk idx vs ws) (kmix np nk idx xs ys) := fun G vs ws xs ys h1 h2 => by
  unfold kmix
  rw [h1.length, h2.length]
  split
  · exact (h1.append h2).pick idx
  · exact .nil
theorem kb_mix {K : PySem.W.Frag} {x qual : Str} {st : Stmt} {f : Addr} {fd : FuncData} {ps ks : List Str} {np : Nat} {idx : List Nat} (F : Fun K x qual st f fd) (hp : ps ≠ [])
    (h : ∀ (kV doc pm : Value) (an : Option Addr) (cdv ct : Value) (us ws : List Value), us.length = np → ws.length = ks.length → bindArgs (PySem.W.fnOf x qual (defArgs st) (defBody st) (defScope st) .none kV doc pm an cdv ct) ⟨us, ks.zip ws⟩ = pure (ps.zip (kmix np ks.length idx us ws))) :
    KBinds K fd ps ks (kmix np ks.length idx) (kmix np ks.length idx) := by
  obtain ⟨oc, od, kV, doc, pm, an, cdv, ct, osl, rfl, lk, hcd⟩ := F.ex
  refine ⟨fun s us ws _ hl => ?_, fun r1 r2 => mix_rel r1 r2⟩
  by_cases c : us.length = np ∧ ws.length = ks.length
  · exact .of_eq (h kV doc pm an cdv ct us ws c.1 c.2)
  · unfold kmix at hl
    rw [if_neg c] at hl
    exact absurd (List.length_eq_zero_iff.mp hl.symm) hp
/-- defaults of keyword parameters behind all others -/
def kdef {α : Type} (ds : List α) (us ws : List α) : List α := match ws with
  | [] => us ++ ds
  | _ :: _ => []
theorem kb_def {K : PySem.W.Frag} {fd : FuncData} {ps : List Str} {ds : List Value} {dvs : List V} (hb : Binds K fd ps ds) (hd : Vals dvs ds) (hp : ps ≠ []) : KBinds K fd ps [] (kdef ds) (kdef dvs) := by
  refine ⟨fun s us ws X hl => ?_, fun {vs us zs ws} r1 r2 => ?_⟩
  · cases ws with
    | nil => exact hb s us X hl
    | cons _ _ => exact absurd (List.length_eq_zero_iff.mp hl.symm) hp
  · cases r2 with
    | nil => exact r1.append hd
    | cons _ _ => exact .nil
theorem gd_def {K : PySem.W.Frag} {dvs : List V} {dds : List D} (hd : ∀ G, Dts K G dvs dds) : ∀ (G : Hp) (vs ws : List V) (xs ys : List D), Dts K G vs xs → Dts K G ws ys → Dts K G (kdef dvs vs ws) (kdef dds xs ys) := fun G vs ws xs ys h1 h2 => by
  cases h2 with
  | nil => exact h1.append (hd G)
  | cons _ _ => exact .nil
/-- a def with keyword-only parameters -/
structure FnX0 (P : Program) (w : World) (K : PySem.W.Frag) (mg : Str → Option Value) (base : Heap) (k : Nat) (x : Str) (f : Addr) (fd : FuncData) (ps : List Str) (R : RX) : Prop where
  fn : FnG P w K mg base (L2.CX P w) k f fd ps (SpX K ps.length R)
  hn : ∀ xs M F W, R xs M F W → xs.length = ps.length
  gm : mg x = some (.ref f)
  kp : PySem.W.keepIn K (.ref f) = true
structure FnH0 (P : Program) (w : World) (K : PySem.W.Frag) (mg : Str → Option Value) (base : Heap) (k : Nat) (x : Str) (f : Addr) (fd : FuncData) (ps : List Str) (R : RD) : Prop where
  fn : FnG P w K mg base CX0 k f fd ps (SpD K ps.length R)
  hn : ∀ xs M F, R xs M F → xs.length = ps.length
  gm : mg x = some (.ref f)
  kp : PySem.W.keepIn K (.ref f) = true
theorem FnX.to0 {P : Program} {w : World} {K : PySem.W.Frag} {mg : Str → Option Value} {base : Heap} {k : Nat} {x : Str} {f : Addr} {fd : FuncData} {ps : List Str} {R : RX} (h : FnX P w K mg base k x f fd ps R) : FnX0 P w K mg base k x f fd ps R := ⟨h.fn, h.hn, h.gm, h.kp⟩
theorem FnH.to0 {P : Program} {w : World} {K : PySem.W.Frag} {mg : Str → Option Value} {base : Heap} {k : Nat} {x : Str} {f : Addr} {fd : FuncData} {ps : List Str} {R : RD} (h : FnH P w K mg base k x f fd ps R) : FnH0 P w K mg base k x f fd ps R := ⟨h.fn, h.hn, h.gm, h.kp⟩
section
variable [Grd]
variable {X : Cx} {j k n : Nat} {f C : Addr} {fd : FuncData} {ps ks : List Str} {R : RX} {R' : RD} {x : Str} {p pos : Pos} {e : Expr} {es : List Expr} {kws : List Keyword} {U V' : TAd} {Wd : WXd} {W : WX} {K : PySem.W.Frag}
variable {g : List Value → List Value → List Value} {gV : List V → List V → List V} {gD : List D → List D → List D}
theorem dcallKX' (h : FnX0 X.prog X.w X.K X.mg X.base j x f fd ps R) (hb : KBinds X.K fd ps ks g gV) (hgd : ∀ G vs ws xs ys, Dts X.K G vs xs → Dts X.K G ws ys → Dts X.K G (gV vs ws) (gD xs ys)) (tk : TkD X Wd) (gd : X.A.guards = some []) (hr : Room k X.A) (ha : DA X (e :: es) U) (hkw : DQ X kws V') (hjk : j ≤ k := by decide) (hg : Gl X x := by rfl)
    (hall : (backToKw pos (keywordEach kws X.env)).all (·.1.isSome) = true := by rfl) (hks : (backToKw pos (keywordEach kws X.env)).filterMap (·.1) = ks := by rfl)
    (hdb : (x == ("__debug__" : Str)) = false := by decide) (he : starEach (e :: es) X.env = (false, eval e X.env) :: starEach es X.env := by rfl)
    (hpl : ((backTo pos (starEach (e :: es) X.env)).any (·.1) || (backToKw pos (keywordEach kws X.env)).any (·.1.isNone)) = false := by rfl) :
    DE X (.Call (.Name x p) (e :: es) kws pos) (callKX R gD Wd U V') := by
  obtain ⟨W, tW, lk⟩ := tk
  exact (pg_callKS h.fn gd (hr.mono hjk) hg h.gm h.kp hb (fun σ => passAt tW σ) ha hkw hall hks hdb he hpl).fimp fun _ _ _ q => emb_callKX h.hn hgd lk (fun _ _ _ z => z) q
theorem dcallKX0' (h : FnX0 X.prog X.w X.K X.mg X.base j x f fd ps R) (hb : KBinds X.K fd ps ks g gV) (hgd : ∀ G vs ws xs ys, Dts X.K G vs xs → Dts X.K G ws ys → Dts X.K G (gV vs ws) (gD xs ys)) (tk : TkD X Wd) (gd : X.A.guards = some []) (hr : Room k X.A) (hkw : DQ X kws V') (hjk : j ≤ k := by decide) (hg : Gl X x := by rfl)
    (hall : (backToKw pos (keywordEach kws X.env)).all (·.1.isSome) = true := by rfl) (hks : (backToKw pos (keywordEach kws X.env)).filterMap (·.1) = ks := by rfl)
    (hdb : (x == ("__debug__" : Str)) = false := by decide)
    (hpl : ((backTo pos (starEach [] X.env)).any (·.1) || (backToKw pos (keywordEach kws X.env)).any (·.1.isNone)) = false := by rfl) :
    DE X (.Call (.Name x p) [] kws pos) (callKX R gD Wd nilD V') := by
  obtain ⟨W, tW, lk⟩ := tk
  exact (pg_callKS0 h.fn gd (hr.mono hjk) hg h.gm h.kp hb (fun σ => passAt tW σ) hkw hall hks hdb hpl).fimp fun _ _ _ q => emb_callKX (t := tNil) h.hn hgd lk (fun _ H _ ⟨ds, M, F, ev, ok, h, a⟩ => a _ _ h _ _ ok .nil (Lat.refl M H)) q
theorem dcallK' (h : FnH0 X.prog X.w X.K X.mg X.base j x f fd ps R') (hb : KBinds X.K fd ps ks g gV) (hgd : ∀ G vs ws xs ys, Dts X.K G vs xs → Dts X.K G ws ys → Dts X.K G (gV vs ws) (gD xs ys)) (gd : X.A.guards = some []) (hr : Room k X.A) (ha : DA X (e :: es) U) (hkw : DQ X kws V') (hjk : j ≤ k := by decide) (hg : Gl X x := by rfl)
    (hall : (backToKw pos (keywordEach kws X.env)).all (·.1.isSome) = true := by rfl) (hks : (backToKw pos (keywordEach kws X.env)).filterMap (·.1) = ks := by rfl)
    (hdb : (x == ("__debug__" : Str)) = false := by decide) (he : starEach (e :: es) X.env = (false, eval e X.env) :: starEach es X.env := by rfl)
    (hpl : ((backTo pos (starEach (e :: es) X.env)).any (·.1) || (backToKw pos (keywordEach kws X.env)).any (·.1.isNone)) = false := by rfl) :
    DE X (.Call (.Name x p) (e :: es) kws pos) (callKD R' gD U V') := de_callK h.fn h.hn gd (hr.mono hjk) hg h.gm h.kp hb hgd ha hkw hall hks hdb he hpl
theorem dcallK0' (h : FnH0 X.prog X.w X.K X.mg X.base j x f fd ps R') (hb : KBinds X.K fd ps ks g gV) (hgd : ∀ G vs ws xs ys, Dts X.K G vs xs → Dts X.K G ws ys → Dts X.K G (gV vs ws) (gD xs ys)) (gd : X.A.guards = some []) (hr : Room k X.A) (hkw : DQ X kws V') (hjk : j ≤ k := by decide) (hg : Gl X x := by rfl)
    (hall : (backToKw pos (keywordEach kws X.env)).all (·.1.isSome) = true := by rfl) (hks : (backToKw pos (keywordEach kws X.env)).filterMap (·.1) = ks := by rfl) (hdb : (x == ("__debug__" : Str)) = false := by decide)
    (hpl : ((backTo pos (starEach [] X.env)).any (·.1) || (backToKw pos (keywordEach kws X.env)).any (·.1.isNone)) = false := by rfl) :
    DE X (.Call (.Name x p) [] kws pos) (callKD R' gD nilD V') := de_callK0 h.fn h.hn gd (hr.mono hjk) hg h.gm h.kp hb hgd hkw hall hks hdb hpl
end
end Fx

namespace Fx
open PySem PySem.Spec PyProof.Rows L2
def clsBody : Stmt → List Stmt
  | .ClassDef _ _ _ b _ _ _ _ _ _ _ => b
  | _ => []
/-- the n-th statement of a class -/
def memb (s : Stmt) (i : Nat) : Stmt := (clsBody s).getD i (.Pass ⟨0, 0, 0, 0⟩)
def posOf (s : Stmt) : Nat → Pos := fun i => match defBody s with
  | [.Expr (.Call (.Attribute (.Call (.Name _ q0) _ _ q1) _ q2) [.Constant _ _ q3] _ q4) q5, .Assign [.Attribute (.Name _ q6) _ q7] (.Name _ q8) q9] => [q0, q1, q2, q3, q4, q5, q6, q7, q8, q9].getD i ⟨0, 0, 0, 0⟩
  | _ => ⟨0, 0, 0, 0⟩
def knOf (s : Stmt) : Nat := match defBody s with
  | .Expr (.Call _ [.Constant _ k _] _ _) _ :: _ => k
  | _ => 0
def parOf (s : Stmt) (i : Nat) : Pos := (((defArgs s).args)[i]?.map (·.pos)).getD ⟨0, 0, 0, 0⟩
theorem errTxt_mk {P : Program} {K : PySem.W.Frag} {f msg qual : Str} {C G fI cc cda N : Addr} {nm q : Str} {bs sub : List Value} {sn : List Str} {ab : Bool} {col : Option Bool} {dd od an cld cdd : Option Addr} {k0 k1 k2 k3 k5 : Option Value} {oc kV doc pm ct cl ccl : Value} {osl csl ccs : Array (Option Value)} {vs : Array Value} {file : Str} {tf : Tok} {s : Stmt}
    (xL : K.lookup C = some (excClassObj nm q C N bs (gTail G) true sn sub ab col dd k0 k1 k2 k3 k5 "Exception.__new__")) (sa : PySem.W.findIn K (.ref C) "__setattr__" = some (some (.builtin "object.__setattr__"))) (nN : PySem.W.findIn K (.ref C) f = some none)
    (iC : PySem.W.findIn K (.ref C) "__init__" = some (some (.ref fI))) (tC : PySem.W.typeIn K (.ref fI) = some (.type "function")) (sup : PySem.W.alongIn K "__init__" (gTail G) = some (some (.builtin "Exception.__init__"))) (opq : PySem.W.nsIn K cStatics "thirdparty.any" = some none)
    (l1 : K.lookup fI = some ⟨oc, od, .func (PySem.W.ksFn "__init__" qual (defArgs s) (defBody s) (defScope s) .none kV doc pm an (.ref cda) ct cc), osl⟩) (c1 : PySem.W.codeIn K (.ref cda) qual = true)
    (cel : K.lookup cc = some ⟨cl, cld, .cell (some (.ref C)), csl⟩) (cod : K.lookup cda = some ⟨ccl, cdd, .fields vs, ccs⟩) (hv : vs[2]? = some (.str file tf)) (hfile : ((P.main.file : Str) == file) = true)
    (top : (P.main.scope.names.lookup ("super" : Str)).isSome = false) (ea : defArgs s = inA f (parOf s 0) (parOf s 1)) (eb : defBody s = inB msg f (posOf s) (knOf s))
    (sk : (defScope s).kind = .function ∧ (defScope s).isGenerator = false ∧ (defScope s).isCoroutine = false) (snc : ∀ x ∈ (defScope s).names, x.2 ≠ .cell) (s1 : (defScope s).names.lookup ("self" : Str) = some .local) (s2 : (defScope s).names.lookup f = some .local)
    (s3 : (defScope s).names.lookup ("super" : Str) = some .globalImplicit) (s4 : (defScope s).names.lookup ("__class__" : Str) = some .free)
    (hb : ∀ (kV doc pm : Value) (an : Option Addr) (ct : Value) (u v : Value), bindArgs (PySem.W.ksFn "__init__" qual (inA f (parOf s 0) (parOf s 1)) (inB msg f (posOf s) (knOf s)) (defScope s) .none kV doc pm an (.ref cda) ct cc) ⟨[u, v], []⟩ = (pure [(("self" : Str), u), (f, v)] : Sem (List (Str × Value)))) (he : supE msg (posOf s) (knOf s)) :
    ErrTxt P K f msg C G fI cc cda :=
  { cls := ⟨nm, q, N, bs, sn, sub, ab, col, dd, k0, k1, k2, k3, k5, xL⟩, sa := sa, noN := nN, iC := iC, tC := tC, sup := sup, opq := opq, cel := ⟨_, _, _, cel⟩, cod := ⟨_, _, _, _, _, _, cod, hv, hfile⟩, top := top,
    fn := ⟨oc, od, qual, defScope s, kV, doc, pm, an, ct, osl, parOf s 0, parOf s 1, posOf s, knOf s, by rw [← ea, ← eb]; exact l1, c1, sk.1, sk.2.1, sk.2.2, snc, s1, s2, s3, s4, fun u v => hb kV doc pm an ct u v, he⟩ }
theorem exm_of {K : PySem.W.Frag} {errs : List String} {cn : String} {c : Value} (h : ∀ n ∈ errs, ∃ C, clsA K n C ∧ PySem.W.exmOne K (.ref C) c = some (subN n cn)) : ExmH K errs cn c := fun n hn C cl => by
  obtain ⟨C', c1, e⟩ := h n hn
  rw [clsA_inj cl c1]
  exact e
theorem isx_of {K : PySem.W.Frag} {errs : List String} {g : String} {Cg : Addr} (cl : clsA K g Cg) (h : ∀ n ∈ errs, ∃ C, clsA K n C ∧ ExcC K C ∧ PySem.W.kitOne K (.ref C) (.ref Cg) = some (subN n g)) : IsxH K errs g Cg := ⟨cl, fun n hn C c1 => by
  obtain ⟨C', c2, e⟩ := h n hn
  rw [clsA_inj c1 c2]
  exact e⟩
end Fx

namespace Fx
open PySem PySem.Spec PyProof.Rows L2
instance (priority := low) grdTriv : Grd := Grd.triv
/-! what a value must be, to go on -/
def eBl (d : D) (K : Bool → Prop) : Prop := match d with
  | .bl b => K b
  | _ => False
def eInt (d : D) (K : Int → Prop) : Prop := match d with
  | .int b => K b
  | _ => False
def eStr (d : D) (K : Str → Prop) : Prop := match d with
  | .str b => K b
  | _ => False
def eN (d : D) (P Q : Prop) : Prop := match d with
  | .non => P
  | _ => Q
def eTru (d : D) (K : Bool → Prop) : Prop := match d with
  | .bl b => K b
  | .non => K false
  | .int i => K (i != 0)
  | .tup xs => K (!xs.isEmpty)
  | .lst xs => K (!xs.isEmpty)
  | _ => False
def eLst (d : D) (K : List D → Prop) : Prop := match d with
  | .lst b => K b
  | _ => False
def eSeq (d : D) (K : List D → Prop) : Prop := match d with
  | .lst xs => K xs
  | .slst xs => K xs
  | .tup xs => K xs
  | .str z => K (signs z)
  | _ => False
def eRev (d : D) (K : List D → Prop) : Prop := match d with
  | .lst xs => K xs
  | .slst xs => K xs
  | _ => False
def eI1 (xs : List D) (K : Int → Prop) : Prop := match xs with
  | [.int n] => K n
  | _ => False
def eI2 (xs : List D) (K : Int → Int → Prop) : Prop := match xs with
  | [.int a, .int b] => K a b
  | _ => False
def eL1 (xs : List D) (K : List D → Prop) : Prop := match xs with
  | [.lst xs] => K xs
  | [.slst xs] => K xs
  | _ => False
def eL2 (xs : List D) (K : List D → List D → Prop) : Prop := match xs with
  | [.lst xs, .lst ys] => K xs ys
  | _ => False
def eP2 (xs : List D) (K : D → D → Prop) : Prop := match xs with
  | [a, b] => K a b
  | _ => False
def eSl (o : Option (Option D)) (K : D → Prop) : Prop := match o with
  | some (some d) => K d
  | _ => False
def eO {α : Type} (o : Option α) (K : α → Prop) : Prop := match o with
  | some d => K d
  | none => False
def eML (o : Option MO) (K : List D → Prop) : Prop := match o with
  | some (.lst xs) => K xs
  | _ => False
def eMD (o : Option MO) (K : List (Key × D) → Prop) : Prop := match o with
  | some (.dic xs) => K xs
  | _ => False
def eC (z : Str) (K : Nat → Prop) : Prop := match z.cps.toList with
  | [c] => K c
  | _ => False
def ePut (d k : D) (M : Mp) (v : D) (N : Mp → Prop) : Prop := match d, k with
  | .ref a, .str z => match M a with
    | some (.dic kvs) => kvs.length < 1000000 ∧ N (updM M a (.dic (putD kvs (.inr z) v)))
    | _ => False
  | .ref a, .int i => match M a with
    | some (.lst xs) => match ixN xs.length i with
      | some j => N (updM M a (.lst (xs.set j v)))
      | none => False
    | _ => False
  | _, _ => False
def eFz (d : D) (M : Mp) (F : DK) : Prop := match d with
  | .ref p => match M p with
    | some (.lst xs) => F (.lst xs) (delM M p)
    | _ => False
  | d => F d M
def eZs (xs : List D) (M : Mp) (G : List D → Mp → Prop) : Prop := match xs with
  | [d1, d2] => match seqOf d1, seqOf d2 with
    | some (_, xs), some (_, ys) => xs.length = ys.length ∧ G (zipL xs ys) M
    | _, _ => False
  | _ => False
section
variable {T U W : TEd} {A B C : TTd} {S S2 : TSd} {V V2 : TAd} {I : TId} {O O2 : TOd} {ds : Ds} {M : Mp} {F : DK} {G : Bool → Mp → Prop} {GA : List D → Mp → Prop} {GO : Option Int → Mp → Prop} {E : Endd} {i j : Int} {x y z : Str} {xs ys : List D} {d k v : D} {b : Bool} {a : Addr} {n : Nat} {t : Tg} {R : RD} {r r2 : R2d} {rb : RB} {rm : RM} {ty : D → Mp → Prop} {c : Ty6} {kvs : List (Key × D)} {P Q : Prop}
  {KB : Bool → Prop} {KI : Int → Prop} {KS : Str → Prop} {KL : List D → Prop} {KD : D → Prop} {KN : Nat → Prop} {KK : List (Key × D) → Prop} {NM : Mp → Prop} {K2 : D → D → Prop} {KL2 : List D → List D → Prop} {KI2 : Int → Int → Prop} {KDs : Ds → Prop} {ts : List Tg}
theorem q_v : vD n ds M F = eSl ds[n]? fun d => F d M := rfl
theorem q_c : cD d ds M F = F d M := rfl
theorem q_tup : tupD V ds M F = V ds M fun xs M1 => xs.length ≤ 1000000 ∧ F (.tup xs) M1 := rfl
theorem q_lst : lstD V ds M F = V ds M fun xs M1 => xs.length ≤ 1000000 ∧ F (.lst xs) M1 := rfl
theorem q_op : opD r T U ds M F = T ds M fun a M1 => U ds M1 fun b M2 => r a b M2 F := rfl
theorem q_nil : nilD ds M GA = GA [] M := rfl
theorem q_cons : consD T V ds M GA = T ds M fun d M1 => V ds M1 fun xs M2 => GA (d :: xs) M2 := rfl
theorem q_tst : tstD T ds M G = T ds M fun d M1 => eBl d fun b => G b M1 := rfl
theorem q_tru : truD T ds M G = T ds M fun d M1 => eTru d fun b => G b M1 := rfl
theorem q_andT : andT A B ds M G = A ds M fun b M1 => br b (B ds M1 G) (G false M1) := rfl
theorem q_orT : orT A B ds M G = A ds M fun b M1 => br b (G true M1) (B ds M1 G) := rfl
theorem q_notT : notT A ds M G = A ds M fun b M1 => G (!b) M1 := rfl
theorem q_andV : andV T U ds M F = T ds M fun d M1 => eBl d fun b => br b (U ds M1 F) (F (.bl false) M1) := rfl
theorem q_orV : orV T U ds M F = T ds M fun d M1 => eBl d fun b => br b (F (.bl true) M1) (U ds M1 F) := rfl
theorem q_notV : notV T ds M F = T ds M fun d M1 => eBl d fun b => F (.bl (!b)) M1 := rfl
theorem q_ifE : ifE C T U ds M F = C ds M fun b M1 => br b (T ds M1 F) (U ds M1 F) := rfl
theorem q_next : nextD E ds M = E.nx ds M := rfl
theorem q_seq : seqD S S2 E ds M = S { E with nx := S2 E } ds M := rfl
theorem q_asg : asgD T t E ds M = T ds M fun d M1 => gD t d ds fun ds1 => E.nx ds1 M1 := rfl
theorem q_drop : dropD T E ds M = T ds M fun _ M1 => E.nx ds M1 := rfl
theorem q_ret : retD T E ds M = T ds M E.rt := rfl
theorem q_retN : retN E ds M = E.rt .non M := rfl
theorem q_ifS : ifS C S S2 E ds M = C ds M fun b M1 => br b (S E ds M1) (S2 E ds M1) := rfl
theorem q_par {n2 : Nat} : parD n n2 V E ds M = V ds M fun xs M1 => eP2 xs fun a b => E.nx ((ds.set n (some a)).set n2 (some b)) M1 := rfl
theorem q_isi : isiD c T ds M F = T ds M fun d M1 => eO (isT c d) fun b => F (.bl b) M1 := by
  unfold isiD
  congr
  funext d M1
  unfold eO
  generalize isT c d = q
  cases q <;> rfl
theorem q_blt : bltD rb V ds M F = V ds M fun xs M1 => rb xs M1 F := rfl
theorem q_call : callD R V ds M F = V ds M fun xs M1 => R xs M1 F := rfl
theorem q_callK {g : List D → List D → List D} : callKD R g V V2 ds M F = V ds M fun xs M1 => V2 ds M1 fun ys M2 => R (g xs ys) M2 F := rfl
theorem q_kid : kid [] xs = xs := rfl
theorem q_kswap : kswap [] [d, k] = [k, d] := rfl
theorem q_chain : chainD r r2 T U W ds M F = T ds M fun a M1 => U ds M1 fun b M2 => r a b M2 fun z M3 => eBl z fun k => br k (W ds M3 fun c M4 => r2 b c M4 F) (F (.bl false) M3) := rfl
theorem q_neg : negD T ds M F = T ds M fun d M1 => eInt d fun i => F (.int (-i)) M1 := rfl
theorem q_isN : isND T ds M F = T ds M fun d M1 => eN d (F (.bl true) M1) (F (.bl false) M1) := rfl
theorem q_notN : notND T ds M F = T ds M fun d M1 => eN d (F (.bl false) M1) (F (.bl true) M1) := rfl
theorem q_noO : noO ds M GO = GO none M := rfl
theorem q_someO : someO T ds M GO = T ds M fun d M1 => eInt d fun i => GO (some i) M1 := rfl
theorem q_sli : sliD T O O2 ds M F = T ds M fun d M1 => O ds M1 fun lo M2 => O2 ds M2 fun hi M3 => slR d lo hi M3 F := rfl
theorem q_rev : revD T ds M F = T ds M fun d M1 => eRev d fun xs => F (.lst xs.reverse) M1 := by
  first | rfl | (unfold revD; congr; funext d M1; cases d <;> rfl)
theorem q_revM : revM T ds M F = T ds M fun d M1 => eLst d fun xs => ∀ p, M1 p = none → F (.ref p) (updM M1 p (.lst xs.reverse)) := rfl
theorem q_bm : bmD ty rm T V ds M F = T ds M fun d M1 => ty d M1 ∧ V ds M1 fun xs M2 => rm d xs M2 F := rfl
theorem q_bm0 : bm0D ty rm T ds M F = T ds M fun d M1 => ty d M1 ∧ rm d [] M1 F := rfl
theorem q_m1 : m1D rm T U ds M F = T ds M fun d M1 => eStr d fun z => U ds M1 fun x M2 => rm (.str z) [x] M2 F := rfl
theorem q_seqI : seqI T ds M GA = T ds M fun d M1 => eSeq d fun xs => GA xs M1 := by
  first | rfl | (unfold seqI; congr; funext d M1; cases d <;> rfl)
theorem q_rng : rngI V ds M GA = V ds M fun xs M1 => eI1 xs fun n => (-1000000 ≤ n ∧ n ≤ 1000000) ∧ GA ((List.range n.toNat).map fun i => D.int (i : Nat)) M1 := rfl
theorem q_rng2 : rng2I V ds M GA = V ds M fun xs M1 => eI2 xs fun a b => (-1000000 ≤ a ∧ a ≤ 1000000 ∧ -1000000 ≤ b ∧ b ≤ 1000000) ∧ GA ((List.range (b - a).toNat).map fun i => D.int (a + (i : Nat))) M1 := rfl
theorem q_enum : enumI V ds M GA = V ds M fun xs M1 => eL1 xs fun xs => GA (enumL 0 xs) M1 := by
  first | rfl | (unfold enumI; congr; funext d M1; unfold eL1; split <;> rfl)
theorem q_zip : zipI V ds M GA = V ds M fun xs M1 => eL2 xs fun xs ys => GA (zipL xs ys) M1 := rfl
theorem q_gnm : gD (.nm n) d ds KDs = KDs (ds.set n (some d)) := by rw [gD]
theorem q_gtp : gD (.tp ts) (.tup xs) ds KDs = gsD ts xs ds KDs := by rw [gD]
theorem q_gs0 : gsD [] [] ds KDs = KDs ds := by rw [gsD]
theorem q_gs1 : gsD (t :: ts) (d :: xs) ds KDs = gD t d ds fun ds1 => gsD ts xs ds1 KDs := by rw [gsD]
theorem q_yes : yesD ds M G = G true M := rfl
theorem q_put : putS T U W E ds M = W ds M fun v M1 => T ds M1 fun d M2 => U ds M2 fun k M3 => ePut d k M3 v fun M4 => E.nx ds M4 := by
  first | rfl | (unfold putS; congr; funext v M1; congr; funext d M2; congr; funext k M3; cases d <;> cases k <;> rfl)
theorem e_bl : eBl (.bl b) KB = KB b := rfl
theorem e_int : eInt (.int i) KI = KI i := rfl
theorem e_str : eStr (.str x) KS = KS x := rfl
theorem e_lst : eLst (.lst xs) KL = KL xs := rfl
theorem e_n_non : eN .non P Q = P := rfl
theorem e_n_bl : eN (.bl b) P Q = Q := rfl
theorem e_n_int : eN (.int i) P Q = Q := rfl
theorem e_n_str : eN (.str x) P Q = Q := rfl
theorem e_n_tup : eN (.tup xs) P Q = Q := rfl
theorem e_n_lst : eN (.lst xs) P Q = Q := rfl
theorem e_n_slst : eN (.slst xs) P Q = Q := rfl
theorem e_n_dic : eN (.dic kvs) P Q = Q := rfl
theorem e_n_ref : eN (.ref a) P Q = Q := rfl
theorem e_seq_l : eSeq (.lst xs) KL = KL xs := rfl
theorem e_seq_s : eSeq (.slst xs) KL = KL xs := rfl
theorem e_seq_t : eSeq (.tup xs) KL = KL xs := rfl
theorem e_seq_z : eSeq (.str x) KL = KL (signs x) := rfl
theorem e_rev_l : eRev (.lst xs) KL = KL xs := rfl
theorem e_rev_s : eRev (.slst xs) KL = KL xs := rfl
theorem e_i1 : eI1 [.int i] KI = KI i := rfl
theorem e_i2 : eI2 [.int i, .int j] KI2 = KI2 i j := rfl
theorem e_l1 : eL1 [.lst xs] KL = KL xs := rfl
theorem e_l1s : eL1 [.slst xs] KL = KL xs := rfl
theorem e_l2 : eL2 [.lst xs, .lst ys] KL2 = KL2 xs ys := rfl
theorem e_p2 : eP2 [d, k] K2 = K2 d k := rfl
theorem e_sl : eSl (some (some d)) KD = KD d := rfl
theorem e_o : eO (some d) KD = KD d := rfl
theorem e_ob : eO (some b) KB = KB b := rfl
theorem e_on : eO (some n) KN = KN n := rfl
theorem e_ml : eML (some (.lst xs)) KL = KL xs := rfl
theorem e_md : eMD (some (.dic kvs)) KK = KK kvs := rfl
theorem e_c : eC ⟨#[n]⟩ KN = KN n := rfl
theorem e_tru_b : eTru (.bl b) KB = KB b := rfl
theorem e_tru_n : eTru .non KB = KB false := rfl
theorem e_tru_i : eTru (.int i) KB = KB (i != 0) := rfl
theorem e_tru_t : eTru (.tup xs) KB = KB (!xs.isEmpty) := rfl
theorem e_tru_l : eTru (.lst xs) KB = KB (!xs.isEmpty) := rfl
theorem t_str_non : isT .str .non = some false := rfl
theorem t_tup_non : isT .tup .non = some false := rfl
theorem t_int_non : isT .int .non = some false := rfl
theorem t_bool_non : isT .bool .non = some false := rfl
theorem t_lst_non : isT .lst .non = some false := rfl
theorem t_dict_non : isT .dict .non = some false := rfl
theorem t_str_bl : isT .str (.bl b) = some false := rfl
theorem t_tup_bl : isT .tup (.bl b) = some false := rfl
theorem t_int_bl : isT .int (.bl b) = some true := rfl
theorem t_bool_bl : isT .bool (.bl b) = some true := rfl
theorem t_lst_bl : isT .lst (.bl b) = some false := rfl
theorem t_dict_bl : isT .dict (.bl b) = some false := rfl
theorem t_str_int : isT .str (.int i) = some false := rfl
theorem t_tup_int : isT .tup (.int i) = some false := rfl
theorem t_int_int : isT .int (.int i) = some true := rfl
theorem t_bool_int : isT .bool (.int i) = some false := rfl
theorem t_lst_int : isT .lst (.int i) = some false := rfl
theorem t_dict_int : isT .dict (.int i) = some false := rfl
theorem t_str_str : isT .str (.str x) = some true := rfl
theorem t_tup_str : isT .tup (.str x) = some false := rfl
theorem t_int_str : isT .int (.str x) = some false := rfl
theorem t_bool_str : isT .bool (.str x) = some false := rfl
theorem t_lst_str : isT .lst (.str x) = some false := rfl
theorem t_dict_str : isT .dict (.str x) = some false := rfl
theorem t_str_tup : isT .str (.tup xs) = some false := rfl
theorem t_tup_tup : isT .tup (.tup xs) = some true := rfl
theorem t_int_tup : isT .int (.tup xs) = some false := rfl
theorem t_bool_tup : isT .bool (.tup xs) = some false := rfl
theorem t_lst_tup : isT .lst (.tup xs) = some false := rfl
theorem t_dict_tup : isT .dict (.tup xs) = some false := rfl
theorem t_str_lst : isT .str (.lst xs) = some false := rfl
theorem t_tup_lst : isT .tup (.lst xs) = some false := rfl
theorem t_int_lst : isT .int (.lst xs) = some false := rfl
theorem t_bool_lst : isT .bool (.lst xs) = some false := rfl
theorem t_lst_lst : isT .lst (.lst xs) = some true := rfl
theorem t_dict_lst : isT .dict (.lst xs) = some false := rfl
theorem t_str_dic : isT .str (.dic kvs) = some false := rfl
theorem t_tup_dic : isT .tup (.dic kvs) = some false := rfl
theorem t_int_dic : isT .int (.dic kvs) = some false := rfl
theorem t_bool_dic : isT .bool (.dic kvs) = some false := rfl
theorem t_lst_dic : isT .lst (.dic kvs) = some false := rfl
theorem t_dict_dic : isT .dict (.dic kvs) = some true := rfl
theorem r_add_i : addR (.int i) (.int j) M F = F (.int (i + j)) M := rfl
theorem r_add_s : addR (.str x) (.str y) M F = (x.length + y.length ≤ 1000000 ∧ F (.str (x ++ y)) M) := rfl
theorem r_add_t : addR (.tup xs) (.tup ys) M F = (xs.length + ys.length ≤ 1000000 ∧ F (.tup (xs ++ ys)) M) := rfl
theorem r_add_l : addR (.lst xs) (.lst ys) M F = (xs.length + ys.length ≤ 1000000 ∧ F (.lst (xs ++ ys)) M) := rfl
theorem r_sub : subR (.int i) (.int j) M F = F (.int (i - j)) M := rfl
theorem r_mul : mulR (.int i) (.int j) M F = (((-(2 ^ 64) < i ∧ i < 2 ^ 64) ∨ (-(2 ^ 64) < j ∧ j < 2 ^ 64)) ∧ F (.int (i * j)) M) := rfl
theorem r_mul_l : mulR (.lst xs) (.int i) M F = (0 ≤ i ∧ i ≤ 1000000 ∧ xs.length * i.toNat ≤ 1000000 ∧ F (.lst (List.replicate i.toNat xs).flatten) M) := rfl
theorem r_fdiv : fdivR (.int i) (.int j) M F = ((0 < j ∧ j < 1073741824) ∧ F (.int (i / j)) M) := rfl
theorem r_mod : modR (.int i) (.int j) M F = (0 < j ∧ F (.int (i % j)) M) := rfl
theorem r_pow : powR (.int i) (.int j) M F = ((0 ≤ j ∧ j ≤ 1000000 ∧ i.natAbs < 2 ^ 64) ∧ F (.int (i ^ j.toNat)) M) := rfl
theorem r_lt {p : Int → Int → Bool} : ltR p (.int i) (.int j) M F = F (.bl (p i j)) M := rfl
theorem r_ix_l : ixR (.lst xs) (.int i) M F = eO (atI xs i) fun d => F d M := by
  unfold ixR atD eO
  dsimp only
  generalize atI xs i = q
  cases q <;> rfl
theorem r_ix_t : ixR (.tup xs) (.int i) M F = eO (atI xs i) fun d => F d M := by
  unfold ixR atD eO
  dsimp only
  generalize atI xs i = q
  cases q <;> rfl
theorem r_ix_s : ixR (.str x) (.int i) M F = (x.length ≤ 1000000 ∧ eO (atI x.cps.toList i) fun c => F (.str ⟨#[c]⟩) M) := by
  unfold ixR eO
  dsimp only
  generalize atI x.cps.toList i = q
  cases q <;> rfl
theorem r_ix_rl : ixR (.ref a) (.int i) M F = eML (M a) fun xs => eO (atI xs i) fun d => F d M := by
  first
    | rfl
    | (unfold ixR
       try unfold eML
       try unfold eMD
       dsimp only
       generalize M a = o
       cases o with
       | none => rfl
       | some m =>
         cases m with
         | lst xs => first | rfl | (unfold eO; dsimp only; first | (generalize atI xs i = q; cases q <;> rfl) | (generalize xs.getLast? = q; cases q <;> rfl) | (generalize ixN xs.length i = q; cases q <;> rfl)) | (unfold atD eO; dsimp only; generalize atI xs i = q; cases q <;> rfl)
         | dic kvs => first | rfl | (unfold eO keyD; dsimp only; generalize valD kvs (Sum.inr x) = q; cases q <;> rfl)
         | dtp _ _ => rfl
         | ins _ _ _ => rfl)
theorem r_ix_rd : ixR (.ref a) (.str x) M F = eMD (M a) fun kvs => eO (valD kvs (.inr x)) fun d => F d M := by
  first
    | rfl
    | (unfold ixR
       try unfold eML
       try unfold eMD
       dsimp only
       generalize M a = o
       cases o with
       | none => rfl
       | some m =>
         cases m with
         | lst xs => first | rfl | (unfold eO; dsimp only; first | (generalize atI xs i = q; cases q <;> rfl) | (generalize xs.getLast? = q; cases q <;> rfl) | (generalize ixN xs.length i = q; cases q <;> rfl)) | (unfold atD eO; dsimp only; generalize atI xs i = q; cases q <;> rfl)
         | dic kvs => first | rfl | (unfold eO keyD; dsimp only; generalize valD kvs (Sum.inr x) = q; cases q <;> rfl)
         | dtp _ _ => rfl
         | ins _ _ _ => rfl)
theorem r_sl_l {lo hi : Option Int} : slR (.lst xs) lo hi M F = F (.lst (cutL xs lo hi)) M := rfl
theorem r_sl_sl {lo hi : Option Int} : slR (.slst xs) lo hi M F = F (.lst (cutL xs lo hi)) M := rfl
theorem r_sl_t {lo hi : Option Int} : slR (.tup xs) lo hi M F = F (.tup (cutL xs lo hi)) M := rfl
theorem r_sl_s {lo hi : Option Int} : slR (.str x) lo hi M F = (x.length ≤ 1000000 ∧ F (.str (cutS x lo hi)) M) := rfl
theorem r_len_l : lenR [.lst xs] M F = F (.int xs.length) M := rfl
theorem r_len_sl : lenR [.slst xs] M F = F (.int xs.length) M := rfl
theorem r_len_t : lenR [.tup xs] M F = F (.int xs.length) M := rfl
theorem r_len_s : lenR [.str x] M F = (x.length ≤ 1000000 ∧ F (.int x.length) M) := rfl
theorem r_len_r : lenR [.ref a] M F = eML (M a) fun xs => F (.int xs.length) M := by
  first
    | rfl
    | (unfold lenR
       try unfold eML
       try unfold eMD
       dsimp only
       generalize M a = o
       cases o with
       | none => rfl
       | some m =>
         cases m with
         | lst xs => first | rfl | (unfold eO; dsimp only; first | (generalize atI xs i = q; cases q <;> rfl) | (generalize xs.getLast? = q; cases q <;> rfl) | (generalize ixN xs.length i = q; cases q <;> rfl)) | (unfold atD eO; dsimp only; generalize atI xs i = q; cases q <;> rfl)
         | dic kvs => first | rfl | (unfold eO keyD; dsimp only; generalize valD kvs (Sum.inr x) = q; cases q <;> rfl)
         | dtp _ _ => rfl
         | ins _ _ _ => rfl)
theorem r_all : allR [.lst xs] M F = (xs.all isBl = true ∧ F (.bl (xs.all getBl)) M) := rfl
theorem r_any : anyR [.lst xs] M F = (xs.all isBl = true ∧ F (.bl (xs.any getBl)) M) := rfl
theorem r_tuple_l : tupleR [.lst xs] M F = F (.tup xs) M := rfl
theorem r_tuple_sl : tupleR [.slst xs] M F = F (.tup xs) M := rfl
theorem r_tuple_t : tupleR [.tup xs] M F = F (.tup xs) M := rfl
theorem r_tuple_r : tupleR [.ref a] M F = eML (M a) fun xs => F (.tup xs) M := by
  first
    | rfl
    | (unfold tupleR
       try unfold eML
       try unfold eMD
       dsimp only
       generalize M a = o
       cases o with
       | none => rfl
       | some m =>
         cases m with
         | lst xs => first | rfl | (unfold eO; dsimp only; first | (generalize atI xs i = q; cases q <;> rfl) | (generalize xs.getLast? = q; cases q <;> rfl) | (generalize ixN xs.length i = q; cases q <;> rfl)) | (unfold atD eO; dsimp only; generalize atI xs i = q; cases q <;> rfl)
         | dic kvs => first | rfl | (unfold eO keyD; dsimp only; generalize valD kvs (Sum.inr x) = q; cases q <;> rfl)
         | dtp _ _ => rfl
         | ins _ _ _ => rfl)
theorem r_list_l : listR [.lst xs] M F = F (.lst xs) M := rfl
theorem r_list_sl : listR [.slst xs] M F = F (.lst xs) M := rfl
theorem r_list_t : listR [.tup xs] M F = F (.lst xs) M := rfl
theorem r_list_r : listR [.ref a] M F = eML (M a) fun xs => F (.lst xs) M := by
  first
    | rfl
    | (unfold listR
       try unfold eML
       try unfold eMD
       dsimp only
       generalize M a = o
       cases o with
       | none => rfl
       | some m =>
         cases m with
         | lst xs => first | rfl | (unfold eO; dsimp only; first | (generalize atI xs i = q; cases q <;> rfl) | (generalize xs.getLast? = q; cases q <;> rfl) | (generalize ixN xs.length i = q; cases q <;> rfl)) | (unfold atD eO; dsimp only; generalize atI xs i = q; cases q <;> rfl)
         | dic kvs => first | rfl | (unfold eO keyD; dsimp only; generalize valD kvs (Sum.inr x) = q; cases q <;> rfl)
         | dtp _ _ => rfl
         | ins _ _ _ => rfl)
theorem r_ord : ordR [.str x] M F = eC x fun c => F (.int (c : Nat)) M := rfl
theorem r_repr : reprR [d] M F = ((shOk d = true ∧ cst d ≤ 1000000 ∧ dep d ≤ 100) ∧ F (.str (shw d)) M) := rfl
theorem r_pop : popR (.ref a) [] M F = eML (M a) fun xs => eO xs.getLast? fun y => F y (updM M a (.lst xs.dropLast)) := by
  first
    | rfl
    | (unfold popR
       try unfold eML
       try unfold eMD
       dsimp only
       generalize M a = o
       cases o with
       | none => rfl
       | some m =>
         cases m with
         | lst xs => first | rfl | (unfold eO; dsimp only; first | (generalize atI xs i = q; cases q <;> rfl) | (generalize xs.getLast? = q; cases q <;> rfl) | (generalize ixN xs.length i = q; cases q <;> rfl)) | (unfold atD eO; dsimp only; generalize atI xs i = q; cases q <;> rfl)
         | dic kvs => first | rfl | (unfold eO keyD; dsimp only; generalize valD kvs (Sum.inr x) = q; cases q <;> rfl)
         | dtp _ _ => rfl
         | ins _ _ _ => rfl)
theorem r_app : appR (.ref a) [d] M F = eML (M a) fun xs => xs.length < 1000000 ∧ F .non (updM M a (.lst (xs ++ [d]))) := by
  first
    | rfl
    | (unfold appR
       try unfold eML
       try unfold eMD
       dsimp only
       generalize M a = o
       cases o with
       | none => rfl
       | some m =>
         cases m with
         | lst xs => first | rfl | (unfold eO; dsimp only; first | (generalize atI xs i = q; cases q <;> rfl) | (generalize xs.getLast? = q; cases q <;> rfl) | (generalize ixN xs.length i = q; cases q <;> rfl)) | (unfold atD eO; dsimp only; generalize atI xs i = q; cases q <;> rfl)
         | dic kvs => first | rfl | (unfold eO keyD; dsimp only; generalize valD kvs (Sum.inr x) = q; cases q <;> rfl)
         | dtp _ _ => rfl
         | ins _ _ _ => rfl)
theorem r_ext : extR (.ref a) [.lst ys] M F = eML (M a) fun xs => xs.length + ys.length ≤ 1000000 ∧ F .non (updM M a (.lst (xs ++ ys))) := by
  first
    | rfl
    | (unfold extR
       try unfold eML
       try unfold eMD
       dsimp only
       generalize M a = o
       cases o with
       | none => rfl
       | some m =>
         cases m with
         | lst xs => first | rfl | (unfold eO; dsimp only; first | (generalize atI xs i = q; cases q <;> rfl) | (generalize xs.getLast? = q; cases q <;> rfl) | (generalize ixN xs.length i = q; cases q <;> rfl)) | (unfold atD eO; dsimp only; generalize atI xs i = q; cases q <;> rfl)
         | dic kvs => first | rfl | (unfold eO keyD; dsimp only; generalize valD kvs (Sum.inr x) = q; cases q <;> rfl)
         | dtp _ _ => rfl
         | ins _ _ _ => rfl)
theorem r_join : joinR (.str x) [.lst xs] M F = (xs.all isSt = true ∧ ((xs.map fun d => (getSt d).length).sum + xs.length * x.length ≤ 1000000) ∧ F (.str (Txt.join x (xs.map getSt))) M) := rfl
theorem r_join_t : joinR (.str x) [.tup xs] M F = (xs.all isSt = true ∧ ((xs.map fun d => (getSt d).length).sum + xs.length * x.length ≤ 1000000) ∧ F (.str (Txt.join x (xs.map getSt))) M) := rfl
theorem r_isl_r : isLst (.ref a) M = eML (M a) fun _ => True := by
  first
    | rfl
    | (unfold isLst
       try unfold eML
       try unfold eMD
       dsimp only
       generalize M a = o
       cases o with
       | none => rfl
       | some m =>
         cases m with
         | lst xs => first | rfl | (unfold eO; dsimp only; first | (generalize atI xs i = q; cases q <;> rfl) | (generalize xs.getLast? = q; cases q <;> rfl) | (generalize ixN xs.length i = q; cases q <;> rfl)) | (unfold atD eO; dsimp only; generalize atI xs i = q; cases q <;> rfl)
         | dic kvs => first | rfl | (unfold eO keyD; dsimp only; generalize valD kvs (Sum.inr x) = q; cases q <;> rfl)
         | dtp _ _ => rfl
         | ins _ _ _ => rfl)
theorem r_isl_l : isLst (.lst xs) M = True := rfl
theorem r_in : inR b (.str x) (.str y) M F = eC x fun c => F (.bl (if b then !decide (c ∈ y.cps.toList) else decide (c ∈ y.cps.toList))) M := rfl
theorem r_put_d : ePut (.ref a) (.str x) M v NM = eMD (M a) fun kvs => kvs.length < 1000000 ∧ NM (updM M a (.dic (putD kvs (.inr x) v))) := by
  first
    | rfl
    | (unfold ePut
       try unfold eML
       try unfold eMD
       dsimp only
       generalize M a = o
       cases o with
       | none => rfl
       | some m =>
         cases m with
         | lst xs => first | rfl | (unfold eO; dsimp only; first | (generalize atI xs i = q; cases q <;> rfl) | (generalize xs.getLast? = q; cases q <;> rfl) | (generalize ixN xs.length i = q; cases q <;> rfl)) | (unfold atD eO; dsimp only; generalize atI xs i = q; cases q <;> rfl)
         | dic kvs => first | rfl | (unfold eO keyD; dsimp only; generalize valD kvs (Sum.inr x) = q; cases q <;> rfl)
         | dtp _ _ => rfl
         | ins _ _ _ => rfl)
theorem r_put_l : ePut (.ref a) (.int i) M v NM = eML (M a) fun xs => eO (ixN xs.length i) fun j => NM (updM M a (.lst (xs.set j v))) := by
  first
    | rfl
    | (unfold ePut
       try unfold eML
       try unfold eMD
       dsimp only
       generalize M a = o
       cases o with
       | none => rfl
       | some m =>
         cases m with
         | lst xs => first | rfl | (unfold eO; dsimp only; first | (generalize atI xs i = q; cases q <;> rfl) | (generalize xs.getLast? = q; cases q <;> rfl) | (generalize ixN xs.length i = q; cases q <;> rfl)) | (unfold atD eO; dsimp only; generalize atI xs i = q; cases q <;> rfl)
         | dic kvs => first | rfl | (unfold eO keyD; dsimp only; generalize valD kvs (Sum.inr x) = q; cases q <;> rfl)
         | dtp _ _ => rfl
         | ins _ _ _ => rfl)
theorem r_eq_i : eqR (.int i) (.int j) M F = F (.bl (decide (i = j))) M := rfl
theorem r_eq_s : eqR (.str x) (.str y) M F = F (.bl (decide (x = y))) M := rfl
theorem r_ne_i : neR (.int i) (.int j) M F = F (.bl (!decide (i = j))) M := rfl
theorem r_ne_s : neR (.str x) (.str y) M F = F (.bl (!decide (x = y))) M := rfl
theorem r_eq_t0 : eqR (.tup xs) (.tup []) M F = F (.bl xs.isEmpty) M := rfl
theorem r_ne_t0 : neR (.tup xs) (.tup []) M F = F (.bl (!xs.isEmpty)) M := rfl
theorem r_eq_r0 : eqR (.ref a) (.lst []) M F = eML (M a) fun xs => F (.bl xs.isEmpty) M := by
  first
    | rfl
    | (unfold eqR
       try unfold eML
       try unfold eMD
       dsimp only
       generalize M a = o
       cases o with
       | none => rfl
       | some m =>
         cases m with
         | lst xs => first | rfl | (unfold eO; dsimp only; first | (generalize atI xs i = q; cases q <;> rfl) | (generalize xs.getLast? = q; cases q <;> rfl) | (generalize ixN xs.length i = q; cases q <;> rfl)) | (unfold atD eO; dsimp only; generalize atI xs i = q; cases q <;> rfl)
         | dic kvs => first | rfl | (unfold eO keyD; dsimp only; generalize valD kvs (Sum.inr x) = q; cases q <;> rfl)
         | dtp _ _ => rfl
         | ins _ _ _ => rfl)
theorem r_ne_r0 : neR (.ref a) (.lst []) M F = eML (M a) fun xs => F (.bl (!xs.isEmpty)) M := by
  first
    | rfl
    | (unfold neR
       try unfold eML
       try unfold eMD
       dsimp only
       generalize M a = o
       cases o with
       | none => rfl
       | some m =>
         cases m with
         | lst xs => first | rfl | (unfold eO; dsimp only; first | (generalize atI xs i = q; cases q <;> rfl) | (generalize xs.getLast? = q; cases q <;> rfl) | (generalize ixN xs.length i = q; cases q <;> rfl)) | (unfold atD eO; dsimp only; generalize atI xs i = q; cases q <;> rfl)
         | dic kvs => first | rfl | (unfold eO keyD; dsimp only; generalize valD kvs (Sum.inr x) = q; cases q <;> rfl)
         | dtp _ _ => rfl
         | ins _ _ _ => rfl)
theorem r_eq_l0 : eqR (.lst xs) (.lst []) M F = F (.bl xs.isEmpty) M := rfl
theorem r_ne_l0 : neR (.lst xs) (.lst []) M F = F (.bl (!xs.isEmpty)) M := rfl
theorem q_lstM : lstM V ds M F = V ds M fun xs M1 => xs.length ≤ 1000000 ∧ ∀ p, M1 p = none → F (.ref p) (updM M1 p (.lst xs)) := rfl
theorem q_frz : frzD T ds M F = T ds M fun d M1 => eFz d M1 F := by
  first | rfl | (unfold frzD eFz; congr; funext d M1; cases d <;> rfl)
theorem e_fz_r : eFz (.ref a) M F = eML (M a) fun xs => F (.lst xs) (delM M a) := by
  first
    | rfl
    | (unfold eFz
       try unfold eML
       try unfold eMD
       dsimp only
       generalize M a = o
       cases o with
       | none => rfl
       | some m =>
         cases m with
         | lst xs => first | rfl | (unfold eO; dsimp only; first | (generalize atI xs i = q; cases q <;> rfl) | (generalize xs.getLast? = q; cases q <;> rfl) | (generalize ixN xs.length i = q; cases q <;> rfl)) | (unfold atD eO; dsimp only; generalize atI xs i = q; cases q <;> rfl)
         | dic kvs => first | rfl | (unfold eO keyD; dsimp only; generalize valD kvs (Sum.inr x) = q; cases q <;> rfl)
         | dtp _ _ => rfl
         | ins _ _ _ => rfl)
theorem e_fz_non : eFz .non M F = F .non M := rfl
theorem e_fz_bl : eFz (.bl b) M F = F (.bl b) M := rfl
theorem e_fz_int : eFz (.int i) M F = F (.int i) M := rfl
theorem e_fz_str : eFz (.str x) M F = F (.str x) M := rfl
theorem e_fz_tup : eFz (.tup xs) M F = F (.tup xs) M := rfl
theorem e_fz_lst : eFz (.lst xs) M F = F (.lst xs) M := rfl
theorem e_fz_dic : eFz (.dic kvs) M F = F (.dic kvs) M := rfl
theorem q_drp : drpD T ds M F = T ds M fun d M1 => ∃ p, F d (delM M1 p) := rfl
theorem q_zs : zipSI V ds M GA = V ds M fun xs M1 => eZs xs M1 GA := by
  first | rfl | (unfold zipSI eZs; congr)
theorem e_zs_tup_tup : eZs [.tup xs, .tup ys] M GA = (xs.length = ys.length ∧ GA (zipL xs ys) M) := rfl
theorem e_zs_tup_lst : eZs [.tup xs, .lst ys] M GA = (xs.length = ys.length ∧ GA (zipL xs ys) M) := rfl
theorem e_zs_tup_slst : eZs [.tup xs, .slst ys] M GA = (xs.length = ys.length ∧ GA (zipL xs ys) M) := rfl
theorem e_zs_lst_tup : eZs [.lst xs, .tup ys] M GA = (xs.length = ys.length ∧ GA (zipL xs ys) M) := rfl
theorem e_zs_lst_lst : eZs [.lst xs, .lst ys] M GA = (xs.length = ys.length ∧ GA (zipL xs ys) M) := rfl
theorem e_zs_lst_slst : eZs [.lst xs, .slst ys] M GA = (xs.length = ys.length ∧ GA (zipL xs ys) M) := rfl
theorem e_zs_slst_tup : eZs [.slst xs, .tup ys] M GA = (xs.length = ys.length ∧ GA (zipL xs ys) M) := rfl
theorem e_zs_slst_lst : eZs [.slst xs, .lst ys] M GA = (xs.length = ys.length ∧ GA (zipL xs ys) M) := rfl
theorem e_zs_slst_slst : eZs [.slst xs, .slst ys] M GA = (xs.length = ys.length ∧ GA (zipL xs ys) M) := rfl
theorem r_mem_s : memR b (.str x) (.str y) M F = eC x fun c => F (.bl (if b then !decide (c ∈ y.cps.toList) else decide (c ∈ y.cps.toList))) M := rfl
theorem r_mem_t : memR b d (.tup ys) M F = ((okD d && okD (.tup ys)) = true ∧ F (.bl (if b then !(ys.any fun y => eqD y d) else ys.any fun y => eqD y d)) M) := by cases d <;> rfl
theorem r_mem_l : memR b d (.lst ys) M F = ((okD d && okD (.lst ys)) = true ∧ F (.bl (if b then !(ys.any fun y => eqD y d) else ys.any fun y => eqD y d)) M) := by cases d <;> rfl
theorem r_int_i : intR [.int i] M F = F (.int i) M := rfl
theorem r_int_b : intR [.bl b] M F = F (.int (if b then 1 else 0)) M := rfl
theorem r_listM_l : listM [.lst xs] M F = ∀ p, M p = none → F (.ref p) (updM M p (.lst xs)) := rfl
theorem r_listM_sl : listM [.slst xs] M F = ∀ p, M p = none → F (.ref p) (updM M p (.lst xs)) := rfl
theorem r_listM_t : listM [.tup xs] M F = ∀ p, M p = none → F (.ref p) (updM M p (.lst xs)) := rfl
theorem r_start : startD n xs = xs.map some ++ List.replicate (n - xs.length) none := rfl
end
end Fx

namespace Fx
open PySem PySem.Spec PyProof.Rows L2

/-- no test -/
theorem lc_map {T : TId} {t : Tg} {E : TEd} {vs : List Nat} {ds : Ds} {M : Mp} {F : DK} {xs : List D} (v : D → D) (hl : xs.length ≤ 1000000) (hT : ∀ G : List D → Mp → Prop, G xs M → T ds M G)
    (he : ∀ d ∈ xs, gD t d (wipeD ds vs) fun ds2 => ∀ M' (G : DK), G (v d) M' → E ds2 M' G)
    (hF : F (.lst (xs.map v)) M) : lcD T t yesD E vs ds M F :=
  lc_pure (fun _ => true) v hl hT (fun d hd => gD_mono t (fun ds2 h => ⟨fun M' G g => g, fun _ => h⟩) (he d hd)) (by
    have e : xs.filter (fun _ => true) = xs := by simp
    rw [e]
    exact hF)

/-! the hand: a dict with a list of cells -/
def HandAt (M : Mp) (h c : Addr) : Prop := ∃ (cells : List Int) (m n : Int), M h = some (.dic [(.inr "cells", .ref c), (.inr "mixed", .int m), (.inr "draws", .int n)]) ∧ M c = some (.lst (cells.map D.int)) ∧ 0 ≤ m ∧ m < 2147483563 ∧ 0 ≤ n ∧ cells.length ≤ 63
def Oth (h c : Addr) (M M' : Mp) : Prop := ∀ b, b ≠ h → b ≠ c → M' b = M b
theorem HandAt.ne {M : Mp} {h c : Addr} (x : HandAt M h c) : h ≠ c := fun e => by
  obtain ⟨_, _, _, h1, h2, _⟩ := x
  rw [e, h2] at h1
  cases h1
theorem Oth.refl (h c : Addr) (M : Mp) : Oth h c M M := fun _ _ _ => rfl
theorem Oth.trans {h c : Addr} {M M1 M2 : Mp} (a : Oth h c M M1) (b : Oth h c M1 M2) : Oth h c M M2 := fun x p q => (b x p q).trans (a x p q)
def R_hand : RD
  | [.slst xs], M, F => ∃ ns : List Int, xs = ns.map D.int ∧ ns.length ≤ 63 ∧ ∀ h c M', M h = none → M c = none → HandAt M' h c → Oth h c M M' → F (.ref h) M'
  | _, _, _ => False
def R_draw : RD
  | [.ref h, .int many], M, F => ∃ c, HandAt M h c ∧ 0 < many ∧ many < 1073741824 ∧ ∀ r M', 0 ≤ r → r < many → HandAt M' h c → Oth h c M M' → F (.int r) M'
  | _, _, _ => False
def R_pick : RD
  | [.ref h, .lst xs], M, F => ∃ c, HandAt M h c ∧ 0 < xs.length ∧ xs.length ≤ 1000000 ∧ ∀ d M', d ∈ xs → HandAt M' h c → Oth h c M M' → F d M'
  | _, _, _ => False
theorem ln_hand : ∀ xs M F, R_hand xs M F → xs.length = 1 := by
  intro xs M F h
  unfold R_hand at h
  split at h
  · rfl
  · exact h.elim
theorem ln_draw : ∀ xs M F, R_draw xs M F → xs.length = 2 := by
  intro xs M F h
  unfold R_draw at h
  split at h
  · rfl
  · exact h.elim
theorem ln_pick : ∀ xs M F, R_pick xs M F → xs.length = 2 := by
  intro xs M F h
  unfold R_pick at h
  split at h
  · rfl
  · exact h.elim
/-- the hand at the state of a turn -/
theorem val_cells {d e f : D} : valD [(.inr "cells", d), (.inr "mixed", e), (.inr "draws", f)] (.inr "cells") = some d := by
  unfold valD
  rfl
theorem val_mixed {d e f : D} : valD [(.inr "cells", d), (.inr "mixed", e), (.inr "draws", f)] (.inr "mixed") = some e := by
  unfold valD
  rfl
theorem val_draws {d e f : D} : valD [(.inr "cells", d), (.inr "mixed", e), (.inr "draws", f)] (.inr "draws") = some f := by
  unfold valD
  rfl
theorem put_draws {d e f g : D} : putD [(.inr "cells", d), (.inr "mixed", e), (.inr "draws", f)] (.inr "draws") g = [(.inr "cells", d), (.inr "mixed", e), (.inr "draws", g)] := by
  unfold putD
  rfl
theorem atI_mem {xs : List D} {r : Int} (h0 : 0 ≤ r) (h1 : r < xs.length) : ∃ d, atI xs r = some d ∧ d ∈ xs := by
  have hr : r.toNat < xs.length := by omega
  refine ⟨xs[r.toNat], ?_, List.getElem_mem hr⟩
  have : atI xs ((r.toNat : Nat) : Int) = some xs[r.toNat] := atI_nat (by simp [hr])
  have e : ((r.toNat : Nat) : Int) = r := by omega
  rw [e] at this
  exact this

/-! data of a size, with no address within -/
mutual
def nos : D → Bool
  | .tup ds => noss ds
  | .lst ds => noss ds
  | .slst _ | .ref _ | .ty _ | .dtp _ _ | .obj _ _ _ => false
  | _ => true
def noss : List D → Bool
  | [] => true
  | d :: ds => nos d && noss ds
end
structure Itm (c k : Nat) (d : D) : Prop where
  sh : shOk d = true
  no : nos d = true
  cs : cst d ≤ c
  dp : dep d ≤ k
structure Itl (c k : Nat) (xs : List D) : Prop where
  sh : shOks xs = true
  no : noss xs = true
  cs : csts xs ≤ c
  dp : deps xs ≤ k
theorem Itm.mono {c k c' k' : Nat} {d : D} (h : Itm c k d) (hc : c ≤ c') (hk : k ≤ k') : Itm c' k' d := ⟨h.sh, h.no, Nat.le_trans h.cs hc, Nat.le_trans h.dp hk⟩
theorem Itl.mono {c k c' k' : Nat} {d : List D} (h : Itl c k d) (hc : c ≤ c') (hk : k ≤ k') : Itl c' k' d := ⟨h.sh, h.no, Nat.le_trans h.cs hc, Nat.le_trans h.dp hk⟩
theorem Itl.nil {c k : Nat} : Itl c k [] := ⟨rfl, rfl, Nat.zero_le _, Nat.zero_le _⟩
theorem Itl.cons {c c' k : Nat} {d : D} {xs : List D} (h : Itm c k d) (r : Itl c' k xs) : Itl (c + 2 + c') k (d :: xs) := ⟨by rw [shOks, h.sh, r.sh]; rfl, by rw [noss, h.no, r.no]; rfl, by rw [csts]; have := h.cs; have := r.cs; omega, by rw [deps]; exact Nat.max_le.mpr ⟨h.dp, r.dp⟩⟩
theorem Itl.append {c c' k : Nat} : ∀ {xs ys : List D}, Itl c k xs → Itl c' k ys → Itl (c + c') k (xs ++ ys)
  | [], ys, _, h => h.mono (by omega) (Nat.le_refl _)
  | x :: xs, ys, h, h' => by
    have a1 : shOk x = true ∧ shOks xs = true := by have := h.sh; rw [shOks] at this; simpa using this
    have a2 : nos x = true ∧ noss xs = true := by have := h.no; rw [noss] at this; simpa using this
    have a3 : cst x + 2 + csts xs ≤ c := by have := h.cs; rw [csts] at this; exact this
    have a4 : dep x ≤ k ∧ deps xs ≤ k := by have := h.dp; rw [deps] at this; exact Nat.max_le.mp this
    have hx : Itm (cst x) k x := ⟨a1.1, a2.1, Nat.le_refl _, a4.1⟩
    have hr : Itl (c - (cst x + 2)) k xs := ⟨a1.2, a2.2, by omega, a4.2⟩
    exact (Itl.cons hx (Itl.append hr h')).mono (by omega) (Nat.le_refl _)
theorem Itl.parts {c k : Nat} {x : D} {xs : List D} (h : Itl c k (x :: xs)) : Itm c k x ∧ Itl c k xs ∧ cst x + 2 + csts xs ≤ c := by
  have a1 : shOk x = true ∧ shOks xs = true := by have := h.sh; rw [shOks] at this; simpa using this
  have a2 : nos x = true ∧ noss xs = true := by have := h.no; rw [noss] at this; simpa using this
  have a3 : cst x + 2 + csts xs ≤ c := by have := h.cs; rw [csts] at this; exact this
  have a4 : dep x ≤ k ∧ deps xs ≤ k := by have := h.dp; rw [deps] at this; exact Nat.max_le.mp this
  exact ⟨⟨a1.1, a2.1, by omega, a4.1⟩, ⟨a1.2, a2.2, by omega, a4.2⟩, a3⟩
theorem Itl.take {c k : Nat} : ∀ {xs : List D} (n : Nat), Itl c k xs → Itl c k (xs.take n)
  | _, 0, _ => by rw [List.take_zero]; exact Itl.nil
  | [], _ + 1, h => h
  | x :: xs, n + 1, h => by
    obtain ⟨h1, h2, h3⟩ := h.parts
    have hx : Itm (cst x) k x := ⟨h1.sh, h1.no, Nat.le_refl _, h1.dp⟩
    have hr : Itl (c - (cst x + 2)) k (xs.take n) := Itl.take n ⟨h2.sh, h2.no, by omega, h2.dp⟩
    exact (Itl.cons hx hr).mono (by omega) (Nat.le_refl _)
theorem Itl.drop {c k : Nat} : ∀ {xs : List D} (n : Nat), Itl c k xs → Itl c k (xs.drop n)
  | _, 0, h => h
  | [], _ + 1, h => h
  | x :: xs, n + 1, h => Itl.drop n h.parts.2.1
theorem Itl.cut {c k : Nat} {xs : List D} {lo hi : Option Int} (h : Itl c k xs) : Itl c k (cutL xs lo hi) := (h.drop _).take _
theorem Itl.mem {c k : Nat} : ∀ {xs : List D} {d : D}, Itl c k xs → d ∈ xs → Itm c k d
  | x :: xs, d, h, m => by
    rcases List.mem_cons.mp m with e | m
    · rw [e]; exact h.parts.1
    · exact Itl.mem h.parts.2.1 m
theorem Itl.len {c k : Nat} : ∀ {xs : List D}, Itl c k xs → 2 * xs.length ≤ c
  | [], _ => Nat.zero_le _
  | x :: xs, h => by
    obtain ⟨h1, h2, h3⟩ := h.parts
    have := Itl.len (c := c - (cst x + 2)) ⟨h2.sh, h2.no, by omega, h2.dp⟩
    rw [List.length_cons]
    omega
theorem Itl.all {c k n : Nat} : ∀ {xs : List D}, (∀ d ∈ xs, Itm c k d) → xs.length ≤ n → Itl (n * (c + 2)) k xs
  | [], _, _ => Itl.nil
  | x :: xs, h, hl => by
    rw [List.length_cons] at hl
    cases n with
    | zero => omega
    | succ m =>
      have ih := Itl.all (n := m) (fun d hd => h d (List.mem_cons_of_mem _ hd)) (by omega)
      refine (Itl.cons (h x List.mem_cons_self) ih).mono ?_ (Nat.le_refl _)
      rw [Nat.succ_mul]
      omega
theorem Itm.tup {c k : Nat} {xs : List D} (h : Itl c k xs) : Itm (c + 3) (k + 1) (.tup xs) := ⟨by rw [shOk]; exact h.sh, by rw [nos]; exact h.no, by rw [cst]; have := h.cs; omega, by rw [dep]; have := h.dp; omega⟩
theorem Itm.lst {c k : Nat} {xs : List D} (h : Itl c k xs) : Itm (c + 3) (k + 1) (.lst xs) := ⟨by rw [shOk]; exact h.sh, by rw [nos]; exact h.no, by rw [cst]; have := h.cs; omega, by rw [dep]; have := h.dp; omega⟩
theorem Itm.of_tup {c k : Nat} {xs : List D} (h : Itm c k (.tup xs)) : Itl c k xs := ⟨by have := h.sh; rw [shOk] at this; exact this, by have := h.no; rw [nos] at this; exact this, by have := h.cs; rw [cst] at this; omega, by have := h.dp; rw [dep] at this; omega⟩
theorem Itm.of_lst {c k : Nat} {xs : List D} (h : Itm c k (.lst xs)) : Itl c k xs := ⟨by have := h.sh; rw [shOk] at this; exact this, by have := h.no; rw [nos] at this; exact this, by have := h.cs; rw [cst] at this; omega, by have := h.dp; rw [dep] at this; omega⟩
theorem Itm.str {c k : Nat} {x : Str} (h : Itm c k (.str x)) : 10 * x.length + 4 ≤ c := by have := h.cs; rw [cst] at this; exact this
theorem Itm.ofStr {k : Nat} {x : Str} (h : x.cps.toList.all (fun c => decide (c < 1114112)) = true) : Itm (10 * x.length + 4) k (.str x) := ⟨by rw [shOk]; exact h, rfl, by rw [cst]; exact Nat.le_refl _, Nat.zero_le _⟩
theorem Itm.int {k : Nat} {i : Int} (h : i.natAbs.log2 < 1920) : Itm 2000 k (.int i) := ⟨by rw [shOk]; exact decide_eq_true h, rfl, by rw [cst]; exact Nat.le_refl _, Nat.zero_le _⟩
theorem Itm.non {k : Nat} : Itm 5 k .non := ⟨rfl, rfl, (by show (5 : Nat) ≤ 5; decide), Nat.zero_le _⟩
theorem Itm.bl {k : Nat} {b : Bool} : Itm 5 k (.bl b) := ⟨rfl, rfl, (by show (5 : Nat) ≤ 5; decide), Nat.zero_le _⟩
/-- a written value -/
theorem Itm.dec {c k : Nat} {d : D} (h : (shOk d && nos d && decide (cst d ≤ c) && decide (dep d ≤ k)) = true) : Itm c k d := by
  simp only [Bool.and_eq_true, decide_eq_true_eq] at h
  exact ⟨h.1.1.1, h.1.1.2, h.1.2, h.2⟩
theorem Itm.repr {c k : Nat} {d : D} (h : Itm c k d) (hc : c ≤ 1000000) (hk : k ≤ 100) : shOk d = true ∧ cst d ≤ 1000000 ∧ dep d ≤ 100 := ⟨h.sh, Nat.le_trans h.cs hc, Nat.le_trans h.dp hk⟩
end Fx

namespace Fx
open PySem PySem.Spec PyProof.Rows L2
theorem reprChar_head (q c : Nat) : (Builtin.Str.reprChar q c).head? = some 92 ∨ Builtin.Str.reprChar q c = [c] := by
  unfold Builtin.Str.reprChar
  repeat' split
  all_goals first
    | exact .inr rfl
    | exact .inl rfl
theorem repr_list (x : Str) : (reprText x).cps.toList = reprQuote x :: (x.cps.toList.flatMap (Builtin.Str.reprChar (reprQuote x)) ++ [reprQuote x]) := by
  unfold reprText
  have h : ∀ (q : Nat) (l : List Nat) (acc : Array Nat), (l.foldl (fun out c => out ++ (Builtin.Str.reprChar q c).toArray) acc).toList = acc.toList ++ l.flatMap (Builtin.Str.reprChar q) := by
    intro q l
    induction l with
    | nil => intro acc; simp
    | cons c l ih => intro acc; rw [List.foldl_cons, ih]; simp
  show (Array.push _ _).toList = _
  rw [Array.toList_push, ← Array.foldl_toList, h]
  rfl
theorem repr_T {x : Str} (h : reprText x = ("'T'" : Str)) : x = ("T" : Str) := by
  have e := repr_list x
  rw [h] at e
  have e0 : (("'T'" : Str)).cps.toList = [39, 84, 39] := by decide +kernel
  rw [e0] at e
  have e1 : reprQuote x = 39 := by injection e with a; exact a.symm
  rw [e1] at e
  have e2 : [84] ++ [39] = x.cps.toList.flatMap (Builtin.Str.reprChar 39) ++ [39] := by injection e
  have e3 := (List.append_inj_left' e2 rfl).symm
  have e4 : x.cps.toList = [84] := by
    cases hx : x.cps.toList with
    | nil => rw [hx] at e3; cases e3
    | cons c l =>
      rw [hx, List.flatMap_cons] at e3
      rcases reprChar_head 39 c with a | a
      · cases hc : Builtin.Str.reprChar 39 c with
        | nil => rw [hc] at a; cases a
        | cons y ys =>
          rw [hc] at a e3
          cases a
          injection e3 with b
          cases b
      · rw [a] at e3
        injection e3 with b1 b2
        subst b1
        cases l with
        | nil => rfl
        | cons d l =>
          exfalso
          change List.flatMap (Builtin.Str.reprChar 39) (d :: l) = [] at b2
          rw [List.flatMap_cons] at b2
          rcases reprChar_head 39 d with a | a
          · cases hc : Builtin.Str.reprChar 39 d with
            | nil => rw [hc] at a; cases a
            | cons y ys => rw [hc] at b2; cases b2
          · rw [a] at b2; cases b2
  cases x with
  | mk a =>
    have : a = #[84] := Array.toList_inj.mp e4
    rw [this]
    decide +kernel
theorem ends_of {x y : Str} {c : Nat} {z : Str} (h : x ++ y = z) (hy : y.cps.toList = [c]) : z.cps.toList.getLast? = some c := by
  rw [← h]
  show (x.cps ++ y.cps).toList.getLast? = _
  rw [Array.toList_append, hy]
  simp
theorem shw_T (d : D) (h : shOk d = true) (hn : ∀ x, d ≠ .str x) : shw d ≠ ("'T'" : Str) := by
  have e0 : (("'T'" : Str)).cps.toList = [39, 84, 39] := by decide +kernel
  have e1 : (("'T'" : Str)).cps.toList.getLast? = some 39 := by decide +kernel
  intro e
  unfold shw at e
  cases d with
  | non => rw [py, PyData.shown] at e; exact absurd e (by decide +kernel)
  | bl b => rw [py, PyData.shown] at e; cases b <;> exact absurd e (by decide +kernel)
  | int i =>
    rw [py, PyData.shown] at e
    have := int_text_free' 84 ⟨by decide, by decide⟩ i
    rw [e, e0] at this
    exact this (by decide)
  | str x => exact hn x rfl
  | tup xs =>
    rw [py, PyData.shown] at e
    unfold tupleText at e
    split at e
    · have e2 : ∃ y : Str, y ++ (")" : Str) = ("'T'" : Str) := by
        refine ⟨("(" : Str) ++ Str.join ", " (PyData.shownAll (pys xs)) ++ ("," : Str), ?_⟩
        rw [← e]
        have : ((",)" : String) : Str) = ("," : Str) ++ (")" : Str) := by decide +kernel
        rw [this]
        apply congrArg PySem.Str.mk
        exact Array.append_assoc
      obtain ⟨y, e2⟩ := e2
      have := ends_of (c := 41) e2 (by decide +kernel)
      rw [e1] at this
      cases this
    · have := ends_of (c := 41) e (by decide +kernel)
      rw [e1] at this
      cases this
  | lst xs =>
    rw [py, PyData.shown] at e
    have := ends_of (c := 93) e (by decide +kernel)
    rw [e1] at this
    cases this
  | slst xs =>
    rw [py, PyData.shown] at e
    have := ends_of (c := 93) e (by decide +kernel)
    rw [e1] at this
    cases this
  | dic kvs =>
    rw [py, PyData.shown] at e
    have := ends_of (c := 125) e (by decide +kernel)
    rw [e1] at this
    cases this
  | ref _ => cases h
  | ty _ => cases h
  | dtp _ _ => cases h
  | obj _ _ _ => cases h
end Fx

namespace Fx
open PySem PySem.Spec PyProof.Rows L2
/-! functions that draw from the hand -/
def R_gen (P : D → Prop) : RD
  | [.ref h], M, F => ∃ c, HandAt M h c ∧ ∀ d M', P d → HandAt M' h c → Oth h c M M' → F d M'
  | _, _, _ => False
theorem ln_gen {P : D → Prop} : ∀ xs M F, R_gen P xs M F → xs.length = 1 := by
  intro xs M F h
  unfold R_gen at h
  split at h
  · rfl
  · exact h.elim
/-- a list written by drawing, after its row is known -/
def lcE (t : Tg) (C : TTd) (E : TEd) (vs : List Nat) (ds : Ds) (xs : List D) (M1 : Mp) (F : DK) : Prop := ∀ L, M1 L = none → ∃ W : Nat → List D → Mp → Prop, W 0 [] (updM M1 L (.lst [])) ∧
  (∀ i d acc M', xs[i]? = some d → W i acc M' → acc.length < 1000000 ∧ gD t d (wipeD ds vs) fun ds2 => C ds2 M' fun b M2 => br b
    (E ds2 M2 fun y M3 => M3 L = some (.lst acc) ∧ W (i + 1) (acc ++ [y]) (updM M3 L (.lst (acc ++ [y]))))
    (W (i + 1) acc M2)) ∧ ∀ acc M', W xs.length acc M' → M' L = some (.lst acc) ∧ F (.lst acc) (delM M' L)
theorem q_lc {T : TId} {t : Tg} {C : TTd} {E : TEd} {vs : List Nat} {ds : Ds} {M : Mp} {F : DK} : lcD T t C E vs ds M F = T ds M fun xs M1 => lcE t C E vs ds xs M1 F := rfl
theorem HandAt.upd {M : Mp} {h c L : Addr} {m : MO} (hd : HandAt M h c) (h1 : L ≠ h) (h2 : L ≠ c) : HandAt (updM M L m) h c := by
  obtain ⟨cells, a, n, e1, e2, r⟩ := hd
  exact ⟨cells, a, n, (updM_ne h1.symm).trans e1, (updM_ne h2.symm).trans e2, r⟩
theorem HandAt.del {M : Mp} {h c L : Addr} (hd : HandAt M h c) (h1 : L ≠ h) (h2 : L ≠ c) : HandAt (delM M L) h c := by
  obtain ⟨cells, a, n, e1, e2, r⟩ := hd
  refine ⟨cells, a, n, ?_, ?_, r⟩
  · unfold delM
    rw [if_neg h1.symm]
    exact e1
  · unfold delM
    rw [if_neg h2.symm]
    exact e2
theorem HandAt.off {M : Mp} {h c L : Addr} (hd : HandAt M h c) (hL : M L = none) : L ≠ h ∧ L ≠ c := by
  obtain ⟨cells, a, n, e1, e2, r⟩ := hd
  refine ⟨fun e => ?_, fun e => ?_⟩
  · rw [e, e1] at hL; cases hL
  · rw [e, e2] at hL; cases hL
theorem lc_draw {t : Tg} {E : TEd} {vs : List Nat} {ds : Ds} {M : Mp} {F : DK} {xs : List D} {h c : Addr} (P : D → Prop) (hd : HandAt M h c) (hl : xs.length ≤ 1000000)
    (he : ∀ d ∈ xs, gD t d (wipeD ds vs) fun ds2 => ∀ M' (G : DK), HandAt M' h c → (∀ y M2, P y → HandAt M2 h c → Oth h c M' M2 → G y M2) → E ds2 M' G)
    (hF : ∀ ys M', ys.length = xs.length → (∀ y ∈ ys, P y) → HandAt M' h c → Oth h c M M' → F (.lst ys) M') : lcE t yesD E vs ds xs M F := by
  intro L hL
  obtain ⟨o1, o2⟩ := hd.off hL
  refine ⟨fun i acc M' => acc.length = i ∧ (∀ y ∈ acc, P y) ∧ M' L = some (.lst acc) ∧ HandAt M' h c ∧ (∀ b, b ≠ h → b ≠ c → b ≠ L → M' b = M b), ⟨rfl, fun y hy => absurd hy (by simp), updM_same, hd.upd o1 o2, fun b _ _ hb => updM_ne hb⟩, fun i d acc M' hi ⟨w1, w2, w3, w4, w5⟩ => ?_, fun acc M' ⟨w1, w2, w3, w4, w5⟩ => ?_⟩
  · have hx : i < xs.length := (List.getElem?_eq_some_iff.mp hi).1
    refine ⟨by omega, gD_mono t (fun ds2 k => ?_) (he d (List.mem_of_getElem? hi))⟩
    refine k M' _ w4 fun y M2 py h2 ot => ⟨?_, ?_, ?_, updM_same, h2.upd o1 o2, fun b b1 b2 b3 => ?_⟩
    · rw [ot L o1 o2]
      exact w3
    · rw [List.length_append, w1]
      rfl
    · intro z hz
      rcases List.mem_append.mp hz with q | q
      · exact w2 z q
      · rw [List.mem_singleton.mp q]
        exact py
    · rw [updM_ne b3, ot b b1 b2]
      exact w5 b b1 b2 b3
  · refine ⟨w3, hF acc _ w1 w2 (w4.del o1 o2) fun b b1 b2 => ?_⟩
    unfold delM
    by_cases q : b = L
    · rw [if_pos q, q]
      exact hL.symm
    · rw [if_neg q]
      exact w5 b b1 b2 q
/-- a list that may change, written by a comprehension that changes nothing -/
theorem lcM_map {T : TId} {t : Tg} {E : TEd} {vs : List Nat} {ds : Ds} {M : Mp} {F : DK} {xs : List D} (v : D → D) (hl : xs.length ≤ 1000000) (hT : ∀ G : List D → Mp → Prop, G xs M → T ds M G)
    (he : ∀ d ∈ xs, gD t d (wipeD ds vs) fun ds2 => ∀ M' (G : DK), G (v d) M' → E ds2 M' G) (hF : ∀ L, M L = none → F (.ref L) (updM M L (.lst (xs.map v)))) : lcM T t yesD E vs ds M F := by
  refine hT _ fun L hL => ⟨fun i acc M' => acc = (xs.take i).map v ∧ M' = updM M L (.lst acc), ⟨rfl, rfl⟩, fun i d acc M' hd ⟨e1, e2⟩ => ?_, fun acc M' ⟨e1, e2⟩ => ?_⟩
  · have hi : i < xs.length := (List.getElem?_eq_some_iff.mp hd).1
    refine ⟨by rw [e1, List.length_map, List.length_take]; omega, gD_mono t (fun ds2 hE => ?_) (he d (List.mem_of_getElem? hd))⟩
    have et : xs.take (i + 1) = xs.take i ++ [d] := by rw [List.take_add_one, hd]; rfl
    refine hE M' _ ⟨by rw [e2]; exact updM_same, by rw [et, List.map_append, e1]; rfl, ?_⟩
    rw [e2]
    funext b
    by_cases q : b = L
    · rw [q, updM_same, updM_same]
    · rw [updM_ne q, updM_ne q, updM_ne q]
  · rw [List.take_length] at e1
    refine ⟨by rw [e2]; exact updM_same, ?_⟩
    rw [e2, e1]
    exact hF L hL
/-- a loop, after its row is known -/
def forE (t : Tg) (S : TSd) (B : Endd) (ds : Ds) (xs : List D) (M1 : Mp) : Prop := ∃ W : Nat → Ds → Mp → Prop, W 0 ds M1 ∧
  (∀ i d ds' M', xs[i]? = some d → W i ds' M' → gD t d ds' fun ds2 => S { B with nx := W (i + 1), ct := W (i + 1), bk := B.nx } ds2 M') ∧ ∀ ds' M', W xs.length ds' M' → B.nx ds' M'
theorem q_for {T : TId} {t : Tg} {S : TSd} {B : Endd} {ds : Ds} {M : Mp} : forD T t S B ds M = T ds M fun xs M1 => forE t S B ds xs M1 := rfl
theorem for_inv {t : Tg} {S : TSd} {B : Endd} {ds : Ds} {xs : List D} {M1 : Mp} (W : Nat → Ds → Mp → Prop) (h0 : W 0 ds M1)
    (ht : ∀ i d ds' M', xs[i]? = some d → W i ds' M' → gD t d ds' fun ds2 => S { B with nx := W (i + 1), ct := W (i + 1), bk := B.nx } ds2 M') (hd : ∀ ds' M', W xs.length ds' M' → B.nx ds' M') : forE t S B ds xs M1 := ⟨W, h0, ht, hd⟩
theorem join_flat (xs : List Str) : (Txt.join ("" : Str) xs).cps.toList = xs.flatMap fun x => x.cps.toList := by
  have h : ∀ (l : List Str) (acc : Array Nat), (l.foldl (fun acc (p : Str) => acc ++ ("" : Str).cps ++ p.cps) acc).toList = acc.toList ++ l.flatMap fun x => x.cps.toList := by
    intro l
    induction l with
    | nil => intro acc; simp
    | cons c l ih =>
      intro acc
      have e : ("" : Str).cps = #[] := by decide +kernel
      rw [List.foldl_cons, ih, e]
      simp
  cases xs with
  | nil => rfl
  | cons x xs => exact h xs x.cps
/-- a text joined of letters -/
theorem join_Itm {k : Nat} {xs : List Str} {n : Nat} (hl : xs.length ≤ n) (h : ∀ x ∈ xs, ∃ c, c < 1114112 ∧ x = ⟨#[c]⟩) : Itm (10 * n + 4) k (.str (Txt.join ("" : Str) xs)) := by
  have e := join_flat xs
  have a1 : ∀ l : List Str, (∀ x ∈ l, ∃ c, c < 1114112 ∧ x = ⟨#[c]⟩) → (l.flatMap fun x => x.cps.toList).length = l.length ∧ (l.flatMap fun x => x.cps.toList).all (fun c => decide (c < 1114112)) = true := by
    intro l
    induction l with
    | nil => intro _; exact ⟨rfl, rfl⟩
    | cons x l ih =>
      intro g
      obtain ⟨b1, b2⟩ := ih fun z hz => g z (List.mem_cons_of_mem _ hz)
      obtain ⟨c, hc, rfl⟩ := g x List.mem_cons_self
      rw [List.flatMap_cons]
      refine ⟨?_, ?_⟩
      · rw [List.length_append, b1, List.length_cons]
        exact Nat.add_comm 1 _
      · rw [List.all_append, b2, Bool.and_true]
        show (decide (c < 1114112) && true) = true
        rw [decide_eq_true hc]
        rfl
  obtain ⟨b1, b2⟩ := a1 xs h
  rw [← e] at b1 b2
  have b3 : (Txt.join ("" : Str) xs).length = xs.length := by
    rw [← b1]
    show Array.size _ = _
    simp
  exact (Itm.ofStr b2).mono (by omega) (Nat.le_refl _)
end Fx

namespace Fx
open PySem PySem.Spec PyProof.Rows L2
def eRevA (d : D) (M : Mp) (F : DK) : Prop := match d with
  | .lst xs => F (.lst xs.reverse) M
  | .slst xs => F (.lst xs.reverse) M
  | .tup xs => F (.tup xs.reverse) M
  | .str z => z.length ≤ 1000000 ∧ F (.str (revS z)) M
  | _ => False
def eStar (d : D) (K : List D → Prop) : Prop := match d with
  | .lst xs => K xs
  | .slst xs => K xs
  | .tup xs => K xs
  | _ => False
def eP3 (xs : List D) (K : D → D → D → Prop) : Prop := match xs with
  | [a, b, c] => K a b c
  | _ => False
def eD1 (xs : List D) (K : D → Prop) : Prop := match xs with
  | [a] => K a
  | _ => False
def eIx (l : List Nat) (K : Nat → Prop) : Prop := match l with
  | i :: _ => K i
  | [] => False
section
variable {T U : TEd} {S : TSd} {V V2 : TAd} {ds : Ds} {M : Mp} {F : DK} {GA : List D → Mp → Prop} {E : Endd} {i j : Int} {x y f : Str} {xs ys : List D} {d v : D} {b : Bool} {a : Addr} {n m l : Nat} {R : RX} {W : WXd} {cn c g : String} {errs : List String} {o : Option Addr} {ns : List Str} {es : List D}
  {KL : List D → Prop} {KD : D → Prop} {KN : Nat → Prop} {K3 : D → D → D → Prop} {KC : List Str → List D → Prop} {tb : WXd → TSd} {th : Addr → String → Option Addr → TSd}
theorem q_revA : revA T ds M F = T ds M fun d M1 => eRevA d M1 F := by
  unfold revA eRevA
  congr
theorem e_ra_l : eRevA (.lst xs) M F = F (.lst xs.reverse) M := rfl
theorem e_ra_s : eRevA (.slst xs) M F = F (.lst xs.reverse) M := rfl
theorem e_ra_t : eRevA (.tup xs) M F = F (.tup xs.reverse) M := rfl
theorem e_ra_z : eRevA (.str x) M F = (x.length ≤ 1000000 ∧ F (.str (revS x)) M) := rfl
theorem q_star : starD T V ds M GA = T ds M fun d M1 => eStar d fun xs => V ds M1 fun ys M2 => GA (xs ++ ys) M2 := by
  unfold starD eStar
  congr
theorem e_st_l : eStar (.lst xs) KL = KL xs := rfl
theorem e_st_s : eStar (.slst xs) KL = KL xs := rfl
theorem e_st_t : eStar (.tup xs) KL = KL xs := rfl
theorem q_par3 : par3D n m l V E ds M = V ds M fun xs M1 => eP3 xs fun a b c => E.nx (((ds.set n (some a)).set m (some b)).set l (some c)) M1 := rfl
theorem e_p3 {d1 d2 d3 : D} : eP3 [d1, d2, d3] K3 = K3 d1 d2 d3 := rfl
theorem q_cont : contD E ds M = E.ct ds M := rfl
theorem r_add2_i : addR2 (.int i) (.int j) M F = F (.int (i + j)) M := rfl
theorem r_add2_s : addR2 (.str x) (.str y) M F = (x.length + y.length ≤ 1000000 ∧ F (.str (x ++ y)) M) := rfl
theorem r_add2_t : addR2 (.tup xs) (.tup ys) M F = (xs.length + ys.length ≤ 1000000 ∧ F (.tup (xs ++ ys)) M) := rfl
theorem r_add2_l : addR2 (.lst xs) (.lst ys) M F = (xs.length + ys.length ≤ 1000000 ∧ F (.lst (xs ++ ys)) M) := rfl
theorem r_add2_rl : addR2 (.ref a) (.lst ys) M F = eML (M a) fun xs => xs.length + ys.length ≤ 1000000 ∧ F (.lst (xs ++ ys)) M := by
  unfold addR2 lisD eML
  dsimp only
  generalize M a = o
  cases o with
  | none => rfl
  | some m => cases m <;> rfl
theorem r_add2_lr : addR2 (.lst ys) (.ref a) M F = eML (M a) fun xs => ys.length + xs.length ≤ 1000000 ∧ F (.lst (ys ++ xs)) M := by
  unfold addR2 lisD eML
  dsimp only
  generalize M a = o
  cases o with
  | none => rfl
  | some m => cases m <;> rfl
theorem r_mul2_i : mulR2 (.int i) (.int j) M F = (((-(2 ^ 64) < i ∧ i < 2 ^ 64) ∨ (-(2 ^ 64) < j ∧ j < 2 ^ 64)) ∧ F (.int (i * j)) M) := rfl
theorem r_mul2_l : mulR2 (.lst xs) (.int i) M F = (0 ≤ i ∧ i ≤ 1000000 ∧ xs.length * i.toNat ≤ 1000000 ∧ F (.lst (List.replicate i.toNat xs).flatten) M) := rfl
theorem r_mul2_s : mulR2 (.str x) (.int i) M F = (-1000000 ≤ i ∧ i ≤ 1000000 ∧ x.length * i.toNat ≤ 1000000 ∧ F (.str (Txt.mul x i)) M) := rfl
theorem r_le2_i : leR2 (.int i) (.int j) M F = F (.bl (decide (i ≤ j))) M := rfl
theorem r_le2_s : leR2 (.str x) (.str y) M F = F (.bl (!decide (y.cps.toList < x.cps.toList))) M := rfl
theorem r_lt2_i : ltR2 (.int i) (.int j) M F = F (.bl (decide (i < j))) M := rfl
theorem r_lt2_s : ltR2 (.str x) (.str y) M F = F (.bl (decide (x.cps.toList < y.cps.toList))) M := rfl
theorem r_sum : sumR [.lst xs] M F = (xs.all isInt = true ∧ F (.int (xs.map getInt).sum) M) := rfl
theorem r_max2 : max2R [.int i, .int j] M F = F (.int (max i j)) M := rfl
theorem r_min2 : min2R [.int i, .int j] M F = F (.int (min i j)) M := rfl
theorem r_rst : rstR (.str x) [.str y] M F = (x.length ≤ 1000000 ∧ F (.str (Txt.rstripChars x y)) M) := rfl
theorem r_spl : splR (.str x) [.str y] M F = (0 < y.length ∧ x.length ≤ 1000000 ∧ F (.lst ((Txt.split x y).map D.str)) M) := rfl
theorem r_six : sixR (.str x) [.str y] M F = eIx (Builtin.Str.occurrences x y 0 x.length 1) fun i => F (.int (i : Nat)) M := by
  unfold sixR eIx
  rfl
theorem q_callX : callX R W V ds M F = V ds M fun xs M1 => R xs M1 F fun n ns es M2 => W n ns es ds M2 := rfl
theorem q_callKX {g : List D → List D → List D} : callKX R g W V V2 ds M F = V ds M fun xs M1 => V2 ds M1 fun ys M2 => R (g xs ys) M2 F fun n ns es M3 => W n ns es ds M3 := rfl
theorem q_sliM {O O2 : TOd} : sliM T O O2 ds M F = T ds M fun d M1 => O ds M1 fun lo M2 => O2 ds M2 fun hi M3 => slM d lo hi M3 F := rfl
theorem r_slM {lo hi : Option Int} : slM (.ref a) lo hi M F = eML (M a) fun xs => F (.lst (cutL xs lo hi)) M := by
  unfold slM eML
  first
    | rfl
    | (dsimp only
       generalize M a = o
       cases o with
       | none => rfl
       | some m => cases m <;> rfl)
theorem q_kdef {dds : List D} : kdef dds xs [] = xs ++ dds := rfl
theorem q_mix21 {d1 d2 d3 : D} : kmix 2 1 [0, 1, 2] [d1, d2] [d3] = [d1, d2, d3] := rfl
theorem q_mix03 {d1 d2 d3 : D} : kmix 0 3 [2, 1, 0] [] [d1, d2, d3] = [d3, d2, d1] := rfl
theorem q_raise : raiseD cn f W V E ds M = V ds M fun xs M1 => eD1 xs fun v => W cn [f] [v] ds M1 := rfl
theorem e_d1 : eD1 [d] KD = KD d := rfl
theorem q_try : tryD errs cn n tb th W E ds M = tb (tryW errs cn n th W E) E ds M := rfl
theorem q_tryW : tryW errs cn n th W E c ns es ds M = (c ∈ errs ∧ br (subN c cn) (∀ a d, th a c d { nx := fun ds2 M2 => E.nx (ds2.set n none) M2, rt := E.rt, bk := fun ds2 M2 => E.bk (ds2.set n none) M2, ct := fun ds2 M2 => E.ct (ds2.set n none) M2 } (ds.set n (some (.obj (.cau a c d) ns es))) M) (W c ns es ds M)) := rfl
theorem q_xf : xfD cn c a o f T ds M F = (c = cn ∧ T ds M fun x M1 => cauD a o x fun ns es => eO ((ns.zip es).lookup f) fun v => F v M1) := by
  unfold xfD
  congr
  funext x M1
  congr
  funext ns es
  unfold eO
  generalize (ns.zip es).lookup f = q
  cases q <;> rfl
theorem q_isX : isXD errs c g a o T ds M F = (c ∈ errs ∧ T ds M fun x M1 => cauD a o x fun _ _ => F (.bl (subN c g)) M1) := rfl
theorem e_cau {s : String} : cauD a o (.obj (.cau a s o) ns es) KC = KC ns es := by simp [cauD]
end
end Fx

namespace Fx
open PySem PySem.Spec PyProof.Rows L2
/-! rows of texts -/
def tS (w : List Str) : D := .tup (w.map .str)
def sOk (x : Str) : Prop := x.cps.toList.all (fun c => decide (c < 1114112)) = true
theorem delM_upd {M : Mp} {p : Addr} {o : MO} (h : M p = none) : delM (updM M p o) p = M := by
  funext b
  unfold delM
  by_cases e : b = p
  · rw [if_pos e, e, h]
  · rw [if_neg e, updM_ne e]
theorem updM_two {M : Mp} {p : Addr} {o o' : MO} : updM (updM M p o) p o' = updM M p o' := by
  funext b
  by_cases e : b = p
  · rw [e, updM_same, updM_same]
  · rw [updM_ne e, updM_ne e, updM_ne e]
theorem eqR_tt {xs ys : List D} {M : Mp} {F : DK} (h : (okD (.tup xs) && okD (.tup ys)) = true) (f : F (.bl (eqD (.tup xs) (.tup ys))) M) : eqR (.tup xs) (.tup ys) M F := by
  cases ys with
  | nil =>
    rw [r_eq_t0]
    have : eqD (.tup xs) (.tup []) = xs.isEmpty := by
      cases xs with
      | nil => rfl
      | cons x xs => unfold eqD; rw [py, py, pys, pys, PyData.eqv, PyData.eqvAll]; rfl
    rw [← this]
    exact f
  | cons y ys => exact ⟨h, f⟩
theorem eqR_ll {xs ys : List D} {M : Mp} {F : DK} (h : (okD (.lst xs) && okD (.lst ys)) = true) (f : F (.bl (eqD (.lst xs) (.lst ys))) M) : eqR (.lst xs) (.lst ys) M F := by
  cases ys with
  | nil =>
    rw [r_eq_l0]
    have : eqD (.lst xs) (.lst []) = xs.isEmpty := by
      cases xs with
      | nil => rfl
      | cons x xs => unfold eqD; rw [py, py, pys, pys, PyData.eqv, PyData.eqvAll]; rfl
    rw [← this]
    exact f
  | cons y ys => exact ⟨h, f⟩
theorem eqvAll_str : ∀ a b : List Str, PyData.eqvAll (pys (a.map .str)) (pys (b.map .str)) = decide (a = b)
  | [], [] => by rw [List.map_nil, pys, PyData.eqvAll]; simp
  | [], y :: b => by rw [List.map_nil, List.map_cons, pys, pys, PyData.eqvAll]; simp
  | x :: a, [] => by rw [List.map_nil, List.map_cons, pys, pys, PyData.eqvAll]; simp
  | x :: a, y :: b => by
    rw [List.map_cons, List.map_cons, pys, pys, PyData.eqvAll, eqvAll_str a b, py, py, PyData.eqv]
    by_cases e : x = y <;> by_cases e' : a = b <;> simp [e, e']
theorem eqD_tS (a b : List Str) : eqD (tS a) (tS b) = decide (a = b) := by
  unfold eqD tS
  rw [py, py, PyData.eqv]
  exact eqvAll_str a b
theorem eqvAll_tS : ∀ a b : List (List Str), PyData.eqvAll (pys (a.map tS)) (pys (b.map tS)) = decide (a = b)
  | [], [] => by rw [List.map_nil, pys, PyData.eqvAll]; simp
  | [], y :: b => by rw [List.map_nil, List.map_cons, pys, pys, PyData.eqvAll]; simp
  | x :: a, [] => by rw [List.map_nil, List.map_cons, pys, pys, PyData.eqvAll]; simp
  | x :: a, y :: b => by
    rw [List.map_cons, List.map_cons, pys, pys, PyData.eqvAll, eqvAll_tS a b]
    have := eqD_tS x y
    unfold eqD at this
    rw [this]
    by_cases e : x = y <;> by_cases e' : a = b <;> simp [e, e']
theorem eqD_ltS (a b : List (List Str)) : eqD (.lst (a.map tS)) (.lst (b.map tS)) = decide (a = b) := by
  unfold eqD
  rw [py, py, PyData.eqv]
  exact eqvAll_tS a b
theorem eqD_ttS (a b : List (List Str)) : eqD (.tup (a.map tS)) (.tup (b.map tS)) = decide (a = b) := by
  unfold eqD
  rw [py, py, PyData.eqv]
  exact eqvAll_tS a b
/-! data that may be compared -/
mutual
theorem lay_of : ∀ (d : D), shOk d = true → flat d = true → (py d).canLay0 = true
  | .non, _, _ => rfl
  | .bl _, _, _ => rfl
  | .int _, _, _ => rfl
  | .str x, h, _ => by
    rw [py, PyData.canLay0]
    rw [shOk] at h
    unfold PyData.strOk
    rw [← Array.all_toList]
    exact h
  | .tup xs, h, f => by
    rw [py, PyData.canLay0]
    rw [shOk] at h
    exact lays_of xs h (by simpa [flat] using f)
  | .lst xs, h, f => by
    rw [py, PyData.canLay0]
    rw [shOk] at h
    exact lays_of xs h (by simpa [flat] using f)
  | .slst xs, h, f => by
    rw [py, PyData.canLay0]
    rw [shOk] at h
    exact lays_of xs h (by simpa [flat] using f)
  | .dic _, _, f => by simp [flat] at f
  | .ref _, h, _ => by cases h
  | .ty _, h, _ => by cases h
  | .dtp _ _, h, _ => by cases h
  | .obj _ _ _, h, _ => by cases h
theorem lays_of : ∀ (xs : List D), shOks xs = true → flats xs = true → PyData.canLayAll0 (pys xs) = true
  | [], _, _ => by rw [pys]; rfl
  | x :: xs, h, f => by
    rw [shOks] at h
    have h' : shOk x = true ∧ shOks xs = true := by simpa using h
    have f' : flat x = true ∧ flats xs = true := by simpa [flats] using f
    rw [pys, PyData.canLayAll0, lay_of x h'.1 f'.1, lays_of xs h'.2 f'.2]
    rfl
end
mutual
theorem dep_of : ∀ (d : D), shOk d = true → flat d = true → (py d).depth = dep d
  | .non, _, _ => rfl
  | .bl _, _, _ => rfl
  | .int _, _, _ => rfl
  | .str x, _, _ => rfl
  | .tup xs, h, f => by
    rw [py, PyData.depth, dep, deps_of xs (by rw [shOk] at h; exact h) (by simpa [flat] using f)]
  | .lst xs, h, f => by
    rw [py, PyData.depth, dep, deps_of xs (by rw [shOk] at h; exact h) (by simpa [flat] using f)]
  | .slst xs, h, f => by
    rw [py, PyData.depth, dep, deps_of xs (by rw [shOk] at h; exact h) (by simpa [flat] using f)]
  | .dic _, _, f => by simp [flat] at f
  | .ref _, h, _ => by cases h
  | .ty _, h, _ => by cases h
  | .dtp _ _, h, _ => by cases h
  | .obj _ _ _, h, _ => by cases h
theorem deps_of : ∀ (xs : List D), shOks xs = true → flats xs = true → PyData.depthAll (pys xs) = deps xs
  | [], _, _ => by rw [pys]; rfl
  | x :: xs, h, f => by
    rw [shOks] at h
    have h' : shOk x = true ∧ shOks xs = true := by simpa using h
    have f' : flat x = true ∧ flats xs = true := by simpa [flats] using f
    rw [pys, PyData.depthAll, deps, dep_of x h'.1 f'.1, deps_of xs h'.2 f'.2]
end
theorem Itm.ok {c k : Nat} {d : D} (h : Itm c k d) (hk : k ≤ 64) (f : flat d = true) : okD d = true := by
  unfold okD SeqAt.shaped
  rw [f, lay_of d h.sh f, dep_of d h.sh f, decide_eq_true (Nat.le_trans h.dp hk)]
  rfl
theorem flats_str : ∀ a : List Str, flats (a.map .str) = true
  | [] => rfl
  | x :: a => by rw [List.map_cons, flats, flats_str a]; rfl
theorem flats_tS : ∀ a : List (List Str), flats (a.map tS) = true
  | [] => rfl
  | x :: a => by
    rw [List.map_cons, flats, flats_tS a]
    have : flat (tS x) = true := by unfold tS; rw [flat]; exact flats_str x
    rw [this]
    rfl
/-- a row of texts, of a size -/
structure Wd (n k : Nat) (w : List Str) : Prop where
  len : w.length ≤ n
  all : ∀ x ∈ w, sOk x ∧ x.length ≤ k
theorem Wd.itl {n k : Nat} {w : List Str} (h : Wd n k w) : Itl (n * (10 * k + 6)) 0 (w.map .str) := by
  refine Itl.all (c := 10 * k + 4) (fun d hd => ?_) (by rw [List.length_map]; exact h.len)
  obtain ⟨x, hx, rfl⟩ := List.mem_map.mp hd
  obtain ⟨a, b⟩ := h.all x hx
  exact (Itm.ofStr a).mono (by omega) (Nat.le_refl _)
theorem Wd.itm {n k : Nat} {w : List Str} (h : Wd n k w) : Itm (n * (10 * k + 6) + 3) 1 (tS w) := Itm.tup h.itl
theorem Wd.ok {n k : Nat} {w : List Str} (h : Wd n k w) : okD (tS w) = true := h.itm.ok (by decide) (by unfold tS; rw [flat]; exact flats_str w)
theorem Wd.mono {n k n' k' : Nat} {w : List Str} (h : Wd n k w) (hn : n ≤ n') (hk : k ≤ k') : Wd n' k' w := ⟨Nat.le_trans h.len hn, fun x hx => ⟨(h.all x hx).1, Nat.le_trans (h.all x hx).2 hk⟩⟩
theorem Wd.sub {n k n' : Nat} {w v : List Str} (h : Wd n k w) (hs : ∀ x ∈ v, x ∈ w) (hl : v.length ≤ n') : Wd n' k v := ⟨hl, fun x hx => h.all x (hs x hx)⟩
theorem rows_itl {n k m : Nat} {a : List (List Str)} (h : ∀ w ∈ a, Wd n k w) (hl : a.length ≤ m) : Itl (m * (n * (10 * k + 6) + 5)) 1 (a.map tS) := by
  refine Itl.all (c := n * (10 * k + 6) + 3) (fun d hd => ?_) (by rw [List.length_map]; exact hl)
  obtain ⟨x, hx, rfl⟩ := List.mem_map.mp hd
  exact (h x hx).itm
theorem rows_okL {n k m : Nat} {a : List (List Str)} (h : ∀ w ∈ a, Wd n k w) (hl : a.length ≤ m) : okD (.lst (a.map tS)) = true := (Itm.lst (rows_itl h hl)).ok (by decide) (by rw [flat]; exact flats_tS a)
theorem rows_okT {n k m : Nat} {a : List (List Str)} (h : ∀ w ∈ a, Wd n k w) (hl : a.length ≤ m) : okD (.tup (a.map tS)) = true := (Itm.tup (rows_itl h hl)).ok (by decide) (by rw [flat]; exact flats_tS a)
theorem cut_map {α : Type} {f : α → D} (w : List α) (lo hi : Option Int) : cutL (w.map f) lo hi = (cutL w lo hi).map f := by
  unfold cutL
  rw [List.length_map, List.map_take, List.map_drop]
end Fx

namespace Fx
open PySem PySem.Spec PyProof.Rows
/-! comprehensions that read what may change -/
def Kept (M M' : Mp) : Prop := ∀ b o, M b = some o → M' b = some o
theorem lc_pureK {T : TId} {t : Tg} {C : TTd} {E : TEd} {vs : List Nat} {ds : Ds} {M : Mp} {F : DK} {xs : List D} (keep : D → Bool) (v : D → D) (hl : xs.length ≤ 1000000) (hT : ∀ G : List D → Mp → Prop, G xs M → T ds M G)
    (he : ∀ d ∈ xs, gD t d (wipeD ds vs) fun ds2 => ∀ M', Kept M M' → (∀ (G : Bool → Mp → Prop), G (keep d) M' → C ds2 M' G) ∧ (keep d = true → ∀ (G : DK), G (v d) M' → E ds2 M' G))
    (hF : F (.lst ((xs.filter keep).map v)) M) : lcD T t C E vs ds M F := by
  refine hT _ fun L hL => ⟨fun i acc M' => acc = ((xs.take i).filter keep).map v ∧ M' = updM M L (.lst acc), ⟨rfl, rfl⟩, fun i d acc M' hd ⟨e1, e2⟩ => ?_, fun acc M' ⟨e1, e2⟩ => ?_⟩
  · have hi : i < xs.length := (List.getElem?_eq_some_iff.mp hd).1
    have hk' : Kept M M' := fun b o hb => by
      rw [e2, updM_ne fun z => by rw [z, hL] at hb; cases hb]
      exact hb
    have hlen : acc.length < 1000000 := by
      rw [e1, List.length_map]
      have h1 := List.length_filter_le keep (xs.take i)
      have h2 : (xs.take i).length ≤ i := by rw [List.length_take]; exact Nat.min_le_left _ _
      omega
    refine ⟨hlen, gD_mono t (fun ds2 hh => (hh M' hk').1 _ ?_) (he d (List.mem_of_getElem? hd))⟩
    have et : xs.take (i + 1) = xs.take i ++ [d] := by rw [List.take_add_one, hd]; rfl
    cases hk : keep d with
    | true =>
      refine (hh M' hk').2 hk _ ⟨by rw [e2]; exact updM_same, ?_, ?_⟩
      · rw [et, List.filter_append, List.map_append, ← e1, List.filter_cons, if_pos hk]
        rfl
      · rw [e2]
        funext b
        unfold updM
        split <;> rfl
    | false =>
      refine ⟨?_, e2⟩
      rw [et, List.filter_append, List.map_append, ← e1, List.filter_cons, if_neg (by rw [hk]; decide)]
      show _ = _ ++ []
      rw [List.append_nil]
  · rw [List.take_length] at e1
    refine ⟨by rw [e2]; exact updM_same, ?_⟩
    rw [e2, delM_upd hL, e1]
    exact hF
theorem lc_mapK {T : TId} {t : Tg} {E : TEd} {vs : List Nat} {ds : Ds} {M : Mp} {F : DK} {xs : List D} (v : D → D) (hl : xs.length ≤ 1000000) (hT : ∀ G : List D → Mp → Prop, G xs M → T ds M G)
    (he : ∀ d ∈ xs, gD t d (wipeD ds vs) fun ds2 => ∀ M', Kept M M' → ∀ (G : DK), G (v d) M' → E ds2 M' G)
    (hF : F (.lst (xs.map v)) M) : lcD T t yesD E vs ds M F :=
  lc_pureK (fun _ => true) v hl hT (fun d hd => gD_mono t (fun ds2 h M' k => ⟨fun G g => g, fun _ => h M' k⟩) (he d hd)) (by
    have e : xs.filter (fun _ => true) = xs := by simp
    rw [e]
    exact hF)
/-! texts as lists of signs -/
abbrev S (l : List Nat) : Str := ⟨l.toArray⟩
theorem S_tl (x : Str) : S x.cps.toList = x := TL.mk_tl x
theorem S_len (a : List Nat) : (S a).length = a.length := by simp [S, Str.length]
theorem S_cat (a b : List Nat) : S a ++ S b = S (a ++ b) := TL.ext_tl (TL.tl_append (S a) (S b))
theorem S_eq {a b : List Nat} : S a = S b ↔ a = b := ⟨fun h => congrArg (fun x : Str => x.cps.toList) h, fun h => by rw [h]⟩
theorem S_cps (a : List Nat) : (S a).cps.toList = a := rfl
theorem cutS_S (a : List Nat) (lo hi : Option Int) : L2.cutS (S a) lo hi = S (cutL a lo hi) := by
  unfold L2.cutS cutL
  have e : (S a).length = a.length := S_len a
  rw [e]
theorem rst_S (a : List Nat) (c : Nat) : Txt.rstripChars (S a) (S [c]) = S (a.reverse.dropWhile (· == c)).reverse := by
  unfold Txt.rstripChars
  rw [stripBy_eq]
  have e0 : stripLo ((S [c]).cps.contains) false (S a) = 0 := by simp [stripLo]
  rw [e0]
  have tk : ∀ l : List Nat, l.takeWhile (fun x => (S [c]).cps.contains x) = l.takeWhile (· == c) := by
    intro l
    congr 1
    funext x
    show #[c].contains x = _
    simp [Array.contains, eq_comm]
  have e1 : stripHi ((S [c]).cps.contains) true (S a) 0 = a.length - (a.reverse.takeWhile (· == c)).length := by
    unfold stripHi
    have e := tk a.reverse
    have e' : (List.takeWhile (S [c]).cps.contains (List.drop 0 (S a).cps.toList).reverse).length = (a.reverse.takeWhile (· == c)).length := congrArg List.length e
    simp only [if_true, S_len]
    rw [e']
  rw [e1]
  have l1 : (a.reverse.takeWhile (· == c)).length + (a.reverse.dropWhile (· == c)).length = a.length := by
    rw [← List.length_append, List.takeWhile_append_dropWhile, List.length_reverse]
  have e2 : (a.reverse.dropWhile (· == c)).reverse = a.take (a.length - (a.reverse.takeWhile (· == c)).length) := by
    have : a = (a.reverse.dropWhile (· == c)).reverse ++ (a.reverse.takeWhile (· == c)).reverse := by
      rw [← List.reverse_append, List.takeWhile_append_dropWhile, List.reverse_reverse]
    generalize (a.reverse.dropWhile (· == c)).reverse = p at *
    generalize hq : a.reverse.takeWhile (· == c) = q at *
    rw [this, List.length_append, List.length_reverse, Nat.add_sub_cancel, List.take_left']
    rfl
  rw [e2]
  refine TL.ext_tl ?_
  show (Builtin.Str.strSub (S a) 0 _).cps.toList = (a.take _)
  simp [Builtin.Str.strSub]
theorem mul_S (a : List Nat) (k : Int) : Txt.mul (S a) k = S (List.replicate k.toNat a).flatten := by
  unfold Txt.mul
  by_cases h : k < 1
  · rw [if_pos h]
    have : k.toNat = 0 := by omega
    rw [this]
    rfl
  · rw [if_neg h]
    split
    · next h2 =>
      rw [Bool.or_eq_true, beq_iff_eq, beq_iff_eq] at h2
      rcases h2 with h2 | h2
      · subst h2
        simp
      · rw [S_len] at h2
        have : a = [] := List.length_eq_zero_iff.mp h2
        subst this
        simp
    · refine TL.ext_tl ?_
      have key : ∀ (n : Nat) (acc : Array Nat), ((List.replicate n (S a).cps).foldl (· ++ ·) acc).toList = acc.toList ++ (List.replicate n a).flatten := by
        intro n
        induction n with
        | zero => intro acc; simp
        | succ n ih =>
          intro acc
          rw [List.replicate_succ, List.foldl_cons, ih, List.replicate_succ, List.flatten_cons]
          simp
      show ((List.replicate k.toNat (S a).cps).foldl (· ++ ·) #[]).toList = _
      rw [key]
      rfl
theorem revS_S (a : List Nat) : revS (S a) = S a.reverse := rfl
theorem ix_S {a : List Nat} {c : Nat} {K : Nat → Prop} (h : c ∈ a) (k : K (a.takeWhile (· != c)).length) : eIx (Builtin.Str.occurrences (S a) (S [c]) 0 (S a).length 1) K := by
  rcases StrLaws.occ_head (S a) (S [c]) 1 (Nat.le_refl _) with ⟨_, h2⟩ | ⟨i, r, h1, h2, h3⟩
  · obtain ⟨j, hj⟩ := List.mem_iff_getElem?.mp h
    exact absurd ((StrLaws.subAt_one (S a) c j).mpr hj) (h2 j)
  · rw [h1]
    show K i
    have e : (a.takeWhile (· != c)).length = i := by
      have hi : a[i]? = some c := (StrLaws.subAt_one (S a) c i).mp h2
      have hb : ∀ k, k < i → a[k]? ≠ some c := fun k hk z => h3 k hk ((StrLaws.subAt_one (S a) c k).mpr z)
      clear h1 h2 h3 k
      induction a generalizing i with
      | nil => simp at hi
      | cons x a ih =>
        by_cases e : x = c
        · subst e
          cases i with
          | zero => simp
          | succ i => exact absurd rfl (hb 0 (by omega))
        · cases i with
          | zero => simp at hi; exact absurd hi e
          | succ i =>
            rw [List.takeWhile_cons, if_pos (by simpa using e), List.length_cons, ih (i := i)]
            · rcases List.mem_cons.mp h with q | q
              · exact absurd q.symm e
              · exact q
            · simpa using hi
            · intro k hk
              have := hb (k + 1) (by omega)
              simpa using this
    rw [← e]
    exact k
theorem spl_S {a : List Nat} {c : Nat} (hc : c < 256) : Txt.split (S a) (S [c]) = (TL.spl [c] 0 [] a).map S := SX.split_S (by simp) (by simp [hc])
end Fx

namespace K43
open PySem PySem.Spec PyProof.Rows L2 Fx
def T_listed : TSd := (seqD (asgD (lstM nilD) (.nm 1)) (seqD (forD (seqI (vD 0)) (.nm 2) (dropD (bmD isLst extR (vD 1) (consD (lstD (consD (cD (.str ",")) (consD (vD 2) nilD))) nilD)))) (retD (drpD (sliM (vD 1) (someO (cD (.int 1))) noO)))))
def T_length_in : TSd := (retD (bltD sumR (consD (lcD (seqI (vD 0)) (.nm 2) yesD (ifE (tstD (isiD .str (vD 2))) (cD (.int 1)) (opD ixR (vD 1) (vD 2))) [2]) nilD)))
def T_l_hand : TSd := (seqD (parD 1 2 (consD (bltD listR (consD (sliD (vD 0) noO (someO (cD (.int 63)))) nilD)) (consD (cD (.int 98543)) nilD))) (seqD (forD (seqI (vD 1)) (.nm 3) (asgD (opD modR (opD addR2 (opD addR2 (opD mulR2 (vD 2) (cD (.int 40014))) (opD modR (vD 3) (cD (.int 2147483549)))) (cD (.int 47))) (cD (.int 2147483563))) (.nm 2))) (retD (dispD true ["cells", "mixed", "draws"] (consD (revM (vD 1)) (consD (vD 2) (consD (cD (.int 0)) nilD)))))))
def T_l_draw : TSd := (seqD (putS (vD 0) (cD (.str "draws")) (opD addR2 (opD ixR (vD 0) (cD (.str "draws"))) (cD (.int 1)))) (seqD (asgD (opD addR2 (opD ixR (vD 0) (cD (.str "mixed"))) (opD mulR2 (cD (.int 70067)) (opD ixR (vD 0) (cD (.str "draws"))))) (.nm 2)) (seqD (ifS (tstD (opD neR (opD ixR (vD 0) (cD (.str "cells"))) (lstD nilD))) (seqD (asgD (bm0D isLst popR (opD ixR (vD 0) (cD (.str "cells")))) (.nm 3)) (seqD (ifS (tstD (opD (ltR fun i j => decide (j ≤ i)) (vD 3) (opD powR (cD (.int 10)) (cD (.int 18))))) (seqD (dropD (bmD isLst appR (opD ixR (vD 0) (cD (.str "cells"))) (consD (opD fdivR (vD 3) (vD 1)) nilD))) (retD (opD modR (vD 3) (vD 1)))) nextD) (asgD (opD addR2 (vD 2) (vD 3)) (.nm 2)))) nextD) (seqD (asgD (opD modR (opD mulR2 (opD modR (vD 2) (cD (.int 2147483549))) (cD (.int 40692))) (cD (.int 2147483399))) (.nm 2)) (seqD (asgD (opD modR (opD addR2 (opD addR2 (opD mulR2 (vD 2) (vD 2)) (opD mulR2 (cD (.int 60091)) (opD ixR (vD 0) (cD (.str "draws"))))) (cD (.int 5))) (cD (.int 2147483563))) (.nm 2)) (retD (opD modR (opD fdivR (opD modR (opD mulR2 (vD 2) (cD (.int 39373))) (cD (.int 2147483549))) (cD (.int 32))) (vD 1))))))))
def T_l_between : TSd := (seqD (asgD (lstD nilD) (.nm 1)) (seqD (forD (enumI (consD (vD 0) nilD)) (.tp [(.nm 2), (.nm 3)]) (asgD (opD addR2 (opD addR2 (vD 1) (opD mulR2 (lstD (consD (cD (.str ",")) nilD)) (bltD intR (consD (opD (ltR fun i j => decide (j < i)) (vD 2) (cD (.int 0))) nilD)))) (vD 3)) (.nm 1))) (retD (vD 1))))
def T_l_size : TSd := (seqD (ifS (tstD (opD eqR (opD ixR (vD 0) (cD (.int 0))) (cD (.str "token")))) (retD (cD (.int 1))) nextD) (seqD (asgD (lcD (seqI (opD ixR (vD 0) (cD (.int 2)))) (.nm 3) yesD (opD ixR (vD 1) (vD 3)) [3]) (.nm 2)) (seqD (ifS (tstD (opD eqR (opD ixR (vD 0) (cD (.int 0))) (cD (.str "operator")))) (retD (opD addR2 (bltD sumR (consD (vD 2) nilD)) (cD (.int 3)))) nextD) (retD (opD addR2 (bltD sumR (consD (vD 2) nilD)) (ifE (tstD (opD eqR (opD ixR (vD 0) (cD (.int 0))) (cD (.str "call")))) (opD addR2 (cD (.int 2)) (bltD max2R (consD (cD (.int 1)) (consD (bltD lenR (consD (vD 2) nilD)) nilD)))) (opD addR2 (cD (.int 3)) (bltD max2R (consD (cD (.int 1)) (consD (opD subR (bltD lenR (consD (vD 2) nilD)) (cD (.int 1))) nilD))))))))))
def T_parts_of (R_listed : RD) : TSd := (seqD (ifS (tstD (opD eqR (opD ixR (vD 0) (cD (.int 0))) (cD (.str "token")))) (retD (lstD (consD (opD ixR (vD 0) (cD (.int 1))) nilD))) nextD) (seqD (asgD (vD 0) (.tp [(.nm 1), (.nm 2), (.nm 3)])) (seqD (ifS (tstD (opD eqR (vD 1) (cD (.str "call")))) (retD (lstD (consD (vD 2) (consD (cD (.str "(")) (starD (callD R_listed (consD (vD 3) nilD)) (consD (cD (.str ")")) nilD)))))) nextD) (seqD (ifS (tstD (opD eqR (vD 1) (cD (.str "method")))) (retD (lstD (consD (opD ixR (vD 3) (cD (.int 0))) (consD (cD (.str ".")) (consD (vD 2) (consD (cD (.str "(")) (starD (callD R_listed (consD (sliD (vD 3) (someO (cD (.int 1))) noO) nilD)) (consD (cD (.str ")")) nilD)))))))) nextD) (retD (lstD (consD (cD (.str "(")) (consD (opD ixR (vD 3) (cD (.int 0))) (consD (vD 2) (consD (opD ixR (vD 3) (cD (.int 1))) (consD (cD (.str ")")) nilD)))))))))))
def T_l_pick (R_l_draw : RD) : TSd := (retD (opD ixR (vD 1) (callD R_l_draw (consD (vD 0) (consD (bltD lenR (consD (vD 1) nilD)) nilD)))))
def T_l_written (R_l_between : RD) : TSd := (seqD (asgD (lstM nilD) (.nm 1)) (seqD (forD (seqI (vD 0)) (.nm 2) (seqD (ifS (tstD (opD eqR (opD ixR (vD 2) (cD (.int 0))) (cD (.str "token")))) (seqD (dropD (bmD isLst appR (vD 1) (consD (lstD (consD (opD ixR (vD 2) (cD (.int 1))) nilD)) nilD))) contD) nextD) (seqD (asgD (lcD (seqI (opD ixR (vD 2) (cD (.int 2)))) (.nm 4) yesD (opD ixR (vD 1) (vD 4)) [4]) (.nm 3)) (ifS (tstD (opD eqR (opD ixR (vD 2) (cD (.int 0))) (cD (.str "operator")))) (dropD (bmD isLst appR (vD 1) (consD (opD addR2 (opD addR2 (opD addR2 (opD addR2 (lstD (consD (cD (.str "(")) nilD)) (opD ixR (vD 3) (cD (.int 0)))) (lstD (consD (opD ixR (vD 2) (cD (.int 1))) nilD))) (opD ixR (vD 3) (cD (.int 1)))) (lstD (consD (cD (.str ")")) nilD))) nilD))) (ifS (tstD (opD eqR (opD ixR (vD 2) (cD (.int 0))) (cD (.str "call")))) (dropD (bmD isLst appR (vD 1) (consD (opD addR2 (opD addR2 (lstD (consD (opD ixR (vD 2) (cD (.int 1))) (consD (cD (.str "(")) nilD))) (callD R_l_between (consD (vD 3) nilD))) (lstD (consD (cD (.str ")")) nilD))) nilD))) (dropD (bmD isLst appR (vD 1) (consD (opD addR2 (opD addR2 (opD addR2 (opD ixR (vD 3) (cD (.int 0))) (lstD (consD (cD (.str ".")) (consD (opD ixR (vD 2) (cD (.int 1))) (consD (cD (.str "(")) nilD))))) (callD R_l_between (consD (sliD (vD 3) (someO (cD (.int 1))) noO) nilD))) (lstD (consD (cD (.str ")")) nilD))) nilD)))))))) (retD (frzD (vD 1)))))
def T_length_of (R_length_in : RD) (R_parts_of : RD) : TSd := (seqD (asgD (lstM nilD) (.nm 2)) (seqD (forD (seqI (vD 0)) (.nm 3) (dropD (bmD isLst appR (vD 2) (consD (callD R_length_in (consD (callD R_parts_of (consD (vD 3) nilD)) (consD (vD 2) nilD))) nilD)))) (retD (drpD (callD R_length_in (consD (vD 1) (consD (vD 2) nilD)))))))
def T_l_step (R_l_pick : RD) (R_l_draw : RD) : TSd := (seqD (asgD (callD R_l_pick (consD (vD 0) (consD (lstD (consD (cD (.str "token")) (consD (cD (.str "call")) (consD (cD (.str "method")) (consD (cD (.str "operator")) nilD))))) nilD))) (.nm 2)) (seqD (ifS (orT (tstD (opD eqR (vD 2) (cD (.str "token")))) (tstD (opD eqR (vD 1) (cD (.int 0))))) (retD (tupD (consD (cD (.str "token")) (consD (callD R_l_pick (consD (vD 0) (consD (lstD (consD (cD (.str "x")) (consD (cD (.str "0")) (consD (cD (.str "123456789")) (consD (cD (.str "\"\"")) (consD (cD (.str "\"a  z\"")) (consD (cD (.str "zzzzzzzz")) (consD (cD (.str "letx")) nilD)))))))) nilD))) nilD)))) nextD) (seqD (ifS (tstD (opD eqR (vD 2) (cD (.str "operator")))) (seqD (asgD (callD R_l_pick (consD (vD 0) (consD (lstD (consD (cD (.str "+")) (consD (cD (.str "-")) (consD (cD (.str "*")) (consD (cD (.str "/")) (consD (cD (.str "&")) (consD (cD (.str "|")) (consD (cD (.str "^")) nilD)))))))) nilD))) (.nm 3)) (retD (tupD (consD (vD 2) (consD (vD 3) (consD (tupD (consD (callD R_l_draw (consD (vD 0) (consD (vD 1) nilD))) (consD (callD R_l_draw (consD (vD 0) (consD (vD 1) nilD))) nilD))) nilD)))))) nextD) (seqD (asgD (ifE (tstD (opD eqR (vD 2) (cD (.str "call")))) (callD R_l_pick (consD (vD 0) (consD (lstD (consD (cD (.int 0)) (consD (cD (.int 1)) (consD (cD (.int 2)) (consD (cD (.int 3)) (consD (cD (.int 4)) nilD)))))) nilD))) (callD R_l_pick (consD (vD 0) (consD (lstD (consD (cD (.int 1)) (consD (cD (.int 1)) (consD (cD (.int 2)) (consD (cD (.int 3)) (consD (cD (.int 4)) nilD)))))) nilD)))) (.nm 4)) (seqD (asgD (bltD tupleR (consD (lcD (rngI (consD (vD 4) nilD)) (.nm 6) yesD (callD R_l_pick (consD (vD 0) (consD (lstD (consD (opD subR (vD 1) (cD (.int 1))) (consD (callD R_l_draw (consD (vD 0) (consD (vD 1) nilD))) nilD))) nilD))) [6]) nilD)) (.nm 5)) (retD (tupD (consD (vD 2) (consD (callD R_l_pick (consD (vD 0) (consD (lstD (consD (cD (.str "f")) (consD (cD (.str "call")) (consD (cD (.str "token")) (consD (cD (.str "g")) (consD (cD (.str "method")) nilD)))))) nilD))) (consD (vD 5) nilD))))))))))
def T_tokens_of (R_parts_of : RD) (R_length_of : RD) (W : WXd) : TSd := (seqD (asgD (callD R_length_of (consD (vD 0) (consD (vD 1) nilD))) (.nm 3)) (seqD (ifS (tstD (opD (ltR fun i j => decide (j < i)) (vD 3) (vD 2))) (raiseD "TooLong" "length" W (consD (vD 3) nilD)) nextD) (seqD (parD 4 5 (consD (lstM nilD) (consD (bltD listM (consD (revA (vD 1)) nilD)) nilD))) (seqD (whileD (tstD (opD neR (vD 5) (lstD nilD))) (seqD (asgD (bm0D isLst popR (vD 5)) (.nm 6)) (ifS (tstD (isiD .str (vD 6))) (dropD (bmD isLst appR (vD 4) (consD (vD 6) nilD))) (dropD (bmD isLst extR (vD 5) (consD (revA (callD R_parts_of (consD (opD ixR (vD 0) (vD 6)) nilD))) nilD)))))) (retD (drpD (drpD (bltD tupleR (consD (vD 4) nilD)))))))))
def T_l_rows (R_l_draw : RD) (R_l_size : RD) (R_l_step : RD) : TSd := (seqD (parD 1 2 (consD (lstM nilD) (consD (lstM nilD) nilD))) (seqD (forD (rngI (consD (opD addR2 (cD (.int 1)) (callD R_l_draw (consD (vD 0) (consD (cD (.int 12)) nilD)))) nilD)) (.nm 3) (seqD (asgD (callD R_l_step (consD (vD 0) (consD (bltD lenR (consD (vD 1) nilD)) nilD))) (.nm 4)) (ifS (tstD (opD leR2 (callD R_l_size (consD (vD 4) (consD (vD 2) nilD))) (cD (.int 600)))) (seqD (dropD (bmD isLst appR (vD 1) (consD (vD 4) nilD))) (dropD (bmD isLst appR (vD 2) (consD (callD R_l_size (consD (vD 4) (consD (vD 2) nilD))) nilD)))) nextD))) (retD (drpD (drpD (bltD tupleR (consD (vD 1) nilD)))))))
def T_l_heard (R_tokens_of : RX) : TSd := (seqD (asgD (cD .non) (.nm 3)) (seqD (tryD ["GapError", "TooLong"] "TooLong" 4 (fun W1 => (asgD (ifE (tstD (notND (vD 2))) (callKX R_tokens_of (kmix 2 1 [0, 1, 2]) W1 (consD (vD 0) (consD (vD 1) nilD)) (consD (vD 2) nilD)) (callKX R_tokens_of (kdef [D.int 2000]) W1 (consD (vD 0) (consD (vD 1) nilD)) nilD)) (.nm 3))) (fun a n d => (asgD (ifE (tstD (isXD ["GapError", "TooLong"] n "GapError" a d (vD 4))) (lstD (consD (xfD "TooLong" n a d "length" (vD 4)) nilD)) (lstD (consD (cD (.str "another error")) nilD))) (.nm 3))) (fun _ _ _ _ _ => False)) (retD (vD 3))))
def T_l_right (R_tokens_of : RX) (R_l_draw : RD) (R_l_heard : RD) (R_length_of : RD) (R_l_written : RD) : TSd := (seqD (par3D 3 4 5 (consD (callD R_l_written (consD (vD 1) nilD)) (consD (lstD nilD) (consD (bltD reprR (consD (lstD (consD (vD 1) (consD (vD 2) nilD))) nilD)) nilD)))) (seqD (forD (seqI (vD 2)) (.nm 6) (asgD (opD addR2 (vD 4) (ifE (tstD (isiD .str (vD 6))) (lstD (consD (vD 6) nilD)) (opD ixR (vD 3) (vD 6)))) (.nm 4))) (seqD (asgD (bltD lenR (consD (vD 4) nilD)) (.nm 7)) (seqD (ifS (tstD (opD neR (bltD reprR (consD (lstD (consD (callD R_length_of (consD (vD 1) (consD (vD 2) nilD))) (consD (callKD R_length_of kswap nilD (consD (vD 2) (consD (vD 1) nilD))) nilD))) nilD)) (bltD reprR (consD (lstD (consD (vD 7) (consD (vD 7) nilD))) nilD)))) (retD (cD (.bl false))) nextD) (seqD (forD (seqI (lstD (consD (vD 7) (consD (opD addR2 (vD 7) (callD R_l_draw (consD (vD 0) (consD (cD (.int 9)) nilD)))) (consD (bltD max2R (consD (cD (.int 0)) (consD (opD subR (vD 7) (cD (.int 1))) nilD))) (consD (cD (.int 0)) (consD (callD R_l_draw (consD (vD 0) (consD (cD (.int 20)) nilD))) (consD (cD .non) nilD)))))))) (.nm 8) (seqD (asgD (ifE (tstD (opD leR2 (vD 7) (ifE (tstD (isND (vD 8))) (cD (.int 2000)) (vD 8)))) (bltD reprR (consD (bltD tupleR (consD (vD 4) nilD)) nilD)) (bltD reprR (consD (lstD (consD (vD 7) nilD)) nilD))) (.nm 9)) (ifS (tstD (opD neR (bltD reprR (consD (callD R_l_heard (consD (vD 1) (consD (vD 2) (consD (vD 8) nilD)))) nilD)) (vD 9))) (retD (cD (.bl false))) nextD))) (seqD (ifS (tstD (opD neR (bltD reprR (consD (callKX R_tokens_of (kmix 0 3 [2, 1, 0]) (fun _ _ _ _ _ => False) nilD (consD (vD 7) (consD (vD 2) (consD (vD 1) nilD)))) nilD)) (bltD reprR (consD (bltD tupleR (consD (vD 4) nilD)) nilD)))) (retD (cD (.bl false))) nextD) (retD (opD eqR (bltD reprR (consD (lstD (consD (vD 1) (consD (vD 2) nilD))) nilD)) (vD 5)))))))))
def T_law (R_l_right : RD) (R_l_pick : RD) (R_l_draw : RD) (R_l_rows : RD) (R_l_hand : RD) : TSd := (seqD (asgD (callD R_l_hand (consD (vD 0) nilD)) (.nm 1)) (seqD (forD (rngI (consD (cD (.int 8)) nilD)) (.nm 2) (seqD (asgD (callD R_l_rows (consD (vD 1) nilD)) (.nm 3)) (seqD (parD 4 5 (consD (lstM nilD) (consD (lstD (consD (cD (.str "give")) (consD (cD (.str ";")) (consD (cD (.str "=")) (consD (cD (.str "if")) (consD (cD (.str "0")) (consD (cD (.str ")")) nilD))))))) nilD))) (seqD (forD (rngI (consD (callD R_l_pick (consD (vD 1) (consD (lstD (consD (cD (.int 0)) (consD (cD (.int 1)) (consD (cD (.int 1)) (consD (cD (.int 3)) (consD (cD (.int 8)) nilD)))))) nilD))) nilD)) (.nm 6) (dropD (bmD isLst appR (vD 4) (consD (callD R_l_pick (consD (vD 1) (consD (lstD (consD (callD R_l_draw (consD (vD 1) (consD (bltD lenR (consD (vD 3) nilD)) nilD))) (consD (callD R_l_pick (consD (vD 1) (consD (vD 5) nilD))) nilD))) nilD))) nilD)))) (ifS (orT (notT (tstD (callD R_l_right (consD (vD 1) (consD (vD 3) (consD (bltD tupleR (consD (vD 4) nilD)) nilD)))))) (notT (tstD (callD R_l_right (consD (vD 1) (consD (vD 3) (consD (tupD (consD (opD subR (bltD lenR (consD (vD 3) nilD)) (cD (.int 1))) nilD)) nilD))))))) (retD (cD (.bl false))) nextD))))) (retD (cD (.bl true)))))
end K43

namespace K43
open PySem Fx
/-! steps and what they stand for -/
inductive Stp where
  | tok (t : Str)
  | call (n : Str) (ns : List Nat)
  | meth (n : Str) (a : Nat) (ns : List Nat)
  | oper (n : Str) (a b : Nat)
abbrev Prt := Sum Str Nat
def sC : Str := ","
def sO : Str := "("
def sX : Str := ")"
def sP : Str := "."
def listed (ns : List Nat) : List Prt := (ns.flatMap fun n => [.inl sC, .inr n]).drop 1
def parts : Stp → List Prt
  | .tok t => [.inl t]
  | .call n ns => .inl n :: .inl sO :: (listed ns ++ [.inl sX])
  | .meth n a ns => .inr a :: .inl sP :: .inl n :: .inl sO :: (listed ns ++ [.inl sX])
  | .oper n a b => [.inl sO, .inr a, .inl n, .inr b, .inl sX]
def exP (fs : List (List Str)) : Prt → List Str
  | .inl t => [t]
  | .inr n => fs.getD n []
def exI (ps : List Prt) (fs : List (List Str)) : List Str := ps.flatMap (exP fs)
def lenP (ls : List Nat) : Prt → Nat
  | .inl _ => 1
  | .inr n => ls.getD n 0
def lenI (ps : List Prt) (ls : List Nat) : Nat := (ps.map (lenP ls)).sum
/-- a list built from its own beginning -/
def bld {β : Type} (f : Stp → List β → β) (rows : List Stp) : List β := rows.foldl (fun acc s => acc ++ [f s acc]) []
theorem bld_snoc {β : Type} (f : Stp → List β → β) (rows : List Stp) (s : Stp) : bld f (rows ++ [s]) = bld f rows ++ [f s (bld f rows)] := by
  unfold bld
  rw [List.foldl_append]
  rfl
theorem snoc_ind {α : Type} {P : List α → Prop} (h0 : P []) (hs : ∀ l a, P l → P (l ++ [a])) : ∀ l, P l := by
  intro l
  have : ∀ n (l : List α), l.length = n → P l := by
    intro n
    induction n with
    | zero => intro l hl; rw [List.length_eq_zero_iff.mp hl]; exact h0
    | succ n ih =>
      intro l hl
      rcases List.eq_nil_or_concat l with e | ⟨l', a, e⟩
      · subst e; exact h0
      · subst e
        rw [List.concat_eq_append] at hl ⊢
        rw [List.length_append, List.length_singleton] at hl
        exact hs _ _ (ih _ (by omega))
  exact this _ l rfl
theorem bld_len {β : Type} (f : Stp → List β → β) : ∀ rows : List Stp, (bld f rows).length = rows.length := by
  refine snoc_ind rfl fun l a ih => ?_
  rw [bld_snoc, List.length_append, List.length_append, ih]
  rfl
theorem bld_take {β : Type} (f : Stp → List β → β) : ∀ (rows : List Stp) (k : Nat), bld f (rows.take k) = (bld f rows).take k := by
  refine snoc_ind (fun k => by rw [List.take_nil]; show ([] : List β) = ([] : List β).take k; rw [List.take_nil]) fun l a ih k => ?_
  rcases Nat.lt_or_ge k (l.length + 1) with h | h
  · rw [List.take_append_of_le_length (by omega), ih, bld_snoc, List.take_append_of_le_length (by rw [bld_len]; omega)]
  · rw [List.take_of_length_le (by rw [List.length_append, List.length_singleton]; omega), List.take_of_length_le (by rw [bld_len, List.length_append, List.length_singleton]; omega)]
theorem bld_get {β : Type} (f : Stp → List β → β) {rows : List Stp} {i : Nat} {s : Stp} (h : rows[i]? = some s) : (bld f rows)[i]? = some (f s ((bld f rows).take i)) := by
  have hi := (List.getElem?_eq_some_iff.mp h).1
  have e : rows.take (i + 1) = rows.take i ++ [s] := by rw [List.take_add_one, h]; rfl
  have e2 := bld_take f rows (i + 1)
  rw [e, bld_snoc, bld_take] at e2
  have l1 : ((bld f rows).take i).length = i := by
    rw [List.length_take, bld_len]
    omega
  have e3 : ((bld f rows).take (i + 1))[i]? = some (f s ((bld f rows).take i)) := by
    rw [← e2, List.getElem?_append_right (by omega), l1, Nat.sub_self]
    rfl
  rw [List.getElem?_take_of_lt (Nat.lt_succ_self i)] at e3
  exact e3
/-- the numbers lie below k -/
def Val (k : Nat) (ps : List Prt) : Prop := ∀ n, Sum.inr n ∈ ps → n < k
structure Rws (rows : List Stp) : Prop where
  val : ∀ i s, rows[i]? = some s → Val i (parts s)
theorem exI_take {ps : List Prt} {fs : List (List Str)} {k : Nat} (h : Val k ps) : exI ps (fs.take k) = exI ps fs := by
  unfold exI
  induction ps with
  | nil => rfl
  | cons p ps ih =>
    rw [List.flatMap_cons, List.flatMap_cons, ih fun n hn => h n (List.mem_cons_of_mem _ hn)]
    congr 1
    cases p with
    | inl t => rfl
    | inr n =>
      have hn := h n List.mem_cons_self
      show (fs.take k).getD n [] = fs.getD n []
      rw [List.getD_eq_getElem?_getD, List.getD_eq_getElem?_getD, List.getElem?_take_of_lt hn]
theorem lenI_take {ps : List Prt} {fs : List Nat} {k : Nat} (h : Val k ps) : lenI ps (fs.take k) = lenI ps fs := by
  unfold lenI
  induction ps with
  | nil => rfl
  | cons p ps ih =>
    rw [List.map_cons, List.map_cons, List.sum_cons, List.sum_cons, ih fun n hn => h n (List.mem_cons_of_mem _ hn)]
    congr 1
    cases p with
    | inl t => rfl
    | inr n =>
      have hn := h n List.mem_cons_self
      show (fs.take k).getD n 0 = fs.getD n 0
      rw [List.getD_eq_getElem?_getD, List.getD_eq_getElem?_getD, List.getElem?_take_of_lt hn]
theorem lenI_ex (ps : List Prt) (fs : List (List Str)) : lenI ps (fs.map List.length) = (exI ps fs).length := by
  unfold lenI exI
  induction ps with
  | nil => rfl
  | cons p ps ih =>
    rw [List.map_cons, List.sum_cons, List.flatMap_cons, List.length_append, ih]
    congr 1
    cases p with
    | inl t => rfl
    | inr n =>
      show (fs.map List.length).getD n 0 = (fs.getD n []).length
      rw [List.getD_eq_getElem?_getD, List.getD_eq_getElem?_getD, List.getElem?_map]
      cases fs[n]? <;> rfl
def exs (rows : List Stp) : List (List Str) := bld (fun s fs => exI (parts s) fs) rows
def wts (rows : List Stp) : List Nat := bld (fun s ls => 1 + lenI (parts s) ls) rows
theorem exs_get {rows : List Stp} (h : Rws rows) {i : Nat} {s : Stp} (g : rows[i]? = some s) : (exs rows)[i]? = some (exI (parts s) (exs rows)) := by
  have := bld_get (fun s fs => exI (parts s) fs) g
  rw [exI_take (h.val i s g)] at this
  exact this
theorem wts_get {rows : List Stp} (h : Rws rows) {i : Nat} {s : Stp} (g : rows[i]? = some s) : (wts rows)[i]? = some (1 + lenI (parts s) (wts rows)) := by
  have := bld_get (fun s ls => 1 + lenI (parts s) ls) g
  rw [lenI_take (h.val i s g)] at this
  exact this
theorem exI_append (ps qs : List Prt) (fs : List (List Str)) : exI (ps ++ qs) fs = exI ps fs ++ exI qs fs := by unfold exI; rw [List.flatMap_append]
theorem lenI_append (ps qs : List Prt) (fs : List Nat) : lenI (ps ++ qs) fs = lenI ps fs + lenI qs fs := by unfold lenI; rw [List.map_append, List.sum_append]
theorem lenI_rev (ps : List Prt) (fs : List Nat) : lenI ps.reverse fs = lenI ps fs := by
  unfold lenI
  rw [List.map_reverse, List.sum_reverse]
/-- every step stands for some token -/
theorem parts_inl (s : Stp) : ∃ t, Sum.inl t ∈ parts s := by
  cases s with
  | tok t => exact ⟨t, List.mem_singleton.mpr rfl⟩
  | call n ns => exact ⟨n, List.mem_cons_self⟩
  | meth n a ns => exact ⟨sP, List.mem_cons_of_mem _ List.mem_cons_self⟩
  | oper n a b => exact ⟨sO, List.mem_cons_self⟩
theorem ex_pos {ps : List Prt} {fs : List (List Str)} {t : Str} (h : Sum.inl t ∈ ps) : 0 < (exI ps fs).length := by
  unfold exI
  refine List.length_pos_iff.mpr fun z => ?_
  have := List.flatMap_eq_nil_iff.mp z _ h
  cases this
theorem exs_pos {rows : List Stp} (h : Rws rows) {n : Nat} (hn : n < rows.length) : 0 < ((exs rows).getD n []).length := by
  obtain ⟨s, g⟩ : ∃ s, rows[n]? = some s := ⟨rows[n], by simp [hn]⟩
  rw [List.getD_eq_getElem?_getD, exs_get h g]
  obtain ⟨t, ht⟩ := parts_inl s
  exact ex_pos ht
theorem len_le_ex {rows : List Stp} (h : Rws rows) : ∀ {ps : List Prt}, Val rows.length ps → ps.length ≤ (exI ps (exs rows)).length
  | [], _ => Nat.zero_le _
  | p :: ps, v => by
    have ih := len_le_ex h (ps := ps) fun n hn => v n (List.mem_cons_of_mem _ hn)
    have e : exI (p :: ps) (exs rows) = exP (exs rows) p ++ exI ps (exs rows) := rfl
    rw [e, List.length_append, List.length_cons]
    have : 0 < (exP (exs rows) p).length := by
      cases p with
      | inl t => exact Nat.one_pos
      | inr n => exact exs_pos h (v n List.mem_cons_self)
    omega
/-! commas -/
def btw : List (List Str) → List Str
  | [] => []
  | a :: l => a ++ l.flatMap fun b => sC :: b
theorem ex_listed (ns : List Nat) (fs : List (List Str)) : exI (listed ns) fs = btw (ns.map fun n => fs.getD n []) := by
  cases ns with
  | nil => rfl
  | cons n ns =>
    unfold listed
    rw [List.flatMap_cons]
    show exI (.inr n :: ns.flatMap fun n => [.inl sC, .inr n]) fs = _
    have : ∀ ns : List Nat, exI (ns.flatMap fun n => [.inl sC, .inr n]) fs = (ns.map fun n => fs.getD n []).flatMap fun b => sC :: b := by
      intro ns
      induction ns with
      | nil => rfl
      | cons m ns ih =>
        rw [List.flatMap_cons, exI_append, ih, List.map_cons, List.flatMap_cons]
        congr 1
        unfold exI
        simp [exP]
    rw [List.map_cons, btw, ← this]
    rfl
theorem btw_snoc (l : List (List Str)) (a : List Str) : btw (l ++ [a]) = btw l ++ (if l = [] then [] else [sC]) ++ a := by
  cases l with
  | nil => simp [btw]
  | cons b l =>
    rw [List.cons_append, btw, btw, List.flatMap_append, if_neg (by simp)]
    simp
theorem btw_len (l : List (List Str)) : (btw l).length + 1 = (l.map List.length).sum + max 1 l.length := by
  cases l with
  | nil => rfl
  | cons a l =>
    have : ∀ l : List (List Str), (l.flatMap fun b => sC :: b).length = (l.map List.length).sum + l.length := by
      intro l
      induction l with
      | nil => rfl
      | cons b l ih => rw [List.flatMap_cons, List.length_append, ih, List.map_cons, List.sum_cons, List.length_cons, List.length_cons]; omega
    rw [btw, List.length_append, this, List.map_cons, List.sum_cons, List.length_cons]
    omega
end K43

namespace K43
open PySem L2 Fx
theorem rd_l_pick : ∀ ds M F, R_pick ds M F → T_l_pick R_draw { nx := fun _ M' => F .non M', rt := F } (startD 2 ds) M := by
  intro ds M F h
  unfold R_pick at h
  split at h
  · next h' xs =>
    obtain ⟨c, hd, h0, h1, hF⟩ := h
    simp only [T_l_pick, q_v, q_c, q_tup, q_lst, q_op, q_nil, q_cons, q_tst, q_tru, q_andT, q_orT, q_notT, q_andV, q_orV, q_notV, q_ifE, q_next, q_seq, q_asg, q_drop, q_ret, q_retN, q_ifS, q_par, q_isi, q_blt, q_call, q_callK, q_kid, q_kswap, q_chain, q_neg, q_isN, q_notN, q_noO, q_someO, q_sli, q_rev, q_revM, q_bm, q_bm0, q_m1, q_seqI, q_rng, q_rng2, q_enum, q_zip, q_gnm, q_gtp, q_gs0, q_gs1, q_yes, q_put, e_bl, e_int, e_str, e_lst, e_n_non, e_n_bl, e_n_int, e_n_str, e_n_tup, e_n_lst, e_n_slst, e_n_dic, e_n_ref, e_seq_l, e_seq_s, e_seq_t, e_seq_z, e_rev_l, e_rev_s, e_i1, e_i2, e_l1, e_l1s, e_l2, e_p2, e_sl, e_o, e_ob, e_on, e_ml, e_md, e_c, e_tru_b, e_tru_n, e_tru_i, e_tru_t, e_tru_l, t_str_non, t_tup_non, t_int_non, t_bool_non, t_lst_non, t_dict_non, t_str_bl, t_tup_bl, t_int_bl, t_bool_bl, t_lst_bl, t_dict_bl, t_str_int, t_tup_int, t_int_int, t_bool_int, t_lst_int, t_dict_int, t_str_str, t_tup_str, t_int_str, t_bool_str, t_lst_str, t_dict_str, t_str_tup, t_tup_tup, t_int_tup, t_bool_tup, t_lst_tup, t_dict_tup, t_str_lst, t_tup_lst, t_int_lst, t_bool_lst, t_lst_lst, t_dict_lst, t_str_dic, t_tup_dic, t_int_dic, t_bool_dic, t_lst_dic, t_dict_dic, r_add_i, r_add_s, r_add_t, r_add_l, r_sub, r_mul, r_mul_l, r_fdiv, r_mod, r_pow, r_lt, r_ix_l, r_ix_t, r_ix_s, r_ix_rl, r_ix_rd, r_sl_l, r_sl_sl, r_sl_t, r_sl_s, r_len_l, r_len_sl, r_len_t, r_len_s, r_len_r, r_all, r_any, r_tuple_l, r_tuple_sl, r_tuple_t, r_tuple_r, r_list_l, r_list_sl, r_list_t, r_list_r, r_ord, r_repr, r_pop, r_app, r_ext, r_join, r_join_t, r_isl_r, r_isl_l, r_in, r_put_d, r_put_l, r_eq_i, r_eq_s, r_ne_i, r_ne_s, r_eq_t0, r_ne_t0, r_eq_r0, r_ne_r0, r_eq_l0, r_ne_l0, q_lstM, q_frz, e_fz_r, e_fz_non, e_fz_bl, e_fz_int, e_fz_str, e_fz_tup, e_fz_lst, e_fz_dic, q_drp, q_zs, e_zs_tup_tup, e_zs_tup_lst, e_zs_tup_slst, e_zs_lst_tup, e_zs_lst_lst, e_zs_lst_slst, e_zs_slst_tup, e_zs_slst_lst, e_zs_slst_slst, r_mem_s, r_mem_t, r_mem_l, r_int_i, r_int_b, r_listM_l, r_listM_sl, r_listM_t, r_start, wipeD, br_not, br_true, br_false, br_dec, List.map_cons, List.map_nil, List.length_cons, List.length_nil, List.replicate_succ, List.replicate_zero, List.cons_append, List.nil_append, List.getElem?_cons_zero, List.getElem?_cons_succ, List.getElem?_nil, List.set_cons_zero, List.set_cons_succ, Nat.reduceAdd, Nat.reduceSub, Nat.reduceLeDiff, Nat.zero_add, updM_same, true_and, List.isEmpty_nil, List.isEmpty_cons, Bool.not_true, Bool.not_false, Bool.not_not, q_revA, e_ra_l, e_ra_s, e_ra_t, e_ra_z, q_star, e_st_l, e_st_s, e_st_t, q_par3, e_p3, q_cont, r_mul2_i, r_mul2_l, r_mul2_s, r_le2_i, r_le2_s, r_lt2_i, r_lt2_s, r_sum, r_max2, r_min2, r_rst, r_spl, r_six, q_callX, q_callKX, q_raise, e_d1, q_try, q_tryW, q_xf, q_isX, e_cau, r_add2_i, r_add2_s, r_add2_t, r_add2_l, r_add2_rl, r_add2_lr, q_sliM, r_slM, q_kdef, q_mix21, q_mix03]
    refine ⟨c, hd, by omega, by omega, fun r M' r0 r1 hd' o => ?_⟩
    obtain ⟨d, e, m⟩ := atI_mem r0 r1
    simp only [r_ix_l, e, e_o]
    exact hF d M' m hd' o
  · exact h.elim
theorem rd_l_draw : ∀ ds M F, R_draw ds M F → T_l_draw { nx := fun _ M' => F .non M', rt := F } (startD 4 ds) M := by
  intro ds M F h
  unfold R_draw at h
  split at h
  · next h' many =>
    obtain ⟨c, hd, h0, h1, hF⟩ := h
    have ne := hd.ne
    obtain ⟨cells, m, n, e1, e2, m0, m1, n0, cl⟩ := hd
    have fin : ∀ (x : Int) (cs : List Int) (M' : Mp), M' h' = some (.dic [(.inr "cells", .ref c), (.inr "mixed", .int m), (.inr "draws", .int (n + 1))]) → M' c = some (.lst (cs.map D.int)) → cs.length ≤ 63 → Oth h' c M M' → F (.int (x % many)) M' := fun x cs M' a1 a2 a3 o =>
      hF _ _ (Int.emod_nonneg _ (by omega)) (Int.emod_lt_of_pos _ h0) ⟨cs, m, n + 1, a1, a2, m0, m1, by omega, a3⟩ o
    simp only [T_l_draw, q_v, q_c, q_tup, q_lst, q_op, q_nil, q_cons, q_tst, q_tru, q_andT, q_orT, q_notT, q_andV, q_orV, q_notV, q_ifE, q_next, q_seq, q_asg, q_drop, q_ret, q_retN, q_ifS, q_par, q_isi, q_blt, q_call, q_callK, q_kid, q_kswap, q_chain, q_neg, q_isN, q_notN, q_noO, q_someO, q_sli, q_rev, q_revM, q_bm, q_bm0, q_m1, q_seqI, q_rng, q_rng2, q_enum, q_zip, q_gnm, q_gtp, q_gs0, q_gs1, q_yes, q_put, e_bl, e_int, e_str, e_lst, e_n_non, e_n_bl, e_n_int, e_n_str, e_n_tup, e_n_lst, e_n_slst, e_n_dic, e_n_ref, e_seq_l, e_seq_s, e_seq_t, e_seq_z, e_rev_l, e_rev_s, e_i1, e_i2, e_l1, e_l1s, e_l2, e_p2, e_sl, e_o, e_ob, e_on, e_ml, e_md, e_c, e_tru_b, e_tru_n, e_tru_i, e_tru_t, e_tru_l, t_str_non, t_tup_non, t_int_non, t_bool_non, t_lst_non, t_dict_non, t_str_bl, t_tup_bl, t_int_bl, t_bool_bl, t_lst_bl, t_dict_bl, t_str_int, t_tup_int, t_int_int, t_bool_int, t_lst_int, t_dict_int, t_str_str, t_tup_str, t_int_str, t_bool_str, t_lst_str, t_dict_str, t_str_tup, t_tup_tup, t_int_tup, t_bool_tup, t_lst_tup, t_dict_tup, t_str_lst, t_tup_lst, t_int_lst, t_bool_lst, t_lst_lst, t_dict_lst, t_str_dic, t_tup_dic, t_int_dic, t_bool_dic, t_lst_dic, t_dict_dic, r_add_i, r_add_s, r_add_t, r_add_l, r_sub, r_mul, r_mul_l, r_fdiv, r_mod, r_pow, r_lt, r_ix_l, r_ix_t, r_ix_s, r_ix_rl, r_ix_rd, r_sl_l, r_sl_sl, r_sl_t, r_sl_s, r_len_l, r_len_sl, r_len_t, r_len_s, r_len_r, r_all, r_any, r_tuple_l, r_tuple_sl, r_tuple_t, r_tuple_r, r_list_l, r_list_sl, r_list_t, r_list_r, r_ord, r_repr, r_pop, r_app, r_ext, r_join, r_join_t, r_isl_r, r_isl_l, r_in, r_put_d, r_put_l, r_eq_i, r_eq_s, r_ne_i, r_ne_s, r_eq_t0, r_ne_t0, r_eq_r0, r_ne_r0, r_eq_l0, r_ne_l0, q_lstM, q_frz, e_fz_r, e_fz_non, e_fz_bl, e_fz_int, e_fz_str, e_fz_tup, e_fz_lst, e_fz_dic, q_drp, q_zs, e_zs_tup_tup, e_zs_tup_lst, e_zs_tup_slst, e_zs_lst_tup, e_zs_lst_lst, e_zs_lst_slst, e_zs_slst_tup, e_zs_slst_lst, e_zs_slst_slst, r_mem_s, r_mem_t, r_mem_l, r_int_i, r_int_b, r_listM_l, r_listM_sl, r_listM_t, r_start, wipeD, br_not, br_true, br_false, br_dec, List.map_cons, List.map_nil, List.length_cons, List.length_nil, List.replicate_succ, List.replicate_zero, List.cons_append, List.nil_append, List.getElem?_cons_zero, List.getElem?_cons_succ, List.getElem?_nil, List.set_cons_zero, List.set_cons_succ, Nat.reduceAdd, Nat.reduceSub, Nat.reduceLeDiff, Nat.zero_add, updM_same, true_and, List.isEmpty_nil, List.isEmpty_cons, Bool.not_true, Bool.not_false, Bool.not_not, q_revA, e_ra_l, e_ra_s, e_ra_t, e_ra_z, q_star, e_st_l, e_st_s, e_st_t, q_par3, e_p3, q_cont, r_mul2_i, r_mul2_l, r_mul2_s, r_le2_i, r_le2_s, r_lt2_i, r_lt2_s, r_sum, r_max2, r_min2, r_rst, r_spl, r_six, q_callX, q_callKX, q_raise, e_d1, q_try, q_tryW, q_xf, q_isX, e_cau, r_add2_i, r_add2_s, r_add2_t, r_add2_l, r_add2_rl, r_add2_lr, q_sliM, r_slM, q_kdef, q_mix21, q_mix03, e1, val_draws, put_draws, val_mixed, val_cells, updM_ne (Ne.symm ne), e2]
    refine ⟨by decide, .inl (by decide), ?_⟩
    rcases List.eq_nil_or_concat cells with rfl | ⟨cs, x, rfl⟩
    · simp only [List.map_nil, List.isEmpty_nil, Bool.not_true, br_false]
      repeat (refine ⟨by omega, ?_⟩)
      exact fin _ [] _ updM_same ((updM_ne (Ne.symm ne)).trans e2) (by decide) fun b hb _ => updM_ne hb
    · have cl' : cs.length + 1 ≤ 63 := by simpa using cl
      have t1 : ((cs.concat x).map D.int).isEmpty = false := by simp
      have t2 : ((cs.concat x).map D.int).getLast? = some (.int x) := by simp
      have t3 : ((cs.concat x).map D.int).dropLast = cs.map D.int := by simp
      simp only [t1, t2, t3, Bool.not_false, q_v, q_c, q_tup, q_lst, q_op, q_nil, q_cons, q_tst, q_tru, q_andT, q_orT, q_notT, q_andV, q_orV, q_notV, q_ifE, q_next, q_seq, q_asg, q_drop, q_ret, q_retN, q_ifS, q_par, q_isi, q_blt, q_call, q_callK, q_kid, q_kswap, q_chain, q_neg, q_isN, q_notN, q_noO, q_someO, q_sli, q_rev, q_revM, q_bm, q_bm0, q_m1, q_seqI, q_rng, q_rng2, q_enum, q_zip, q_gnm, q_gtp, q_gs0, q_gs1, q_yes, q_put, e_bl, e_int, e_str, e_lst, e_n_non, e_n_bl, e_n_int, e_n_str, e_n_tup, e_n_lst, e_n_slst, e_n_dic, e_n_ref, e_seq_l, e_seq_s, e_seq_t, e_seq_z, e_rev_l, e_rev_s, e_i1, e_i2, e_l1, e_l1s, e_l2, e_p2, e_sl, e_o, e_ob, e_on, e_ml, e_md, e_c, e_tru_b, e_tru_n, e_tru_i, e_tru_t, e_tru_l, t_str_non, t_tup_non, t_int_non, t_bool_non, t_lst_non, t_dict_non, t_str_bl, t_tup_bl, t_int_bl, t_bool_bl, t_lst_bl, t_dict_bl, t_str_int, t_tup_int, t_int_int, t_bool_int, t_lst_int, t_dict_int, t_str_str, t_tup_str, t_int_str, t_bool_str, t_lst_str, t_dict_str, t_str_tup, t_tup_tup, t_int_tup, t_bool_tup, t_lst_tup, t_dict_tup, t_str_lst, t_tup_lst, t_int_lst, t_bool_lst, t_lst_lst, t_dict_lst, t_str_dic, t_tup_dic, t_int_dic, t_bool_dic, t_lst_dic, t_dict_dic, r_add_i, r_add_s, r_add_t, r_add_l, r_sub, r_mul, r_mul_l, r_fdiv, r_mod, r_pow, r_lt, r_ix_l, r_ix_t, r_ix_s, r_ix_rl, r_ix_rd, r_sl_l, r_sl_sl, r_sl_t, r_sl_s, r_len_l, r_len_sl, r_len_t, r_len_s, r_len_r, r_all, r_any, r_tuple_l, r_tuple_sl, r_tuple_t, r_tuple_r, r_list_l, r_list_sl, r_list_t, r_list_r, r_ord, r_repr, r_pop, r_app, r_ext, r_join, r_join_t, r_isl_r, r_isl_l, r_in, r_put_d, r_put_l, r_eq_i, r_eq_s, r_ne_i, r_ne_s, r_eq_t0, r_ne_t0, r_eq_r0, r_ne_r0, r_eq_l0, r_ne_l0, q_lstM, q_frz, e_fz_r, e_fz_non, e_fz_bl, e_fz_int, e_fz_str, e_fz_tup, e_fz_lst, e_fz_dic, q_drp, q_zs, e_zs_tup_tup, e_zs_tup_lst, e_zs_tup_slst, e_zs_lst_tup, e_zs_lst_lst, e_zs_lst_slst, e_zs_slst_tup, e_zs_slst_lst, e_zs_slst_slst, r_mem_s, r_mem_t, r_mem_l, r_int_i, r_int_b, r_listM_l, r_listM_sl, r_listM_t, r_start, wipeD, br_not, br_true, br_false, br_dec, List.map_cons, List.map_nil, List.length_cons, List.length_nil, List.replicate_succ, List.replicate_zero, List.cons_append, List.nil_append, List.getElem?_cons_zero, List.getElem?_cons_succ, List.getElem?_nil, List.set_cons_zero, List.set_cons_succ, Nat.reduceAdd, Nat.reduceSub, Nat.reduceLeDiff, Nat.zero_add, updM_same, true_and, List.isEmpty_nil, List.isEmpty_cons, Bool.not_true, Bool.not_false, Bool.not_not, q_revA, e_ra_l, e_ra_s, e_ra_t, e_ra_z, q_star, e_st_l, e_st_s, e_st_t, q_par3, e_p3, q_cont, r_mul2_i, r_mul2_l, r_mul2_s, r_le2_i, r_le2_s, r_lt2_i, r_lt2_s, r_sum, r_max2, r_min2, r_rst, r_spl, r_six, q_callX, q_callKX, q_raise, e_d1, q_try, q_tryW, q_xf, q_isX, e_cau, r_add2_i, r_add2_s, r_add2_t, r_add2_l, r_add2_rl, r_add2_lr, q_sliM, r_slM, q_kdef, q_mix21, q_mix03, updM_ne ne, val_cells, val_draws]
      refine ⟨by decide, fun _ => ?_, fun _ => ?_⟩
      · refine ⟨⟨h0, h1⟩, by rw [List.length_map]; omega, h0, ?_⟩
        refine fin _ (cs ++ [x / many]) _ ?_ ?_ (by rw [List.length_append, List.length_cons, List.length_nil]; omega) fun b hb hc => ?_
        · rw [updM_ne ne, updM_ne ne, updM_same]
        · rw [updM_same, List.map_append]
          rfl
        · rw [updM_ne hc, updM_ne hc, updM_ne hb]
      · repeat (refine ⟨by omega, ?_⟩)
        refine fin _ cs _ ?_ updM_same (by omega) fun b hb hc => ?_
        · rw [updM_ne ne, updM_same]
        · rw [updM_ne hc, updM_ne hb]
  · exact h.elim
theorem rd_l_hand : ∀ ds M F, R_hand ds M F → T_l_hand { nx := fun _ M' => F .non M', rt := F } (startD 4 ds) M := by
  intro ds M F h
  unfold R_hand at h
  split at h
  · next xs =>
    obtain ⟨ns, rfl, hl, hF⟩ := h
    have ec : cutL (ns.map D.int) none (some 63) = ns.map D.int := cut_all rfl (by
      show min 63 _ = _
      rw [List.length_map]
      omega)
    simp only [T_l_hand, q_v, q_c, q_tup, q_lst, q_op, q_nil, q_cons, q_tst, q_tru, q_andT, q_orT, q_notT, q_andV, q_orV, q_notV, q_ifE, q_next, q_seq, q_asg, q_drop, q_ret, q_retN, q_ifS, q_par, q_isi, q_blt, q_call, q_callK, q_kid, q_kswap, q_chain, q_neg, q_isN, q_notN, q_noO, q_someO, q_sli, q_rev, q_revM, q_bm, q_bm0, q_m1, q_seqI, q_rng, q_rng2, q_enum, q_zip, q_gnm, q_gtp, q_gs0, q_gs1, q_yes, q_put, e_bl, e_int, e_str, e_lst, e_n_non, e_n_bl, e_n_int, e_n_str, e_n_tup, e_n_lst, e_n_slst, e_n_dic, e_n_ref, e_seq_l, e_seq_s, e_seq_t, e_seq_z, e_rev_l, e_rev_s, e_i1, e_i2, e_l1, e_l1s, e_l2, e_p2, e_sl, e_o, e_ob, e_on, e_ml, e_md, e_c, e_tru_b, e_tru_n, e_tru_i, e_tru_t, e_tru_l, t_str_non, t_tup_non, t_int_non, t_bool_non, t_lst_non, t_dict_non, t_str_bl, t_tup_bl, t_int_bl, t_bool_bl, t_lst_bl, t_dict_bl, t_str_int, t_tup_int, t_int_int, t_bool_int, t_lst_int, t_dict_int, t_str_str, t_tup_str, t_int_str, t_bool_str, t_lst_str, t_dict_str, t_str_tup, t_tup_tup, t_int_tup, t_bool_tup, t_lst_tup, t_dict_tup, t_str_lst, t_tup_lst, t_int_lst, t_bool_lst, t_lst_lst, t_dict_lst, t_str_dic, t_tup_dic, t_int_dic, t_bool_dic, t_lst_dic, t_dict_dic, r_add_i, r_add_s, r_add_t, r_add_l, r_sub, r_mul, r_mul_l, r_fdiv, r_mod, r_pow, r_lt, r_ix_l, r_ix_t, r_ix_s, r_ix_rl, r_ix_rd, r_sl_l, r_sl_sl, r_sl_t, r_sl_s, r_len_l, r_len_sl, r_len_t, r_len_s, r_len_r, r_all, r_any, r_tuple_l, r_tuple_sl, r_tuple_t, r_tuple_r, r_list_l, r_list_sl, r_list_t, r_list_r, r_ord, r_repr, r_pop, r_app, r_ext, r_join, r_join_t, r_isl_r, r_isl_l, r_in, r_put_d, r_put_l, r_eq_i, r_eq_s, r_ne_i, r_ne_s, r_eq_t0, r_ne_t0, r_eq_r0, r_ne_r0, r_eq_l0, r_ne_l0, q_lstM, q_frz, e_fz_r, e_fz_non, e_fz_bl, e_fz_int, e_fz_str, e_fz_tup, e_fz_lst, e_fz_dic, q_drp, q_zs, e_zs_tup_tup, e_zs_tup_lst, e_zs_tup_slst, e_zs_lst_tup, e_zs_lst_lst, e_zs_lst_slst, e_zs_slst_tup, e_zs_slst_lst, e_zs_slst_slst, r_mem_s, r_mem_t, r_mem_l, r_int_i, r_int_b, r_listM_l, r_listM_sl, r_listM_t, r_start, wipeD, br_not, br_true, br_false, br_dec, List.map_cons, List.map_nil, List.length_cons, List.length_nil, List.replicate_succ, List.replicate_zero, List.cons_append, List.nil_append, List.getElem?_cons_zero, List.getElem?_cons_succ, List.getElem?_nil, List.set_cons_zero, List.set_cons_succ, Nat.reduceAdd, Nat.reduceSub, Nat.reduceLeDiff, Nat.zero_add, updM_same, true_and, List.isEmpty_nil, List.isEmpty_cons, Bool.not_true, Bool.not_false, Bool.not_not, q_revA, e_ra_l, e_ra_s, e_ra_t, e_ra_z, q_star, e_st_l, e_st_s, e_st_t, q_par3, e_p3, q_cont, r_mul2_i, r_mul2_l, r_mul2_s, r_le2_i, r_le2_s, r_lt2_i, r_lt2_s, r_sum, r_max2, r_min2, r_rst, r_spl, r_six, q_callX, q_callKX, q_raise, e_d1, q_try, q_tryW, q_xf, q_isX, e_cau, r_add2_i, r_add2_s, r_add2_t, r_add2_l, r_add2_rl, r_add2_lr, q_sliM, r_slM, q_kdef, q_mix21, q_mix03, forD, ec]
    refine ⟨fun i ds' M' => M' = M ∧ ∃ m x, ds' = [some (D.slst (ns.map D.int)), some (.lst (ns.map D.int)), some (.int m), x] ∧ 0 ≤ m ∧ m < 2147483563, ⟨rfl, 98543, none, rfl, by decide, by decide⟩, fun i d ds' M' hd hw => ?_, fun ds' M' hw => ?_⟩
    · obtain ⟨rfl, m, x, rfl, m0, m1⟩ := hw
      rw [List.getElem?_map] at hd
      cases e : ns[i]? with
      | none => rw [e] at hd; cases hd
      | some k =>
        rw [e] at hd
        cases hd
        simp only [q_v, q_c, q_tup, q_lst, q_op, q_nil, q_cons, q_tst, q_tru, q_andT, q_orT, q_notT, q_andV, q_orV, q_notV, q_ifE, q_next, q_seq, q_asg, q_drop, q_ret, q_retN, q_ifS, q_par, q_isi, q_blt, q_call, q_callK, q_kid, q_kswap, q_chain, q_neg, q_isN, q_notN, q_noO, q_someO, q_sli, q_rev, q_revM, q_bm, q_bm0, q_m1, q_seqI, q_rng, q_rng2, q_enum, q_zip, q_gnm, q_gtp, q_gs0, q_gs1, q_yes, q_put, e_bl, e_int, e_str, e_lst, e_n_non, e_n_bl, e_n_int, e_n_str, e_n_tup, e_n_lst, e_n_slst, e_n_dic, e_n_ref, e_seq_l, e_seq_s, e_seq_t, e_seq_z, e_rev_l, e_rev_s, e_i1, e_i2, e_l1, e_l1s, e_l2, e_p2, e_sl, e_o, e_ob, e_on, e_ml, e_md, e_c, e_tru_b, e_tru_n, e_tru_i, e_tru_t, e_tru_l, t_str_non, t_tup_non, t_int_non, t_bool_non, t_lst_non, t_dict_non, t_str_bl, t_tup_bl, t_int_bl, t_bool_bl, t_lst_bl, t_dict_bl, t_str_int, t_tup_int, t_int_int, t_bool_int, t_lst_int, t_dict_int, t_str_str, t_tup_str, t_int_str, t_bool_str, t_lst_str, t_dict_str, t_str_tup, t_tup_tup, t_int_tup, t_bool_tup, t_lst_tup, t_dict_tup, t_str_lst, t_tup_lst, t_int_lst, t_bool_lst, t_lst_lst, t_dict_lst, t_str_dic, t_tup_dic, t_int_dic, t_bool_dic, t_lst_dic, t_dict_dic, r_add_i, r_add_s, r_add_t, r_add_l, r_sub, r_mul, r_mul_l, r_fdiv, r_mod, r_pow, r_lt, r_ix_l, r_ix_t, r_ix_s, r_ix_rl, r_ix_rd, r_sl_l, r_sl_sl, r_sl_t, r_sl_s, r_len_l, r_len_sl, r_len_t, r_len_s, r_len_r, r_all, r_any, r_tuple_l, r_tuple_sl, r_tuple_t, r_tuple_r, r_list_l, r_list_sl, r_list_t, r_list_r, r_ord, r_repr, r_pop, r_app, r_ext, r_join, r_join_t, r_isl_r, r_isl_l, r_in, r_put_d, r_put_l, r_eq_i, r_eq_s, r_ne_i, r_ne_s, r_eq_t0, r_ne_t0, r_eq_r0, r_ne_r0, r_eq_l0, r_ne_l0, q_lstM, q_frz, e_fz_r, e_fz_non, e_fz_bl, e_fz_int, e_fz_str, e_fz_tup, e_fz_lst, e_fz_dic, q_drp, q_zs, e_zs_tup_tup, e_zs_tup_lst, e_zs_tup_slst, e_zs_lst_tup, e_zs_lst_lst, e_zs_lst_slst, e_zs_slst_tup, e_zs_slst_lst, e_zs_slst_slst, r_mem_s, r_mem_t, r_mem_l, r_int_i, r_int_b, r_listM_l, r_listM_sl, r_listM_t, r_start, wipeD, br_not, br_true, br_false, br_dec, List.map_cons, List.map_nil, List.length_cons, List.length_nil, List.replicate_succ, List.replicate_zero, List.cons_append, List.nil_append, List.getElem?_cons_zero, List.getElem?_cons_succ, List.getElem?_nil, List.set_cons_zero, List.set_cons_succ, Nat.reduceAdd, Nat.reduceSub, Nat.reduceLeDiff, Nat.zero_add, updM_same, true_and, List.isEmpty_nil, List.isEmpty_cons, Bool.not_true, Bool.not_false, Bool.not_not, q_revA, e_ra_l, e_ra_s, e_ra_t, e_ra_z, q_star, e_st_l, e_st_s, e_st_t, q_par3, e_p3, q_cont, r_mul2_i, r_mul2_l, r_mul2_s, r_le2_i, r_le2_s, r_lt2_i, r_lt2_s, r_sum, r_max2, r_min2, r_rst, r_spl, r_six, q_callX, q_callKX, q_raise, e_d1, q_try, q_tryW, q_xf, q_isX, e_cau, r_add2_i, r_add2_s, r_add2_t, r_add2_l, r_add2_rl, r_add2_lr, q_sliM, r_slM, q_kdef, q_mix21, q_mix03]
        refine ⟨by omega, by omega, by omega, _, _, rfl, ?_, ?_⟩
        · exact Int.emod_nonneg _ (by decide)
        · exact Int.emod_lt_of_pos _ (by decide)
    · obtain ⟨rfl, m, x, rfl, m0, m1⟩ := hw
      intro p hp
      simp only [q_v, q_c, q_tup, q_lst, q_op, q_nil, q_cons, q_tst, q_tru, q_andT, q_orT, q_notT, q_andV, q_orV, q_notV, q_ifE, q_next, q_seq, q_asg, q_drop, q_ret, q_retN, q_ifS, q_par, q_isi, q_blt, q_call, q_callK, q_kid, q_kswap, q_chain, q_neg, q_isN, q_notN, q_noO, q_someO, q_sli, q_rev, q_revM, q_bm, q_bm0, q_m1, q_seqI, q_rng, q_rng2, q_enum, q_zip, q_gnm, q_gtp, q_gs0, q_gs1, q_yes, q_put, e_bl, e_int, e_str, e_lst, e_n_non, e_n_bl, e_n_int, e_n_str, e_n_tup, e_n_lst, e_n_slst, e_n_dic, e_n_ref, e_seq_l, e_seq_s, e_seq_t, e_seq_z, e_rev_l, e_rev_s, e_i1, e_i2, e_l1, e_l1s, e_l2, e_p2, e_sl, e_o, e_ob, e_on, e_ml, e_md, e_c, e_tru_b, e_tru_n, e_tru_i, e_tru_t, e_tru_l, t_str_non, t_tup_non, t_int_non, t_bool_non, t_lst_non, t_dict_non, t_str_bl, t_tup_bl, t_int_bl, t_bool_bl, t_lst_bl, t_dict_bl, t_str_int, t_tup_int, t_int_int, t_bool_int, t_lst_int, t_dict_int, t_str_str, t_tup_str, t_int_str, t_bool_str, t_lst_str, t_dict_str, t_str_tup, t_tup_tup, t_int_tup, t_bool_tup, t_lst_tup, t_dict_tup, t_str_lst, t_tup_lst, t_int_lst, t_bool_lst, t_lst_lst, t_dict_lst, t_str_dic, t_tup_dic, t_int_dic, t_bool_dic, t_lst_dic, t_dict_dic, r_add_i, r_add_s, r_add_t, r_add_l, r_sub, r_mul, r_mul_l, r_fdiv, r_mod, r_pow, r_lt, r_ix_l, r_ix_t, r_ix_s, r_ix_rl, r_ix_rd, r_sl_l, r_sl_sl, r_sl_t, r_sl_s, r_len_l, r_len_sl, r_len_t, r_len_s, r_len_r, r_all, r_any, r_tuple_l, r_tuple_sl, r_tuple_t, r_tuple_r, r_list_l, r_list_sl, r_list_t, r_list_r, r_ord, r_repr, r_pop, r_app, r_ext, r_join, r_join_t, r_isl_r, r_isl_l, r_in, r_put_d, r_put_l, r_eq_i, r_eq_s, r_ne_i, r_ne_s, r_eq_t0, r_ne_t0, r_eq_r0, r_ne_r0, r_eq_l0, r_ne_l0, q_lstM, q_frz, e_fz_r, e_fz_non, e_fz_bl, e_fz_int, e_fz_str, e_fz_tup, e_fz_lst, e_fz_dic, q_drp, q_zs, e_zs_tup_tup, e_zs_tup_lst, e_zs_tup_slst, e_zs_lst_tup, e_zs_lst_lst, e_zs_lst_slst, e_zs_slst_tup, e_zs_slst_lst, e_zs_slst_slst, r_mem_s, r_mem_t, r_mem_l, r_int_i, r_int_b, r_listM_l, r_listM_sl, r_listM_t, r_start, wipeD, br_not, br_true, br_false, br_dec, List.map_cons, List.map_nil, List.length_cons, List.length_nil, List.replicate_succ, List.replicate_zero, List.cons_append, List.nil_append, List.getElem?_cons_zero, List.getElem?_cons_succ, List.getElem?_nil, List.set_cons_zero, List.set_cons_succ, Nat.reduceAdd, Nat.reduceSub, Nat.reduceLeDiff, Nat.zero_add, updM_same, true_and, List.isEmpty_nil, List.isEmpty_cons, Bool.not_true, Bool.not_false, Bool.not_not, q_revA, e_ra_l, e_ra_s, e_ra_t, e_ra_z, q_star, e_st_l, e_st_s, e_st_t, q_par3, e_p3, q_cont, r_mul2_i, r_mul2_l, r_mul2_s, r_le2_i, r_le2_s, r_lt2_i, r_lt2_s, r_sum, r_max2, r_min2, r_rst, r_spl, r_six, q_callX, q_callKX, q_raise, e_d1, q_try, q_tryW, q_xf, q_isX, e_cau, r_add2_i, r_add2_s, r_add2_t, r_add2_l, r_add2_rl, r_add2_lr, q_sliM, r_slM, q_kdef, q_mix21, q_mix03]
      intro c hc
      have cp : c ≠ p := fun e => by
        rw [e, updM_same] at hc
        cases hc
      rw [updM_ne cp] at hc
      refine ⟨?_, hF p c _ hp hc ⟨ns.reverse, m, 0, updM_same, ?_, m0, m1, by decide, by rw [List.length_reverse]; exact hl⟩ fun b hb hb' => ?_⟩
      · rw [updM_ne cp.symm, updM_same]
      · rw [updM_ne cp, updM_same, List.map_reverse]
      · rw [updM_ne hb, updM_ne hb', updM_ne hb]
  · exact h.elim
end K43

namespace K43
open PySem L2 Fx
def nD (n : Nat) : D := .int (n : Int)
def pD : Prt → D
  | .inl t => .str t
  | .inr n => nD n
def sD : Stp → D
  | .tok t => .tup [.str "token", .str t]
  | .call n ns => .tup [.str "call", .str n, .tup (ns.map nD)]
  | .meth n a ns => .tup [.str "method", .str n, .tup ((a :: ns).map nD)]
  | .oper n a b => .tup [.str "operator", .str n, .tup [nD a, nD b]]
theorem cC : Str.ofString "," = sC := rfl
theorem cO : Str.ofString "(" = sO := rfl
theorem cX : Str.ofString ")" = sX := rfl
theorem cP : Str.ofString "." = sP := rfl
theorem cut_drop {α : Type} {xs : List α} {n : Nat} : cutL xs (some (n : Int)) none = xs.drop n := by
  unfold cutL
  rw [HT.sIx_none]
  have h0 : ¬ ((n : Int) < 0) := by omega
  show (xs.drop (if (n : Int) < 0 then ((n : Int) + (xs.length : Int)).toNat else min (n : Int).toNat xs.length)).take (xs.length - (if (n : Int) < 0 then ((n : Int) + (xs.length : Int)).toNat else min (n : Int).toNat xs.length)) = _
  rw [if_neg h0, Int.toNat_natCast]
  rcases Nat.le_total n xs.length with h | h
  · rw [Nat.min_eq_left h, List.take_of_length_le (by rw [List.length_drop]; exact Nat.le_refl _)]
  · rw [Nat.min_eq_right h, List.drop_eq_nil_of_le h, List.drop_length]
    simp
theorem cut1 {α : Type} {xs : List α} : cutL xs (some 1) none = xs.drop 1 := cut_drop (n := 1)
def R_listed : RD := fun xs M F => ∃ ns, xs = [.tup (ns.map nD)] ∧ ns.length ≤ 1000 ∧ F (.lst ((listed ns).map pD)) M
theorem ln_listed : ∀ xs M F, R_listed xs M F → xs.length = 1 := fun xs M F ⟨p, e, _⟩ => by rw [e]; rfl
theorem rd_listed : ∀ ds M F, R_listed ds M F → T_listed { nx := fun _ M' => F .non M', rt := F } (startD 3 ds) M := by
  intro ds M F ⟨ns, e, hl, h⟩
  subst e
  simp only [T_listed, q_v, q_c, q_tup, q_lst, q_op, q_nil, q_cons, q_tst, q_tru, q_andT, q_orT, q_notT, q_andV, q_orV, q_notV, q_ifE, q_next, q_seq, q_asg, q_drop, q_ret, q_retN, q_ifS, q_par, q_isi, q_blt, q_call, q_callK, q_kid, q_kswap, q_chain, q_neg, q_isN, q_notN, q_noO, q_someO, q_sli, q_rev, q_revM, q_bm, q_bm0, q_m1, q_seqI, q_rng, q_rng2, q_enum, q_zip, q_gnm, q_gtp, q_gs0, q_gs1, q_yes, q_put, e_bl, e_int, e_str, e_lst, e_n_non, e_n_bl, e_n_int, e_n_str, e_n_tup, e_n_lst, e_n_slst, e_n_dic, e_n_ref, e_seq_l, e_seq_s, e_seq_t, e_seq_z, e_rev_l, e_rev_s, e_i1, e_i2, e_l1, e_l1s, e_l2, e_p2, e_sl, e_o, e_ob, e_on, e_ml, e_md, e_c, e_tru_b, e_tru_n, e_tru_i, e_tru_t, e_tru_l, t_str_non, t_tup_non, t_int_non, t_bool_non, t_lst_non, t_dict_non, t_str_bl, t_tup_bl, t_int_bl, t_bool_bl, t_lst_bl, t_dict_bl, t_str_int, t_tup_int, t_int_int, t_bool_int, t_lst_int, t_dict_int, t_str_str, t_tup_str, t_int_str, t_bool_str, t_lst_str, t_dict_str, t_str_tup, t_tup_tup, t_int_tup, t_bool_tup, t_lst_tup, t_dict_tup, t_str_lst, t_tup_lst, t_int_lst, t_bool_lst, t_lst_lst, t_dict_lst, t_str_dic, t_tup_dic, t_int_dic, t_bool_dic, t_lst_dic, t_dict_dic, r_add_i, r_add_s, r_add_t, r_add_l, r_sub, r_mul, r_mul_l, r_fdiv, r_mod, r_pow, r_lt, r_ix_l, r_ix_t, r_ix_s, r_ix_rl, r_ix_rd, r_sl_l, r_sl_sl, r_sl_t, r_sl_s, r_len_l, r_len_sl, r_len_t, r_len_s, r_len_r, r_all, r_any, r_tuple_l, r_tuple_sl, r_tuple_t, r_tuple_r, r_list_l, r_list_sl, r_list_t, r_list_r, r_ord, r_repr, r_pop, r_app, r_ext, r_join, r_join_t, r_isl_r, r_isl_l, r_in, r_put_d, r_put_l, r_eq_i, r_eq_s, r_ne_i, r_ne_s, r_eq_t0, r_ne_t0, r_eq_r0, r_ne_r0, r_eq_l0, r_ne_l0, q_lstM, q_frz, e_fz_r, e_fz_non, e_fz_bl, e_fz_int, e_fz_str, e_fz_tup, e_fz_lst, e_fz_dic, q_drp, q_zs, e_zs_tup_tup, e_zs_tup_lst, e_zs_tup_slst, e_zs_lst_tup, e_zs_lst_lst, e_zs_lst_slst, e_zs_slst_tup, e_zs_slst_lst, e_zs_slst_slst, r_mem_s, r_mem_t, r_mem_l, r_int_i, r_int_b, r_listM_l, r_listM_sl, r_listM_t, r_start, wipeD, br_not, br_true, br_false, br_dec, List.map_cons, List.map_nil, List.length_cons, List.length_nil, List.replicate_succ, List.replicate_zero, List.cons_append, List.nil_append, List.getElem?_cons_zero, List.getElem?_cons_succ, List.getElem?_nil, List.set_cons_zero, List.set_cons_succ, Nat.reduceAdd, Nat.reduceSub, Nat.reduceLeDiff, Nat.zero_add, updM_same, true_and, List.isEmpty_nil, List.isEmpty_cons, Bool.not_true, Bool.not_false, Bool.not_not, q_revA, e_ra_l, e_ra_s, e_ra_t, e_ra_z, q_star, e_st_l, e_st_s, e_st_t, q_par3, e_p3, q_cont, r_mul2_i, r_mul2_l, r_mul2_s, r_le2_i, r_le2_s, r_lt2_i, r_lt2_s, r_sum, r_max2, r_min2, r_rst, r_spl, r_six, q_callX, q_callKX, q_raise, e_d1, q_try, q_tryW, q_xf, q_isX, e_cau, r_add2_i, r_add2_s, r_add2_t, r_add2_l, r_add2_rl, r_add2_lr, q_sliM, r_slM, q_kdef, q_mix21, q_mix03, q_for, cC]
  intro L hL
  refine for_inv (fun i ds' M' => M' = updM M L (.lst (((ns.take i).flatMap fun n => [Sum.inl sC, Sum.inr n]).map pD)) ∧ ∃ x, ds' = [some (.tup (ns.map nD)), some (.ref L), x]) ⟨rfl, none, rfl⟩ (fun i d ds' M' hi w => ?_) fun ds' M' w => ?_
  · obtain ⟨rfl, x, rfl⟩ := w
    rw [List.getElem?_map] at hi
    obtain ⟨n, gn, rfl⟩ := Option.map_eq_some_iff.mp hi
    have hlt := (List.getElem?_eq_some_iff.mp gn).1
    have et : ns.take (i + 1) = ns.take i ++ [n] := by rw [List.take_add_one, gn]; rfl
    have hlen : ∀ l : List Nat, (l.flatMap fun n => ([Sum.inl sC, Sum.inr n] : List Prt)).length = 2 * l.length := by
      intro l
      induction l with
      | nil => rfl
      | cons a l ih => rw [List.flatMap_cons, List.length_append, ih, List.length_cons]; simp only [List.length_cons, List.length_nil]; omega
    have l1 : (ns.take i).length ≤ 1000 := Nat.le_trans (List.length_take_le' _ _) hl
    simp only [q_v, q_c, q_tup, q_lst, q_op, q_nil, q_cons, q_tst, q_tru, q_andT, q_orT, q_notT, q_andV, q_orV, q_notV, q_ifE, q_next, q_seq, q_asg, q_drop, q_ret, q_retN, q_ifS, q_par, q_isi, q_blt, q_call, q_callK, q_kid, q_kswap, q_chain, q_neg, q_isN, q_notN, q_noO, q_someO, q_sli, q_rev, q_revM, q_bm, q_bm0, q_m1, q_seqI, q_rng, q_rng2, q_enum, q_zip, q_gnm, q_gtp, q_gs0, q_gs1, q_yes, q_put, e_bl, e_int, e_str, e_lst, e_n_non, e_n_bl, e_n_int, e_n_str, e_n_tup, e_n_lst, e_n_slst, e_n_dic, e_n_ref, e_seq_l, e_seq_s, e_seq_t, e_seq_z, e_rev_l, e_rev_s, e_i1, e_i2, e_l1, e_l1s, e_l2, e_p2, e_sl, e_o, e_ob, e_on, e_ml, e_md, e_c, e_tru_b, e_tru_n, e_tru_i, e_tru_t, e_tru_l, t_str_non, t_tup_non, t_int_non, t_bool_non, t_lst_non, t_dict_non, t_str_bl, t_tup_bl, t_int_bl, t_bool_bl, t_lst_bl, t_dict_bl, t_str_int, t_tup_int, t_int_int, t_bool_int, t_lst_int, t_dict_int, t_str_str, t_tup_str, t_int_str, t_bool_str, t_lst_str, t_dict_str, t_str_tup, t_tup_tup, t_int_tup, t_bool_tup, t_lst_tup, t_dict_tup, t_str_lst, t_tup_lst, t_int_lst, t_bool_lst, t_lst_lst, t_dict_lst, t_str_dic, t_tup_dic, t_int_dic, t_bool_dic, t_lst_dic, t_dict_dic, r_add_i, r_add_s, r_add_t, r_add_l, r_sub, r_mul, r_mul_l, r_fdiv, r_mod, r_pow, r_lt, r_ix_l, r_ix_t, r_ix_s, r_ix_rl, r_ix_rd, r_sl_l, r_sl_sl, r_sl_t, r_sl_s, r_len_l, r_len_sl, r_len_t, r_len_s, r_len_r, r_all, r_any, r_tuple_l, r_tuple_sl, r_tuple_t, r_tuple_r, r_list_l, r_list_sl, r_list_t, r_list_r, r_ord, r_repr, r_pop, r_app, r_ext, r_join, r_join_t, r_isl_r, r_isl_l, r_in, r_put_d, r_put_l, r_eq_i, r_eq_s, r_ne_i, r_ne_s, r_eq_t0, r_ne_t0, r_eq_r0, r_ne_r0, r_eq_l0, r_ne_l0, q_lstM, q_frz, e_fz_r, e_fz_non, e_fz_bl, e_fz_int, e_fz_str, e_fz_tup, e_fz_lst, e_fz_dic, q_drp, q_zs, e_zs_tup_tup, e_zs_tup_lst, e_zs_tup_slst, e_zs_lst_tup, e_zs_lst_lst, e_zs_lst_slst, e_zs_slst_tup, e_zs_slst_lst, e_zs_slst_slst, r_mem_s, r_mem_t, r_mem_l, r_int_i, r_int_b, r_listM_l, r_listM_sl, r_listM_t, r_start, wipeD, br_not, br_true, br_false, br_dec, List.map_cons, List.map_nil, List.length_cons, List.length_nil, List.replicate_succ, List.replicate_zero, List.cons_append, List.nil_append, List.getElem?_cons_zero, List.getElem?_cons_succ, List.getElem?_nil, List.set_cons_zero, List.set_cons_succ, Nat.reduceAdd, Nat.reduceSub, Nat.reduceLeDiff, Nat.zero_add, updM_same, true_and, List.isEmpty_nil, List.isEmpty_cons, Bool.not_true, Bool.not_false, Bool.not_not, q_revA, e_ra_l, e_ra_s, e_ra_t, e_ra_z, q_star, e_st_l, e_st_s, e_st_t, q_par3, e_p3, q_cont, r_mul2_i, r_mul2_l, r_mul2_s, r_le2_i, r_le2_s, r_lt2_i, r_lt2_s, r_sum, r_max2, r_min2, r_rst, r_spl, r_six, q_callX, q_callKX, q_raise, e_d1, q_try, q_tryW, q_xf, q_isX, e_cau, r_add2_i, r_add2_s, r_add2_t, r_add2_l, r_add2_rl, r_add2_lr, q_sliM, r_slM, q_kdef, q_mix21, q_mix03, updM_two]
    rw [et, List.flatMap_append, List.map_append]
    refine ⟨by rw [List.length_map, hlen]; first | omega | (simp only [List.length_cons, List.length_nil]; omega), rfl, _, rfl⟩
  · obtain ⟨rfl, x, rfl⟩ := w
    rw [List.length_map, List.take_length]
    simp only [q_v, q_c, q_tup, q_lst, q_op, q_nil, q_cons, q_tst, q_tru, q_andT, q_orT, q_notT, q_andV, q_orV, q_notV, q_ifE, q_next, q_seq, q_asg, q_drop, q_ret, q_retN, q_ifS, q_par, q_isi, q_blt, q_call, q_callK, q_kid, q_kswap, q_chain, q_neg, q_isN, q_notN, q_noO, q_someO, q_sli, q_rev, q_revM, q_bm, q_bm0, q_m1, q_seqI, q_rng, q_rng2, q_enum, q_zip, q_gnm, q_gtp, q_gs0, q_gs1, q_yes, q_put, e_bl, e_int, e_str, e_lst, e_n_non, e_n_bl, e_n_int, e_n_str, e_n_tup, e_n_lst, e_n_slst, e_n_dic, e_n_ref, e_seq_l, e_seq_s, e_seq_t, e_seq_z, e_rev_l, e_rev_s, e_i1, e_i2, e_l1, e_l1s, e_l2, e_p2, e_sl, e_o, e_ob, e_on, e_ml, e_md, e_c, e_tru_b, e_tru_n, e_tru_i, e_tru_t, e_tru_l, t_str_non, t_tup_non, t_int_non, t_bool_non, t_lst_non, t_dict_non, t_str_bl, t_tup_bl, t_int_bl, t_bool_bl, t_lst_bl, t_dict_bl, t_str_int, t_tup_int, t_int_int, t_bool_int, t_lst_int, t_dict_int, t_str_str, t_tup_str, t_int_str, t_bool_str, t_lst_str, t_dict_str, t_str_tup, t_tup_tup, t_int_tup, t_bool_tup, t_lst_tup, t_dict_tup, t_str_lst, t_tup_lst, t_int_lst, t_bool_lst, t_lst_lst, t_dict_lst, t_str_dic, t_tup_dic, t_int_dic, t_bool_dic, t_lst_dic, t_dict_dic, r_add_i, r_add_s, r_add_t, r_add_l, r_sub, r_mul, r_mul_l, r_fdiv, r_mod, r_pow, r_lt, r_ix_l, r_ix_t, r_ix_s, r_ix_rl, r_ix_rd, r_sl_l, r_sl_sl, r_sl_t, r_sl_s, r_len_l, r_len_sl, r_len_t, r_len_s, r_len_r, r_all, r_any, r_tuple_l, r_tuple_sl, r_tuple_t, r_tuple_r, r_list_l, r_list_sl, r_list_t, r_list_r, r_ord, r_repr, r_pop, r_app, r_ext, r_join, r_join_t, r_isl_r, r_isl_l, r_in, r_put_d, r_put_l, r_eq_i, r_eq_s, r_ne_i, r_ne_s, r_eq_t0, r_ne_t0, r_eq_r0, r_ne_r0, r_eq_l0, r_ne_l0, q_lstM, q_frz, e_fz_r, e_fz_non, e_fz_bl, e_fz_int, e_fz_str, e_fz_tup, e_fz_lst, e_fz_dic, q_drp, q_zs, e_zs_tup_tup, e_zs_tup_lst, e_zs_tup_slst, e_zs_lst_tup, e_zs_lst_lst, e_zs_lst_slst, e_zs_slst_tup, e_zs_slst_lst, e_zs_slst_slst, r_mem_s, r_mem_t, r_mem_l, r_int_i, r_int_b, r_listM_l, r_listM_sl, r_listM_t, r_start, wipeD, br_not, br_true, br_false, br_dec, List.map_cons, List.map_nil, List.length_cons, List.length_nil, List.replicate_succ, List.replicate_zero, List.cons_append, List.nil_append, List.getElem?_cons_zero, List.getElem?_cons_succ, List.getElem?_nil, List.set_cons_zero, List.set_cons_succ, Nat.reduceAdd, Nat.reduceSub, Nat.reduceLeDiff, Nat.zero_add, updM_same, true_and, List.isEmpty_nil, List.isEmpty_cons, Bool.not_true, Bool.not_false, Bool.not_not, q_revA, e_ra_l, e_ra_s, e_ra_t, e_ra_z, q_star, e_st_l, e_st_s, e_st_t, q_par3, e_p3, q_cont, r_mul2_i, r_mul2_l, r_mul2_s, r_le2_i, r_le2_s, r_lt2_i, r_lt2_s, r_sum, r_max2, r_min2, r_rst, r_spl, r_six, q_callX, q_callKX, q_raise, e_d1, q_try, q_tryW, q_xf, q_isX, e_cau, r_add2_i, r_add2_s, r_add2_t, r_add2_l, r_add2_rl, r_add2_lr, q_sliM, r_slM, q_kdef, q_mix21, q_mix03, cut1]
    refine ⟨L, ?_⟩
    rw [delM_upd hL, ← List.map_drop]
    exact h
def few : Stp → Prop
  | .call _ ns => ns.length ≤ 1000
  | .meth _ _ ns => ns.length ≤ 1000
  | _ => True
def R_parts_of : RD := fun xs M F => ∃ s, xs = [sD s] ∧ few s ∧ F (.lst ((parts s).map pD)) M
theorem ln_parts_of : ∀ xs M F, R_parts_of xs M F → xs.length = 1 := fun xs M F ⟨p, e, _⟩ => by rw [e]; rfl
theorem at0 {d : D} {l : List D} : atI (d :: l) 0 = some d := atI_nat (j := 0) rfl
theorem at1 {d e : D} {l : List D} : atI (d :: e :: l) 1 = some e := atI_nat (j := 1) rfl
theorem at2 {d e f : D} {l : List D} : atI (d :: e :: f :: l) 2 = some f := atI_nat (j := 2) rfl
theorem w1 : (Str.ofString "token" = Str.ofString "token") = True := eq_self _
theorem w2 : (Str.ofString "call" = Str.ofString "token") = False := eq_false (by decide +kernel)
theorem w3 : (Str.ofString "method" = Str.ofString "token") = False := eq_false (by decide +kernel)
theorem w4 : (Str.ofString "operator" = Str.ofString "token") = False := eq_false (by decide +kernel)
theorem w5 : (Str.ofString "call" = Str.ofString "call") = True := eq_self _
theorem w6 : (Str.ofString "method" = Str.ofString "call") = False := eq_false (by decide +kernel)
theorem w7 : (Str.ofString "operator" = Str.ofString "call") = False := eq_false (by decide +kernel)
theorem w8 : (Str.ofString "method" = Str.ofString "method") = True := eq_self _
theorem w9 : (Str.ofString "operator" = Str.ofString "method") = False := eq_false (by decide +kernel)
theorem w10 : (Str.ofString "operator" = Str.ofString "operator") = True := eq_self _
theorem w11 : (Str.ofString "call" = Str.ofString "operator") = False := eq_false (by decide +kernel)
theorem w12 : (Str.ofString "method" = Str.ofString "operator") = False := eq_false (by decide +kernel)
theorem ifT {P Q : Prop} : ((True → P) ∧ (¬ True → Q)) = P := propext ⟨fun h => h.1 trivial, fun h => ⟨fun _ => h, fun z => absurd trivial z⟩⟩
theorem ifF {P Q : Prop} : ((False → P) ∧ (¬ False → Q)) = Q := propext ⟨fun h => h.2 id, fun h => ⟨fun z => z.elim, fun _ => h⟩⟩
theorem listed_len (ns : List Nat) : (listed ns).length ≤ 2 * ns.length := by
  unfold listed
  rw [List.length_drop]
  have : (ns.flatMap fun n => ([Sum.inl sC, Sum.inr n] : List Prt)).length = 2 * ns.length := by
    induction ns with
    | nil => rfl
    | cons a l ih => rw [List.flatMap_cons, List.length_append, ih, List.length_cons]; simp only [List.length_cons, List.length_nil]; omega
  omega
theorem rd_parts_of : ∀ ds M F, R_parts_of ds M F → T_parts_of R_listed { nx := fun _ M' => F .non M', rt := F } (startD 4 ds) M := by
  intro ds M F ⟨s, e, hs, h⟩
  subst e
  cases s with
  | tok t =>
    simp only [T_parts_of, sD, q_v, q_c, q_tup, q_lst, q_op, q_nil, q_cons, q_tst, q_tru, q_andT, q_orT, q_notT, q_andV, q_orV, q_notV, q_ifE, q_next, q_seq, q_asg, q_drop, q_ret, q_retN, q_ifS, q_par, q_isi, q_blt, q_call, q_callK, q_kid, q_kswap, q_chain, q_neg, q_isN, q_notN, q_noO, q_someO, q_sli, q_rev, q_revM, q_bm, q_bm0, q_m1, q_seqI, q_rng, q_rng2, q_enum, q_zip, q_gnm, q_gtp, q_gs0, q_gs1, q_yes, q_put, e_bl, e_int, e_str, e_lst, e_n_non, e_n_bl, e_n_int, e_n_str, e_n_tup, e_n_lst, e_n_slst, e_n_dic, e_n_ref, e_seq_l, e_seq_s, e_seq_t, e_seq_z, e_rev_l, e_rev_s, e_i1, e_i2, e_l1, e_l1s, e_l2, e_p2, e_sl, e_o, e_ob, e_on, e_ml, e_md, e_c, e_tru_b, e_tru_n, e_tru_i, e_tru_t, e_tru_l, t_str_non, t_tup_non, t_int_non, t_bool_non, t_lst_non, t_dict_non, t_str_bl, t_tup_bl, t_int_bl, t_bool_bl, t_lst_bl, t_dict_bl, t_str_int, t_tup_int, t_int_int, t_bool_int, t_lst_int, t_dict_int, t_str_str, t_tup_str, t_int_str, t_bool_str, t_lst_str, t_dict_str, t_str_tup, t_tup_tup, t_int_tup, t_bool_tup, t_lst_tup, t_dict_tup, t_str_lst, t_tup_lst, t_int_lst, t_bool_lst, t_lst_lst, t_dict_lst, t_str_dic, t_tup_dic, t_int_dic, t_bool_dic, t_lst_dic, t_dict_dic, r_add_i, r_add_s, r_add_t, r_add_l, r_sub, r_mul, r_mul_l, r_fdiv, r_mod, r_pow, r_lt, r_ix_l, r_ix_t, r_ix_s, r_ix_rl, r_ix_rd, r_sl_l, r_sl_sl, r_sl_t, r_sl_s, r_len_l, r_len_sl, r_len_t, r_len_s, r_len_r, r_all, r_any, r_tuple_l, r_tuple_sl, r_tuple_t, r_tuple_r, r_list_l, r_list_sl, r_list_t, r_list_r, r_ord, r_repr, r_pop, r_app, r_ext, r_join, r_join_t, r_isl_r, r_isl_l, r_in, r_put_d, r_put_l, r_eq_i, r_eq_s, r_ne_i, r_ne_s, r_eq_t0, r_ne_t0, r_eq_r0, r_ne_r0, r_eq_l0, r_ne_l0, q_lstM, q_frz, e_fz_r, e_fz_non, e_fz_bl, e_fz_int, e_fz_str, e_fz_tup, e_fz_lst, e_fz_dic, q_drp, q_zs, e_zs_tup_tup, e_zs_tup_lst, e_zs_tup_slst, e_zs_lst_tup, e_zs_lst_lst, e_zs_lst_slst, e_zs_slst_tup, e_zs_slst_lst, e_zs_slst_slst, r_mem_s, r_mem_t, r_mem_l, r_int_i, r_int_b, r_listM_l, r_listM_sl, r_listM_t, r_start, wipeD, br_not, br_true, br_false, br_dec, List.map_cons, List.map_nil, List.length_cons, List.length_nil, List.replicate_succ, List.replicate_zero, List.cons_append, List.nil_append, List.getElem?_cons_zero, List.getElem?_cons_succ, List.getElem?_nil, List.set_cons_zero, List.set_cons_succ, Nat.reduceAdd, Nat.reduceSub, Nat.reduceLeDiff, Nat.zero_add, updM_same, true_and, List.isEmpty_nil, List.isEmpty_cons, Bool.not_true, Bool.not_false, Bool.not_not, q_revA, e_ra_l, e_ra_s, e_ra_t, e_ra_z, q_star, e_st_l, e_st_s, e_st_t, q_par3, e_p3, q_cont, r_mul2_i, r_mul2_l, r_mul2_s, r_le2_i, r_le2_s, r_lt2_i, r_lt2_s, r_sum, r_max2, r_min2, r_rst, r_spl, r_six, q_callX, q_callKX, q_raise, e_d1, q_try, q_tryW, q_xf, q_isX, e_cau, r_add2_i, r_add2_s, r_add2_t, r_add2_l, r_add2_rl, r_add2_lr, q_sliM, r_slM, q_kdef, q_mix21, q_mix03, at0, at1, w1, ifT]
    exact h
  | call n ns =>
    simp only [T_parts_of, sD, q_v, q_c, q_tup, q_lst, q_op, q_nil, q_cons, q_tst, q_tru, q_andT, q_orT, q_notT, q_andV, q_orV, q_notV, q_ifE, q_next, q_seq, q_asg, q_drop, q_ret, q_retN, q_ifS, q_par, q_isi, q_blt, q_call, q_callK, q_kid, q_kswap, q_chain, q_neg, q_isN, q_notN, q_noO, q_someO, q_sli, q_rev, q_revM, q_bm, q_bm0, q_m1, q_seqI, q_rng, q_rng2, q_enum, q_zip, q_gnm, q_gtp, q_gs0, q_gs1, q_yes, q_put, e_bl, e_int, e_str, e_lst, e_n_non, e_n_bl, e_n_int, e_n_str, e_n_tup, e_n_lst, e_n_slst, e_n_dic, e_n_ref, e_seq_l, e_seq_s, e_seq_t, e_seq_z, e_rev_l, e_rev_s, e_i1, e_i2, e_l1, e_l1s, e_l2, e_p2, e_sl, e_o, e_ob, e_on, e_ml, e_md, e_c, e_tru_b, e_tru_n, e_tru_i, e_tru_t, e_tru_l, t_str_non, t_tup_non, t_int_non, t_bool_non, t_lst_non, t_dict_non, t_str_bl, t_tup_bl, t_int_bl, t_bool_bl, t_lst_bl, t_dict_bl, t_str_int, t_tup_int, t_int_int, t_bool_int, t_lst_int, t_dict_int, t_str_str, t_tup_str, t_int_str, t_bool_str, t_lst_str, t_dict_str, t_str_tup, t_tup_tup, t_int_tup, t_bool_tup, t_lst_tup, t_dict_tup, t_str_lst, t_tup_lst, t_int_lst, t_bool_lst, t_lst_lst, t_dict_lst, t_str_dic, t_tup_dic, t_int_dic, t_bool_dic, t_lst_dic, t_dict_dic, r_add_i, r_add_s, r_add_t, r_add_l, r_sub, r_mul, r_mul_l, r_fdiv, r_mod, r_pow, r_lt, r_ix_l, r_ix_t, r_ix_s, r_ix_rl, r_ix_rd, r_sl_l, r_sl_sl, r_sl_t, r_sl_s, r_len_l, r_len_sl, r_len_t, r_len_s, r_len_r, r_all, r_any, r_tuple_l, r_tuple_sl, r_tuple_t, r_tuple_r, r_list_l, r_list_sl, r_list_t, r_list_r, r_ord, r_repr, r_pop, r_app, r_ext, r_join, r_join_t, r_isl_r, r_isl_l, r_in, r_put_d, r_put_l, r_eq_i, r_eq_s, r_ne_i, r_ne_s, r_eq_t0, r_ne_t0, r_eq_r0, r_ne_r0, r_eq_l0, r_ne_l0, q_lstM, q_frz, e_fz_r, e_fz_non, e_fz_bl, e_fz_int, e_fz_str, e_fz_tup, e_fz_lst, e_fz_dic, q_drp, q_zs, e_zs_tup_tup, e_zs_tup_lst, e_zs_tup_slst, e_zs_lst_tup, e_zs_lst_lst, e_zs_lst_slst, e_zs_slst_tup, e_zs_slst_lst, e_zs_slst_slst, r_mem_s, r_mem_t, r_mem_l, r_int_i, r_int_b, r_listM_l, r_listM_sl, r_listM_t, r_start, wipeD, br_not, br_true, br_false, br_dec, List.map_cons, List.map_nil, List.length_cons, List.length_nil, List.replicate_succ, List.replicate_zero, List.cons_append, List.nil_append, List.getElem?_cons_zero, List.getElem?_cons_succ, List.getElem?_nil, List.set_cons_zero, List.set_cons_succ, Nat.reduceAdd, Nat.reduceSub, Nat.reduceLeDiff, Nat.zero_add, updM_same, true_and, List.isEmpty_nil, List.isEmpty_cons, Bool.not_true, Bool.not_false, Bool.not_not, q_revA, e_ra_l, e_ra_s, e_ra_t, e_ra_z, q_star, e_st_l, e_st_s, e_st_t, q_par3, e_p3, q_cont, r_mul2_i, r_mul2_l, r_mul2_s, r_le2_i, r_le2_s, r_lt2_i, r_lt2_s, r_sum, r_max2, r_min2, r_rst, r_spl, r_six, q_callX, q_callKX, q_raise, e_d1, q_try, q_tryW, q_xf, q_isX, e_cau, r_add2_i, r_add2_s, r_add2_t, r_add2_l, r_add2_rl, r_add2_lr, q_sliM, r_slM, q_kdef, q_mix21, q_mix03, at0, at1, cO, cX, w2, w5, ifT, ifF]
    have hl := listed_len ns
    refine ⟨ns, rfl, hs, ?_⟩
    simp only [q_v, q_c, q_tup, q_lst, q_op, q_nil, q_cons, q_tst, q_tru, q_andT, q_orT, q_notT, q_andV, q_orV, q_notV, q_ifE, q_next, q_seq, q_asg, q_drop, q_ret, q_retN, q_ifS, q_par, q_isi, q_blt, q_call, q_callK, q_kid, q_kswap, q_chain, q_neg, q_isN, q_notN, q_noO, q_someO, q_sli, q_rev, q_revM, q_bm, q_bm0, q_m1, q_seqI, q_rng, q_rng2, q_enum, q_zip, q_gnm, q_gtp, q_gs0, q_gs1, q_yes, q_put, e_bl, e_int, e_str, e_lst, e_n_non, e_n_bl, e_n_int, e_n_str, e_n_tup, e_n_lst, e_n_slst, e_n_dic, e_n_ref, e_seq_l, e_seq_s, e_seq_t, e_seq_z, e_rev_l, e_rev_s, e_i1, e_i2, e_l1, e_l1s, e_l2, e_p2, e_sl, e_o, e_ob, e_on, e_ml, e_md, e_c, e_tru_b, e_tru_n, e_tru_i, e_tru_t, e_tru_l, t_str_non, t_tup_non, t_int_non, t_bool_non, t_lst_non, t_dict_non, t_str_bl, t_tup_bl, t_int_bl, t_bool_bl, t_lst_bl, t_dict_bl, t_str_int, t_tup_int, t_int_int, t_bool_int, t_lst_int, t_dict_int, t_str_str, t_tup_str, t_int_str, t_bool_str, t_lst_str, t_dict_str, t_str_tup, t_tup_tup, t_int_tup, t_bool_tup, t_lst_tup, t_dict_tup, t_str_lst, t_tup_lst, t_int_lst, t_bool_lst, t_lst_lst, t_dict_lst, t_str_dic, t_tup_dic, t_int_dic, t_bool_dic, t_lst_dic, t_dict_dic, r_add_i, r_add_s, r_add_t, r_add_l, r_sub, r_mul, r_mul_l, r_fdiv, r_mod, r_pow, r_lt, r_ix_l, r_ix_t, r_ix_s, r_ix_rl, r_ix_rd, r_sl_l, r_sl_sl, r_sl_t, r_sl_s, r_len_l, r_len_sl, r_len_t, r_len_s, r_len_r, r_all, r_any, r_tuple_l, r_tuple_sl, r_tuple_t, r_tuple_r, r_list_l, r_list_sl, r_list_t, r_list_r, r_ord, r_repr, r_pop, r_app, r_ext, r_join, r_join_t, r_isl_r, r_isl_l, r_in, r_put_d, r_put_l, r_eq_i, r_eq_s, r_ne_i, r_ne_s, r_eq_t0, r_ne_t0, r_eq_r0, r_ne_r0, r_eq_l0, r_ne_l0, q_lstM, q_frz, e_fz_r, e_fz_non, e_fz_bl, e_fz_int, e_fz_str, e_fz_tup, e_fz_lst, e_fz_dic, q_drp, q_zs, e_zs_tup_tup, e_zs_tup_lst, e_zs_tup_slst, e_zs_lst_tup, e_zs_lst_lst, e_zs_lst_slst, e_zs_slst_tup, e_zs_slst_lst, e_zs_slst_slst, r_mem_s, r_mem_t, r_mem_l, r_int_i, r_int_b, r_listM_l, r_listM_sl, r_listM_t, r_start, wipeD, br_not, br_true, br_false, br_dec, List.map_cons, List.map_nil, List.length_cons, List.length_nil, List.replicate_succ, List.replicate_zero, List.cons_append, List.nil_append, List.getElem?_cons_zero, List.getElem?_cons_succ, List.getElem?_nil, List.set_cons_zero, List.set_cons_succ, Nat.reduceAdd, Nat.reduceSub, Nat.reduceLeDiff, Nat.zero_add, updM_same, true_and, List.isEmpty_nil, List.isEmpty_cons, Bool.not_true, Bool.not_false, Bool.not_not, q_revA, e_ra_l, e_ra_s, e_ra_t, e_ra_z, q_star, e_st_l, e_st_s, e_st_t, q_par3, e_p3, q_cont, r_mul2_i, r_mul2_l, r_mul2_s, r_le2_i, r_le2_s, r_lt2_i, r_lt2_s, r_sum, r_max2, r_min2, r_rst, r_spl, r_six, q_callX, q_callKX, q_raise, e_d1, q_try, q_tryW, q_xf, q_isX, e_cau, r_add2_i, r_add2_s, r_add2_t, r_add2_l, r_add2_rl, r_add2_lr, q_sliM, r_slM, q_kdef, q_mix21, q_mix03]
    have hs' : ns.length ≤ 1000 := hs
    refine ⟨?_, ?_⟩
    · simp only [List.length_cons, List.length_append, List.length_map, List.length_nil]
      omega
    · have : D.str n :: D.str sO :: (((listed ns).map pD) ++ [D.str sX]) = (parts (.call n ns)).map pD := by
        unfold parts
        rw [List.map_cons, List.map_cons, List.map_append]
        rfl
      rw [this]
      exact h
  | meth n a ns =>
    simp only [T_parts_of, sD, q_v, q_c, q_tup, q_lst, q_op, q_nil, q_cons, q_tst, q_tru, q_andT, q_orT, q_notT, q_andV, q_orV, q_notV, q_ifE, q_next, q_seq, q_asg, q_drop, q_ret, q_retN, q_ifS, q_par, q_isi, q_blt, q_call, q_callK, q_kid, q_kswap, q_chain, q_neg, q_isN, q_notN, q_noO, q_someO, q_sli, q_rev, q_revM, q_bm, q_bm0, q_m1, q_seqI, q_rng, q_rng2, q_enum, q_zip, q_gnm, q_gtp, q_gs0, q_gs1, q_yes, q_put, e_bl, e_int, e_str, e_lst, e_n_non, e_n_bl, e_n_int, e_n_str, e_n_tup, e_n_lst, e_n_slst, e_n_dic, e_n_ref, e_seq_l, e_seq_s, e_seq_t, e_seq_z, e_rev_l, e_rev_s, e_i1, e_i2, e_l1, e_l1s, e_l2, e_p2, e_sl, e_o, e_ob, e_on, e_ml, e_md, e_c, e_tru_b, e_tru_n, e_tru_i, e_tru_t, e_tru_l, t_str_non, t_tup_non, t_int_non, t_bool_non, t_lst_non, t_dict_non, t_str_bl, t_tup_bl, t_int_bl, t_bool_bl, t_lst_bl, t_dict_bl, t_str_int, t_tup_int, t_int_int, t_bool_int, t_lst_int, t_dict_int, t_str_str, t_tup_str, t_int_str, t_bool_str, t_lst_str, t_dict_str, t_str_tup, t_tup_tup, t_int_tup, t_bool_tup, t_lst_tup, t_dict_tup, t_str_lst, t_tup_lst, t_int_lst, t_bool_lst, t_lst_lst, t_dict_lst, t_str_dic, t_tup_dic, t_int_dic, t_bool_dic, t_lst_dic, t_dict_dic, r_add_i, r_add_s, r_add_t, r_add_l, r_sub, r_mul, r_mul_l, r_fdiv, r_mod, r_pow, r_lt, r_ix_l, r_ix_t, r_ix_s, r_ix_rl, r_ix_rd, r_sl_l, r_sl_sl, r_sl_t, r_sl_s, r_len_l, r_len_sl, r_len_t, r_len_s, r_len_r, r_all, r_any, r_tuple_l, r_tuple_sl, r_tuple_t, r_tuple_r, r_list_l, r_list_sl, r_list_t, r_list_r, r_ord, r_repr, r_pop, r_app, r_ext, r_join, r_join_t, r_isl_r, r_isl_l, r_in, r_put_d, r_put_l, r_eq_i, r_eq_s, r_ne_i, r_ne_s, r_eq_t0, r_ne_t0, r_eq_r0, r_ne_r0, r_eq_l0, r_ne_l0, q_lstM, q_frz, e_fz_r, e_fz_non, e_fz_bl, e_fz_int, e_fz_str, e_fz_tup, e_fz_lst, e_fz_dic, q_drp, q_zs, e_zs_tup_tup, e_zs_tup_lst, e_zs_tup_slst, e_zs_lst_tup, e_zs_lst_lst, e_zs_lst_slst, e_zs_slst_tup, e_zs_slst_lst, e_zs_slst_slst, r_mem_s, r_mem_t, r_mem_l, r_int_i, r_int_b, r_listM_l, r_listM_sl, r_listM_t, r_start, wipeD, br_not, br_true, br_false, br_dec, List.map_cons, List.map_nil, List.length_cons, List.length_nil, List.replicate_succ, List.replicate_zero, List.cons_append, List.nil_append, List.getElem?_cons_zero, List.getElem?_cons_succ, List.getElem?_nil, List.set_cons_zero, List.set_cons_succ, Nat.reduceAdd, Nat.reduceSub, Nat.reduceLeDiff, Nat.zero_add, updM_same, true_and, List.isEmpty_nil, List.isEmpty_cons, Bool.not_true, Bool.not_false, Bool.not_not, q_revA, e_ra_l, e_ra_s, e_ra_t, e_ra_z, q_star, e_st_l, e_st_s, e_st_t, q_par3, e_p3, q_cont, r_mul2_i, r_mul2_l, r_mul2_s, r_le2_i, r_le2_s, r_lt2_i, r_lt2_s, r_sum, r_max2, r_min2, r_rst, r_spl, r_six, q_callX, q_callKX, q_raise, e_d1, q_try, q_tryW, q_xf, q_isX, e_cau, r_add2_i, r_add2_s, r_add2_t, r_add2_l, r_add2_rl, r_add2_lr, q_sliM, r_slM, q_kdef, q_mix21, q_mix03, at0, at1, cO, cX, cP, w3, w6, w8, ifT, ifF, List.map_cons, cut1, List.drop_succ_cons, List.drop_zero]
    have hl := listed_len ns
    have hs' : ns.length ≤ 1000 := hs
    refine ⟨ns, rfl, hs, ?_⟩
    simp only [q_v, q_c, q_tup, q_lst, q_op, q_nil, q_cons, q_tst, q_tru, q_andT, q_orT, q_notT, q_andV, q_orV, q_notV, q_ifE, q_next, q_seq, q_asg, q_drop, q_ret, q_retN, q_ifS, q_par, q_isi, q_blt, q_call, q_callK, q_kid, q_kswap, q_chain, q_neg, q_isN, q_notN, q_noO, q_someO, q_sli, q_rev, q_revM, q_bm, q_bm0, q_m1, q_seqI, q_rng, q_rng2, q_enum, q_zip, q_gnm, q_gtp, q_gs0, q_gs1, q_yes, q_put, e_bl, e_int, e_str, e_lst, e_n_non, e_n_bl, e_n_int, e_n_str, e_n_tup, e_n_lst, e_n_slst, e_n_dic, e_n_ref, e_seq_l, e_seq_s, e_seq_t, e_seq_z, e_rev_l, e_rev_s, e_i1, e_i2, e_l1, e_l1s, e_l2, e_p2, e_sl, e_o, e_ob, e_on, e_ml, e_md, e_c, e_tru_b, e_tru_n, e_tru_i, e_tru_t, e_tru_l, t_str_non, t_tup_non, t_int_non, t_bool_non, t_lst_non, t_dict_non, t_str_bl, t_tup_bl, t_int_bl, t_bool_bl, t_lst_bl, t_dict_bl, t_str_int, t_tup_int, t_int_int, t_bool_int, t_lst_int, t_dict_int, t_str_str, t_tup_str, t_int_str, t_bool_str, t_lst_str, t_dict_str, t_str_tup, t_tup_tup, t_int_tup, t_bool_tup, t_lst_tup, t_dict_tup, t_str_lst, t_tup_lst, t_int_lst, t_bool_lst, t_lst_lst, t_dict_lst, t_str_dic, t_tup_dic, t_int_dic, t_bool_dic, t_lst_dic, t_dict_dic, r_add_i, r_add_s, r_add_t, r_add_l, r_sub, r_mul, r_mul_l, r_fdiv, r_mod, r_pow, r_lt, r_ix_l, r_ix_t, r_ix_s, r_ix_rl, r_ix_rd, r_sl_l, r_sl_sl, r_sl_t, r_sl_s, r_len_l, r_len_sl, r_len_t, r_len_s, r_len_r, r_all, r_any, r_tuple_l, r_tuple_sl, r_tuple_t, r_tuple_r, r_list_l, r_list_sl, r_list_t, r_list_r, r_ord, r_repr, r_pop, r_app, r_ext, r_join, r_join_t, r_isl_r, r_isl_l, r_in, r_put_d, r_put_l, r_eq_i, r_eq_s, r_ne_i, r_ne_s, r_eq_t0, r_ne_t0, r_eq_r0, r_ne_r0, r_eq_l0, r_ne_l0, q_lstM, q_frz, e_fz_r, e_fz_non, e_fz_bl, e_fz_int, e_fz_str, e_fz_tup, e_fz_lst, e_fz_dic, q_drp, q_zs, e_zs_tup_tup, e_zs_tup_lst, e_zs_tup_slst, e_zs_lst_tup, e_zs_lst_lst, e_zs_lst_slst, e_zs_slst_tup, e_zs_slst_lst, e_zs_slst_slst, r_mem_s, r_mem_t, r_mem_l, r_int_i, r_int_b, r_listM_l, r_listM_sl, r_listM_t, r_start, wipeD, br_not, br_true, br_false, br_dec, List.map_cons, List.map_nil, List.length_cons, List.length_nil, List.replicate_succ, List.replicate_zero, List.cons_append, List.nil_append, List.getElem?_cons_zero, List.getElem?_cons_succ, List.getElem?_nil, List.set_cons_zero, List.set_cons_succ, Nat.reduceAdd, Nat.reduceSub, Nat.reduceLeDiff, Nat.zero_add, updM_same, true_and, List.isEmpty_nil, List.isEmpty_cons, Bool.not_true, Bool.not_false, Bool.not_not, q_revA, e_ra_l, e_ra_s, e_ra_t, e_ra_z, q_star, e_st_l, e_st_s, e_st_t, q_par3, e_p3, q_cont, r_mul2_i, r_mul2_l, r_mul2_s, r_le2_i, r_le2_s, r_lt2_i, r_lt2_s, r_sum, r_max2, r_min2, r_rst, r_spl, r_six, q_callX, q_callKX, q_raise, e_d1, q_try, q_tryW, q_xf, q_isX, e_cau, r_add2_i, r_add2_s, r_add2_t, r_add2_l, r_add2_rl, r_add2_lr, q_sliM, r_slM, q_kdef, q_mix21, q_mix03]
    refine ⟨?_, ?_⟩
    · simp only [List.length_cons, List.length_append, List.length_map, List.length_nil]
      omega
    · have : nD a :: D.str sP :: D.str n :: D.str sO :: (((listed ns).map pD) ++ [D.str sX]) = (parts (.meth n a ns)).map pD := by
        unfold parts
        rw [List.map_cons, List.map_cons, List.map_cons, List.map_cons, List.map_append]
        rfl
      rw [this]
      exact h
  | oper n a b =>
    simp only [T_parts_of, sD, q_v, q_c, q_tup, q_lst, q_op, q_nil, q_cons, q_tst, q_tru, q_andT, q_orT, q_notT, q_andV, q_orV, q_notV, q_ifE, q_next, q_seq, q_asg, q_drop, q_ret, q_retN, q_ifS, q_par, q_isi, q_blt, q_call, q_callK, q_kid, q_kswap, q_chain, q_neg, q_isN, q_notN, q_noO, q_someO, q_sli, q_rev, q_revM, q_bm, q_bm0, q_m1, q_seqI, q_rng, q_rng2, q_enum, q_zip, q_gnm, q_gtp, q_gs0, q_gs1, q_yes, q_put, e_bl, e_int, e_str, e_lst, e_n_non, e_n_bl, e_n_int, e_n_str, e_n_tup, e_n_lst, e_n_slst, e_n_dic, e_n_ref, e_seq_l, e_seq_s, e_seq_t, e_seq_z, e_rev_l, e_rev_s, e_i1, e_i2, e_l1, e_l1s, e_l2, e_p2, e_sl, e_o, e_ob, e_on, e_ml, e_md, e_c, e_tru_b, e_tru_n, e_tru_i, e_tru_t, e_tru_l, t_str_non, t_tup_non, t_int_non, t_bool_non, t_lst_non, t_dict_non, t_str_bl, t_tup_bl, t_int_bl, t_bool_bl, t_lst_bl, t_dict_bl, t_str_int, t_tup_int, t_int_int, t_bool_int, t_lst_int, t_dict_int, t_str_str, t_tup_str, t_int_str, t_bool_str, t_lst_str, t_dict_str, t_str_tup, t_tup_tup, t_int_tup, t_bool_tup, t_lst_tup, t_dict_tup, t_str_lst, t_tup_lst, t_int_lst, t_bool_lst, t_lst_lst, t_dict_lst, t_str_dic, t_tup_dic, t_int_dic, t_bool_dic, t_lst_dic, t_dict_dic, r_add_i, r_add_s, r_add_t, r_add_l, r_sub, r_mul, r_mul_l, r_fdiv, r_mod, r_pow, r_lt, r_ix_l, r_ix_t, r_ix_s, r_ix_rl, r_ix_rd, r_sl_l, r_sl_sl, r_sl_t, r_sl_s, r_len_l, r_len_sl, r_len_t, r_len_s, r_len_r, r_all, r_any, r_tuple_l, r_tuple_sl, r_tuple_t, r_tuple_r, r_list_l, r_list_sl, r_list_t, r_list_r, r_ord, r_repr, r_pop, r_app, r_ext, r_join, r_join_t, r_isl_r, r_isl_l, r_in, r_put_d, r_put_l, r_eq_i, r_eq_s, r_ne_i, r_ne_s, r_eq_t0, r_ne_t0, r_eq_r0, r_ne_r0, r_eq_l0, r_ne_l0, q_lstM, q_frz, e_fz_r, e_fz_non, e_fz_bl, e_fz_int, e_fz_str, e_fz_tup, e_fz_lst, e_fz_dic, q_drp, q_zs, e_zs_tup_tup, e_zs_tup_lst, e_zs_tup_slst, e_zs_lst_tup, e_zs_lst_lst, e_zs_lst_slst, e_zs_slst_tup, e_zs_slst_lst, e_zs_slst_slst, r_mem_s, r_mem_t, r_mem_l, r_int_i, r_int_b, r_listM_l, r_listM_sl, r_listM_t, r_start, wipeD, br_not, br_true, br_false, br_dec, List.map_cons, List.map_nil, List.length_cons, List.length_nil, List.replicate_succ, List.replicate_zero, List.cons_append, List.nil_append, List.getElem?_cons_zero, List.getElem?_cons_succ, List.getElem?_nil, List.set_cons_zero, List.set_cons_succ, Nat.reduceAdd, Nat.reduceSub, Nat.reduceLeDiff, Nat.zero_add, updM_same, true_and, List.isEmpty_nil, List.isEmpty_cons, Bool.not_true, Bool.not_false, Bool.not_not, q_revA, e_ra_l, e_ra_s, e_ra_t, e_ra_z, q_star, e_st_l, e_st_s, e_st_t, q_par3, e_p3, q_cont, r_mul2_i, r_mul2_l, r_mul2_s, r_le2_i, r_le2_s, r_lt2_i, r_lt2_s, r_sum, r_max2, r_min2, r_rst, r_spl, r_six, q_callX, q_callKX, q_raise, e_d1, q_try, q_tryW, q_xf, q_isX, e_cau, r_add2_i, r_add2_s, r_add2_t, r_add2_l, r_add2_rl, r_add2_lr, q_sliM, r_slM, q_kdef, q_mix21, q_mix03, at0, at1, cO, cX, w4, w7, w9, ifT, ifF]
    exact h
/-! lengths -/
structure Stk (M : Mp) (L : Addr) (ls : List Nat) : Prop where
  at_ : M L = some (.lst (ls.map nD))
def R_length_in : RD := fun xs M F => ∃ ps L ls, (xs = [.lst (ps.map pD), .ref L] ∨ xs = [.tup (ps.map pD), .ref L]) ∧ M L = some (.lst (ls.map nD)) ∧ Val ls.length ps ∧ ps.length ≤ 1000000 ∧ F (nD (lenI ps ls)) M
theorem ln_length_in : ∀ xs M F, R_length_in xs M F → xs.length = 2 := fun xs M F ⟨p, L, l, e, _⟩ => by rcases e with e | e <;> (rw [e]; rfl)
def lenD (ls : List Nat) : D → D
  | .str _ => .int 1
  | .int i => nD (ls.getD i.toNat 0)
  | d => d
theorem lenD_p (ls : List Nat) (p : Prt) : lenD ls (pD p) = nD (lenP ls p) := by
  cases p with
  | inl t => rfl
  | inr n => simp [pD, nD, lenD, lenP]
theorem at_nD {ls : List Nat} {n : Nat} (h : n < ls.length) : atI (ls.map nD) (n : Int) = some (nD (ls.getD n 0)) := by
  refine atI_nat ?_
  rw [List.getElem?_map, List.getD_eq_getElem?_getD]
  simp [h]
theorem sum_nD (l : List Nat) : ((l.map nD).map getInt).sum = ((l.sum : Nat) : Int) ∧ (l.map nD).all isInt = true := by
  induction l with
  | nil => exact ⟨rfl, rfl⟩
  | cons a l ih =>
    refine ⟨?_, ?_⟩
    · rw [List.map_cons, List.map_cons, List.sum_cons, ih.1, List.sum_cons]
      show ((a : Nat) : Int) + _ = _
      omega
    · rw [List.map_cons, List.all_cons, ih.2]
      rfl
theorem rd_length_in : ∀ ds M F, R_length_in ds M F → T_length_in { nx := fun _ M' => F .non M', rt := F } (startD 3 ds) M := by
  intro ds M F ⟨ps, L, ls, e, hM, hv, hl, h⟩
  have fin : F (.int ((((ps.map pD).map (lenD ls)).map getInt).sum)) M ∧ ((ps.map pD).map (lenD ls)).all isInt = true := by
    have e : (ps.map pD).map (lenD ls) = (ps.map (lenP ls)).map nD := by
      rw [List.map_map, List.map_map]
      exact List.map_congr_left fun p _ => lenD_p ls p
    rw [e]
    obtain ⟨a1, a2⟩ := sum_nD (ps.map (lenP ls))
    rw [a1]
    exact ⟨h, a2⟩
  have key : ∀ d ∈ ps.map pD, ∀ M', Kept M M' → ∀ (G : DK), G (lenD ls d) M' → ∀ (e0 : D), eO (isT .str d) (fun b => br b (G (.int 1) M') (ixR (.ref L) d M' G)) := by
    intro d hd M' k G g _
    obtain ⟨p, hp, rfl⟩ := List.mem_map.mp hd
    cases p with
    | inl t =>
      simp only [pD, q_v, q_c, q_tup, q_lst, q_op, q_nil, q_cons, q_tst, q_tru, q_andT, q_orT, q_notT, q_andV, q_orV, q_notV, q_ifE, q_next, q_seq, q_asg, q_drop, q_ret, q_retN, q_ifS, q_par, q_isi, q_blt, q_call, q_callK, q_kid, q_kswap, q_chain, q_neg, q_isN, q_notN, q_noO, q_someO, q_sli, q_rev, q_revM, q_bm, q_bm0, q_m1, q_seqI, q_rng, q_rng2, q_enum, q_zip, q_gnm, q_gtp, q_gs0, q_gs1, q_yes, q_put, e_bl, e_int, e_str, e_lst, e_n_non, e_n_bl, e_n_int, e_n_str, e_n_tup, e_n_lst, e_n_slst, e_n_dic, e_n_ref, e_seq_l, e_seq_s, e_seq_t, e_seq_z, e_rev_l, e_rev_s, e_i1, e_i2, e_l1, e_l1s, e_l2, e_p2, e_sl, e_o, e_ob, e_on, e_ml, e_md, e_c, e_tru_b, e_tru_n, e_tru_i, e_tru_t, e_tru_l, t_str_non, t_tup_non, t_int_non, t_bool_non, t_lst_non, t_dict_non, t_str_bl, t_tup_bl, t_int_bl, t_bool_bl, t_lst_bl, t_dict_bl, t_str_int, t_tup_int, t_int_int, t_bool_int, t_lst_int, t_dict_int, t_str_str, t_tup_str, t_int_str, t_bool_str, t_lst_str, t_dict_str, t_str_tup, t_tup_tup, t_int_tup, t_bool_tup, t_lst_tup, t_dict_tup, t_str_lst, t_tup_lst, t_int_lst, t_bool_lst, t_lst_lst, t_dict_lst, t_str_dic, t_tup_dic, t_int_dic, t_bool_dic, t_lst_dic, t_dict_dic, r_add_i, r_add_s, r_add_t, r_add_l, r_sub, r_mul, r_mul_l, r_fdiv, r_mod, r_pow, r_lt, r_ix_l, r_ix_t, r_ix_s, r_ix_rl, r_ix_rd, r_sl_l, r_sl_sl, r_sl_t, r_sl_s, r_len_l, r_len_sl, r_len_t, r_len_s, r_len_r, r_all, r_any, r_tuple_l, r_tuple_sl, r_tuple_t, r_tuple_r, r_list_l, r_list_sl, r_list_t, r_list_r, r_ord, r_repr, r_pop, r_app, r_ext, r_join, r_join_t, r_isl_r, r_isl_l, r_in, r_put_d, r_put_l, r_eq_i, r_eq_s, r_ne_i, r_ne_s, r_eq_t0, r_ne_t0, r_eq_r0, r_ne_r0, r_eq_l0, r_ne_l0, q_lstM, q_frz, e_fz_r, e_fz_non, e_fz_bl, e_fz_int, e_fz_str, e_fz_tup, e_fz_lst, e_fz_dic, q_drp, q_zs, e_zs_tup_tup, e_zs_tup_lst, e_zs_tup_slst, e_zs_lst_tup, e_zs_lst_lst, e_zs_lst_slst, e_zs_slst_tup, e_zs_slst_lst, e_zs_slst_slst, r_mem_s, r_mem_t, r_mem_l, r_int_i, r_int_b, r_listM_l, r_listM_sl, r_listM_t, r_start, wipeD, br_not, br_true, br_false, br_dec, List.map_cons, List.map_nil, List.length_cons, List.length_nil, List.replicate_succ, List.replicate_zero, List.cons_append, List.nil_append, List.getElem?_cons_zero, List.getElem?_cons_succ, List.getElem?_nil, List.set_cons_zero, List.set_cons_succ, Nat.reduceAdd, Nat.reduceSub, Nat.reduceLeDiff, Nat.zero_add, updM_same, true_and, List.isEmpty_nil, List.isEmpty_cons, Bool.not_true, Bool.not_false, Bool.not_not, q_revA, e_ra_l, e_ra_s, e_ra_t, e_ra_z, q_star, e_st_l, e_st_s, e_st_t, q_par3, e_p3, q_cont, r_mul2_i, r_mul2_l, r_mul2_s, r_le2_i, r_le2_s, r_lt2_i, r_lt2_s, r_sum, r_max2, r_min2, r_rst, r_spl, r_six, q_callX, q_callKX, q_raise, e_d1, q_try, q_tryW, q_xf, q_isX, e_cau, r_add2_i, r_add2_s, r_add2_t, r_add2_l, r_add2_rl, r_add2_lr, q_sliM, r_slM, q_kdef, q_mix21, q_mix03]
      exact g
    | inr n =>
      have hn := hv n hp
      have e := at_nD hn
      simp only [pD, nD, q_v, q_c, q_tup, q_lst, q_op, q_nil, q_cons, q_tst, q_tru, q_andT, q_orT, q_notT, q_andV, q_orV, q_notV, q_ifE, q_next, q_seq, q_asg, q_drop, q_ret, q_retN, q_ifS, q_par, q_isi, q_blt, q_call, q_callK, q_kid, q_kswap, q_chain, q_neg, q_isN, q_notN, q_noO, q_someO, q_sli, q_rev, q_revM, q_bm, q_bm0, q_m1, q_seqI, q_rng, q_rng2, q_enum, q_zip, q_gnm, q_gtp, q_gs0, q_gs1, q_yes, q_put, e_bl, e_int, e_str, e_lst, e_n_non, e_n_bl, e_n_int, e_n_str, e_n_tup, e_n_lst, e_n_slst, e_n_dic, e_n_ref, e_seq_l, e_seq_s, e_seq_t, e_seq_z, e_rev_l, e_rev_s, e_i1, e_i2, e_l1, e_l1s, e_l2, e_p2, e_sl, e_o, e_ob, e_on, e_ml, e_md, e_c, e_tru_b, e_tru_n, e_tru_i, e_tru_t, e_tru_l, t_str_non, t_tup_non, t_int_non, t_bool_non, t_lst_non, t_dict_non, t_str_bl, t_tup_bl, t_int_bl, t_bool_bl, t_lst_bl, t_dict_bl, t_str_int, t_tup_int, t_int_int, t_bool_int, t_lst_int, t_dict_int, t_str_str, t_tup_str, t_int_str, t_bool_str, t_lst_str, t_dict_str, t_str_tup, t_tup_tup, t_int_tup, t_bool_tup, t_lst_tup, t_dict_tup, t_str_lst, t_tup_lst, t_int_lst, t_bool_lst, t_lst_lst, t_dict_lst, t_str_dic, t_tup_dic, t_int_dic, t_bool_dic, t_lst_dic, t_dict_dic, r_add_i, r_add_s, r_add_t, r_add_l, r_sub, r_mul, r_mul_l, r_fdiv, r_mod, r_pow, r_lt, r_ix_l, r_ix_t, r_ix_s, r_ix_rl, r_ix_rd, r_sl_l, r_sl_sl, r_sl_t, r_sl_s, r_len_l, r_len_sl, r_len_t, r_len_s, r_len_r, r_all, r_any, r_tuple_l, r_tuple_sl, r_tuple_t, r_tuple_r, r_list_l, r_list_sl, r_list_t, r_list_r, r_ord, r_repr, r_pop, r_app, r_ext, r_join, r_join_t, r_isl_r, r_isl_l, r_in, r_put_d, r_put_l, r_eq_i, r_eq_s, r_ne_i, r_ne_s, r_eq_t0, r_ne_t0, r_eq_r0, r_ne_r0, r_eq_l0, r_ne_l0, q_lstM, q_frz, e_fz_r, e_fz_non, e_fz_bl, e_fz_int, e_fz_str, e_fz_tup, e_fz_lst, e_fz_dic, q_drp, q_zs, e_zs_tup_tup, e_zs_tup_lst, e_zs_tup_slst, e_zs_lst_tup, e_zs_lst_lst, e_zs_lst_slst, e_zs_slst_tup, e_zs_slst_lst, e_zs_slst_slst, r_mem_s, r_mem_t, r_mem_l, r_int_i, r_int_b, r_listM_l, r_listM_sl, r_listM_t, r_start, wipeD, br_not, br_true, br_false, br_dec, List.map_cons, List.map_nil, List.length_cons, List.length_nil, List.replicate_succ, List.replicate_zero, List.cons_append, List.nil_append, List.getElem?_cons_zero, List.getElem?_cons_succ, List.getElem?_nil, List.set_cons_zero, List.set_cons_succ, Nat.reduceAdd, Nat.reduceSub, Nat.reduceLeDiff, Nat.zero_add, updM_same, true_and, List.isEmpty_nil, List.isEmpty_cons, Bool.not_true, Bool.not_false, Bool.not_not, q_revA, e_ra_l, e_ra_s, e_ra_t, e_ra_z, q_star, e_st_l, e_st_s, e_st_t, q_par3, e_p3, q_cont, r_mul2_i, r_mul2_l, r_mul2_s, r_le2_i, r_le2_s, r_lt2_i, r_lt2_s, r_sum, r_max2, r_min2, r_rst, r_spl, r_six, q_callX, q_callKX, q_raise, e_d1, q_try, q_tryW, q_xf, q_isX, e_cau, r_add2_i, r_add2_s, r_add2_t, r_add2_l, r_add2_rl, r_add2_lr, q_sliM, r_slM, q_kdef, q_mix21, q_mix03, k _ _ hM] at *
      rw [e]
      simpa [lenD, nD, eO] using g
  have lp : (ps.map pD).length ≤ 1000000 := by rw [List.length_map]; exact hl
  rcases e with e | e <;>
  · subst e
    simp only [T_length_in, q_v, q_c, q_tup, q_lst, q_op, q_nil, q_cons, q_tst, q_tru, q_andT, q_orT, q_notT, q_andV, q_orV, q_notV, q_ifE, q_next, q_seq, q_asg, q_drop, q_ret, q_retN, q_ifS, q_par, q_isi, q_blt, q_call, q_callK, q_kid, q_kswap, q_chain, q_neg, q_isN, q_notN, q_noO, q_someO, q_sli, q_rev, q_revM, q_bm, q_bm0, q_m1, q_seqI, q_rng, q_rng2, q_enum, q_zip, q_gnm, q_gtp, q_gs0, q_gs1, q_yes, q_put, e_bl, e_int, e_str, e_lst, e_n_non, e_n_bl, e_n_int, e_n_str, e_n_tup, e_n_lst, e_n_slst, e_n_dic, e_n_ref, e_seq_l, e_seq_s, e_seq_t, e_seq_z, e_rev_l, e_rev_s, e_i1, e_i2, e_l1, e_l1s, e_l2, e_p2, e_sl, e_o, e_ob, e_on, e_ml, e_md, e_c, e_tru_b, e_tru_n, e_tru_i, e_tru_t, e_tru_l, t_str_non, t_tup_non, t_int_non, t_bool_non, t_lst_non, t_dict_non, t_str_bl, t_tup_bl, t_int_bl, t_bool_bl, t_lst_bl, t_dict_bl, t_str_int, t_tup_int, t_int_int, t_bool_int, t_lst_int, t_dict_int, t_str_str, t_tup_str, t_int_str, t_bool_str, t_lst_str, t_dict_str, t_str_tup, t_tup_tup, t_int_tup, t_bool_tup, t_lst_tup, t_dict_tup, t_str_lst, t_tup_lst, t_int_lst, t_bool_lst, t_lst_lst, t_dict_lst, t_str_dic, t_tup_dic, t_int_dic, t_bool_dic, t_lst_dic, t_dict_dic, r_add_i, r_add_s, r_add_t, r_add_l, r_sub, r_mul, r_mul_l, r_fdiv, r_mod, r_pow, r_lt, r_ix_l, r_ix_t, r_ix_s, r_ix_rl, r_ix_rd, r_sl_l, r_sl_sl, r_sl_t, r_sl_s, r_len_l, r_len_sl, r_len_t, r_len_s, r_len_r, r_all, r_any, r_tuple_l, r_tuple_sl, r_tuple_t, r_tuple_r, r_list_l, r_list_sl, r_list_t, r_list_r, r_ord, r_repr, r_pop, r_app, r_ext, r_join, r_join_t, r_isl_r, r_isl_l, r_in, r_put_d, r_put_l, r_eq_i, r_eq_s, r_ne_i, r_ne_s, r_eq_t0, r_ne_t0, r_eq_r0, r_ne_r0, r_eq_l0, r_ne_l0, q_lstM, q_frz, e_fz_r, e_fz_non, e_fz_bl, e_fz_int, e_fz_str, e_fz_tup, e_fz_lst, e_fz_dic, q_drp, q_zs, e_zs_tup_tup, e_zs_tup_lst, e_zs_tup_slst, e_zs_lst_tup, e_zs_lst_lst, e_zs_lst_slst, e_zs_slst_tup, e_zs_slst_lst, e_zs_slst_slst, r_mem_s, r_mem_t, r_mem_l, r_int_i, r_int_b, r_listM_l, r_listM_sl, r_listM_t, r_start, wipeD, br_not, br_true, br_false, br_dec, List.map_cons, List.map_nil, List.length_cons, List.length_nil, List.replicate_succ, List.replicate_zero, List.cons_append, List.nil_append, List.getElem?_cons_zero, List.getElem?_cons_succ, List.getElem?_nil, List.set_cons_zero, List.set_cons_succ, Nat.reduceAdd, Nat.reduceSub, Nat.reduceLeDiff, Nat.zero_add, updM_same, true_and, List.isEmpty_nil, List.isEmpty_cons, Bool.not_true, Bool.not_false, Bool.not_not, q_revA, e_ra_l, e_ra_s, e_ra_t, e_ra_z, q_star, e_st_l, e_st_s, e_st_t, q_par3, e_p3, q_cont, r_mul2_i, r_mul2_l, r_mul2_s, r_le2_i, r_le2_s, r_lt2_i, r_lt2_s, r_sum, r_max2, r_min2, r_rst, r_spl, r_six, q_callX, q_callKX, q_raise, e_d1, q_try, q_tryW, q_xf, q_isX, e_cau, r_add2_i, r_add2_s, r_add2_t, r_add2_l, r_add2_rl, r_add2_lr, q_sliM, r_slM, q_kdef, q_mix21, q_mix03]
    refine lc_mapK (lenD ls) (xs := ps.map pD) lp (fun G g => by simp only [q_v, q_c, q_tup, q_lst, q_op, q_nil, q_cons, q_tst, q_tru, q_andT, q_orT, q_notT, q_andV, q_orV, q_notV, q_ifE, q_next, q_seq, q_asg, q_drop, q_ret, q_retN, q_ifS, q_par, q_isi, q_blt, q_call, q_callK, q_kid, q_kswap, q_chain, q_neg, q_isN, q_notN, q_noO, q_someO, q_sli, q_rev, q_revM, q_bm, q_bm0, q_m1, q_seqI, q_rng, q_rng2, q_enum, q_zip, q_gnm, q_gtp, q_gs0, q_gs1, q_yes, q_put, e_bl, e_int, e_str, e_lst, e_n_non, e_n_bl, e_n_int, e_n_str, e_n_tup, e_n_lst, e_n_slst, e_n_dic, e_n_ref, e_seq_l, e_seq_s, e_seq_t, e_seq_z, e_rev_l, e_rev_s, e_i1, e_i2, e_l1, e_l1s, e_l2, e_p2, e_sl, e_o, e_ob, e_on, e_ml, e_md, e_c, e_tru_b, e_tru_n, e_tru_i, e_tru_t, e_tru_l, t_str_non, t_tup_non, t_int_non, t_bool_non, t_lst_non, t_dict_non, t_str_bl, t_tup_bl, t_int_bl, t_bool_bl, t_lst_bl, t_dict_bl, t_str_int, t_tup_int, t_int_int, t_bool_int, t_lst_int, t_dict_int, t_str_str, t_tup_str, t_int_str, t_bool_str, t_lst_str, t_dict_str, t_str_tup, t_tup_tup, t_int_tup, t_bool_tup, t_lst_tup, t_dict_tup, t_str_lst, t_tup_lst, t_int_lst, t_bool_lst, t_lst_lst, t_dict_lst, t_str_dic, t_tup_dic, t_int_dic, t_bool_dic, t_lst_dic, t_dict_dic, r_add_i, r_add_s, r_add_t, r_add_l, r_sub, r_mul, r_mul_l, r_fdiv, r_mod, r_pow, r_lt, r_ix_l, r_ix_t, r_ix_s, r_ix_rl, r_ix_rd, r_sl_l, r_sl_sl, r_sl_t, r_sl_s, r_len_l, r_len_sl, r_len_t, r_len_s, r_len_r, r_all, r_any, r_tuple_l, r_tuple_sl, r_tuple_t, r_tuple_r, r_list_l, r_list_sl, r_list_t, r_list_r, r_ord, r_repr, r_pop, r_app, r_ext, r_join, r_join_t, r_isl_r, r_isl_l, r_in, r_put_d, r_put_l, r_eq_i, r_eq_s, r_ne_i, r_ne_s, r_eq_t0, r_ne_t0, r_eq_r0, r_ne_r0, r_eq_l0, r_ne_l0, q_lstM, q_frz, e_fz_r, e_fz_non, e_fz_bl, e_fz_int, e_fz_str, e_fz_tup, e_fz_lst, e_fz_dic, q_drp, q_zs, e_zs_tup_tup, e_zs_tup_lst, e_zs_tup_slst, e_zs_lst_tup, e_zs_lst_lst, e_zs_lst_slst, e_zs_slst_tup, e_zs_slst_lst, e_zs_slst_slst, r_mem_s, r_mem_t, r_mem_l, r_int_i, r_int_b, r_listM_l, r_listM_sl, r_listM_t, r_start, wipeD, br_not, br_true, br_false, br_dec, List.map_cons, List.map_nil, List.length_cons, List.length_nil, List.replicate_succ, List.replicate_zero, List.cons_append, List.nil_append, List.getElem?_cons_zero, List.getElem?_cons_succ, List.getElem?_nil, List.set_cons_zero, List.set_cons_succ, Nat.reduceAdd, Nat.reduceSub, Nat.reduceLeDiff, Nat.zero_add, updM_same, true_and, List.isEmpty_nil, List.isEmpty_cons, Bool.not_true, Bool.not_false, Bool.not_not, q_revA, e_ra_l, e_ra_s, e_ra_t, e_ra_z, q_star, e_st_l, e_st_s, e_st_t, q_par3, e_p3, q_cont, r_mul2_i, r_mul2_l, r_mul2_s, r_le2_i, r_le2_s, r_lt2_i, r_lt2_s, r_sum, r_max2, r_min2, r_rst, r_spl, r_six, q_callX, q_callKX, q_raise, e_d1, q_try, q_tryW, q_xf, q_isX, e_cau, r_add2_i, r_add2_s, r_add2_t, r_add2_l, r_add2_rl, r_add2_lr, q_sliM, r_slM, q_kdef, q_mix21, q_mix03]; exact g) (fun d hd => ?_) ?_
    · simp only [q_v, q_c, q_tup, q_lst, q_op, q_nil, q_cons, q_tst, q_tru, q_andT, q_orT, q_notT, q_andV, q_orV, q_notV, q_ifE, q_next, q_seq, q_asg, q_drop, q_ret, q_retN, q_ifS, q_par, q_isi, q_blt, q_call, q_callK, q_kid, q_kswap, q_chain, q_neg, q_isN, q_notN, q_noO, q_someO, q_sli, q_rev, q_revM, q_bm, q_bm0, q_m1, q_seqI, q_rng, q_rng2, q_enum, q_zip, q_gnm, q_gtp, q_gs0, q_gs1, q_yes, q_put, e_bl, e_int, e_str, e_lst, e_n_non, e_n_bl, e_n_int, e_n_str, e_n_tup, e_n_lst, e_n_slst, e_n_dic, e_n_ref, e_seq_l, e_seq_s, e_seq_t, e_seq_z, e_rev_l, e_rev_s, e_i1, e_i2, e_l1, e_l1s, e_l2, e_p2, e_sl, e_o, e_ob, e_on, e_ml, e_md, e_c, e_tru_b, e_tru_n, e_tru_i, e_tru_t, e_tru_l, t_str_non, t_tup_non, t_int_non, t_bool_non, t_lst_non, t_dict_non, t_str_bl, t_tup_bl, t_int_bl, t_bool_bl, t_lst_bl, t_dict_bl, t_str_int, t_tup_int, t_int_int, t_bool_int, t_lst_int, t_dict_int, t_str_str, t_tup_str, t_int_str, t_bool_str, t_lst_str, t_dict_str, t_str_tup, t_tup_tup, t_int_tup, t_bool_tup, t_lst_tup, t_dict_tup, t_str_lst, t_tup_lst, t_int_lst, t_bool_lst, t_lst_lst, t_dict_lst, t_str_dic, t_tup_dic, t_int_dic, t_bool_dic, t_lst_dic, t_dict_dic, r_add_i, r_add_s, r_add_t, r_add_l, r_sub, r_mul, r_mul_l, r_fdiv, r_mod, r_pow, r_lt, r_ix_l, r_ix_t, r_ix_s, r_ix_rl, r_ix_rd, r_sl_l, r_sl_sl, r_sl_t, r_sl_s, r_len_l, r_len_sl, r_len_t, r_len_s, r_len_r, r_all, r_any, r_tuple_l, r_tuple_sl, r_tuple_t, r_tuple_r, r_list_l, r_list_sl, r_list_t, r_list_r, r_ord, r_repr, r_pop, r_app, r_ext, r_join, r_join_t, r_isl_r, r_isl_l, r_in, r_put_d, r_put_l, r_eq_i, r_eq_s, r_ne_i, r_ne_s, r_eq_t0, r_ne_t0, r_eq_r0, r_ne_r0, r_eq_l0, r_ne_l0, q_lstM, q_frz, e_fz_r, e_fz_non, e_fz_bl, e_fz_int, e_fz_str, e_fz_tup, e_fz_lst, e_fz_dic, q_drp, q_zs, e_zs_tup_tup, e_zs_tup_lst, e_zs_tup_slst, e_zs_lst_tup, e_zs_lst_lst, e_zs_lst_slst, e_zs_slst_tup, e_zs_slst_lst, e_zs_slst_slst, r_mem_s, r_mem_t, r_mem_l, r_int_i, r_int_b, r_listM_l, r_listM_sl, r_listM_t, r_start, wipeD, br_not, br_true, br_false, br_dec, List.map_cons, List.map_nil, List.length_cons, List.length_nil, List.replicate_succ, List.replicate_zero, List.cons_append, List.nil_append, List.getElem?_cons_zero, List.getElem?_cons_succ, List.getElem?_nil, List.set_cons_zero, List.set_cons_succ, Nat.reduceAdd, Nat.reduceSub, Nat.reduceLeDiff, Nat.zero_add, updM_same, true_and, List.isEmpty_nil, List.isEmpty_cons, Bool.not_true, Bool.not_false, Bool.not_not, q_revA, e_ra_l, e_ra_s, e_ra_t, e_ra_z, q_star, e_st_l, e_st_s, e_st_t, q_par3, e_p3, q_cont, r_mul2_i, r_mul2_l, r_mul2_s, r_le2_i, r_le2_s, r_lt2_i, r_lt2_s, r_sum, r_max2, r_min2, r_rst, r_spl, r_six, q_callX, q_callKX, q_raise, e_d1, q_try, q_tryW, q_xf, q_isX, e_cau, r_add2_i, r_add2_s, r_add2_t, r_add2_l, r_add2_rl, r_add2_lr, q_sliM, r_slM, q_kdef, q_mix21, q_mix03]
      intro M' k G g
      exact key d hd M' k G g .non
    · simp only [q_v, q_c, q_tup, q_lst, q_op, q_nil, q_cons, q_tst, q_tru, q_andT, q_orT, q_notT, q_andV, q_orV, q_notV, q_ifE, q_next, q_seq, q_asg, q_drop, q_ret, q_retN, q_ifS, q_par, q_isi, q_blt, q_call, q_callK, q_kid, q_kswap, q_chain, q_neg, q_isN, q_notN, q_noO, q_someO, q_sli, q_rev, q_revM, q_bm, q_bm0, q_m1, q_seqI, q_rng, q_rng2, q_enum, q_zip, q_gnm, q_gtp, q_gs0, q_gs1, q_yes, q_put, e_bl, e_int, e_str, e_lst, e_n_non, e_n_bl, e_n_int, e_n_str, e_n_tup, e_n_lst, e_n_slst, e_n_dic, e_n_ref, e_seq_l, e_seq_s, e_seq_t, e_seq_z, e_rev_l, e_rev_s, e_i1, e_i2, e_l1, e_l1s, e_l2, e_p2, e_sl, e_o, e_ob, e_on, e_ml, e_md, e_c, e_tru_b, e_tru_n, e_tru_i, e_tru_t, e_tru_l, t_str_non, t_tup_non, t_int_non, t_bool_non, t_lst_non, t_dict_non, t_str_bl, t_tup_bl, t_int_bl, t_bool_bl, t_lst_bl, t_dict_bl, t_str_int, t_tup_int, t_int_int, t_bool_int, t_lst_int, t_dict_int, t_str_str, t_tup_str, t_int_str, t_bool_str, t_lst_str, t_dict_str, t_str_tup, t_tup_tup, t_int_tup, t_bool_tup, t_lst_tup, t_dict_tup, t_str_lst, t_tup_lst, t_int_lst, t_bool_lst, t_lst_lst, t_dict_lst, t_str_dic, t_tup_dic, t_int_dic, t_bool_dic, t_lst_dic, t_dict_dic, r_add_i, r_add_s, r_add_t, r_add_l, r_sub, r_mul, r_mul_l, r_fdiv, r_mod, r_pow, r_lt, r_ix_l, r_ix_t, r_ix_s, r_ix_rl, r_ix_rd, r_sl_l, r_sl_sl, r_sl_t, r_sl_s, r_len_l, r_len_sl, r_len_t, r_len_s, r_len_r, r_all, r_any, r_tuple_l, r_tuple_sl, r_tuple_t, r_tuple_r, r_list_l, r_list_sl, r_list_t, r_list_r, r_ord, r_repr, r_pop, r_app, r_ext, r_join, r_join_t, r_isl_r, r_isl_l, r_in, r_put_d, r_put_l, r_eq_i, r_eq_s, r_ne_i, r_ne_s, r_eq_t0, r_ne_t0, r_eq_r0, r_ne_r0, r_eq_l0, r_ne_l0, q_lstM, q_frz, e_fz_r, e_fz_non, e_fz_bl, e_fz_int, e_fz_str, e_fz_tup, e_fz_lst, e_fz_dic, q_drp, q_zs, e_zs_tup_tup, e_zs_tup_lst, e_zs_tup_slst, e_zs_lst_tup, e_zs_lst_lst, e_zs_lst_slst, e_zs_slst_tup, e_zs_slst_lst, e_zs_slst_slst, r_mem_s, r_mem_t, r_mem_l, r_int_i, r_int_b, r_listM_l, r_listM_sl, r_listM_t, r_start, wipeD, br_not, br_true, br_false, br_dec, List.map_cons, List.map_nil, List.length_cons, List.length_nil, List.replicate_succ, List.replicate_zero, List.cons_append, List.nil_append, List.getElem?_cons_zero, List.getElem?_cons_succ, List.getElem?_nil, List.set_cons_zero, List.set_cons_succ, Nat.reduceAdd, Nat.reduceSub, Nat.reduceLeDiff, Nat.zero_add, updM_same, true_and, List.isEmpty_nil, List.isEmpty_cons, Bool.not_true, Bool.not_false, Bool.not_not, q_revA, e_ra_l, e_ra_s, e_ra_t, e_ra_z, q_star, e_st_l, e_st_s, e_st_t, q_par3, e_p3, q_cont, r_mul2_i, r_mul2_l, r_mul2_s, r_le2_i, r_le2_s, r_lt2_i, r_lt2_s, r_sum, r_max2, r_min2, r_rst, r_spl, r_six, q_callX, q_callKX, q_raise, e_d1, q_try, q_tryW, q_xf, q_isX, e_cau, r_add2_i, r_add2_s, r_add2_t, r_add2_l, r_add2_rl, r_add2_lr, q_sliM, r_slM, q_kdef, q_mix21, q_mix03]
      exact ⟨fin.2, fin.1⟩
/-! rows -/
structure StOk (k : Nat) (s : Stp) : Prop where
  val : Val k (parts s)
  few : few s
structure RwOk (rows : List Stp) : Prop where
  st : ∀ i s, rows[i]? = some s → StOk i s
  le : rows.length ≤ 1000
theorem RwOk.rws {rows : List Stp} (h : RwOk rows) : Rws rows := ⟨fun i s g => (h.st i s g).val⟩
def rD (rows : List Stp) : D := .tup (rows.map sD)
def psD (ps : List Prt) : D := .tup (ps.map pD)
theorem parts_len {k : Nat} {s : Stp} (h : StOk k s) : (parts s).length ≤ 3000 := by
  cases s with
  | tok t => exact (by decide : 1 ≤ 3000)
  | oper n a b => exact (by decide : 5 ≤ 3000)
  | call n ns =>
    have h1 : ns.length ≤ 1000 := h.few
    have := listed_len ns
    unfold parts
    simp only [List.length_cons, List.length_append, List.length_nil]
    omega
  | meth n a ns =>
    have h1 : ns.length ≤ 1000 := h.few
    have := listed_len ns
    unfold parts
    simp only [List.length_cons, List.length_append, List.length_nil]
    omega
def R_length_of : RD := fun xs M F => ∃ rows ps, xs = [rD rows, psD ps] ∧ RwOk rows ∧ Val rows.length ps ∧ ps.length ≤ 1000 ∧ F (nD (exI ps (exs rows)).length) M
theorem ln_length_of : ∀ xs M F, R_length_of xs M F → xs.length = 2 := fun xs M F ⟨p, L, e, _⟩ => by rw [e]; rfl
theorem exs_take (rows : List Stp) (k : Nat) : exs (rows.take k) = (exs rows).take k := bld_take _ rows k
theorem exs_len (rows : List Stp) : (exs rows).length = rows.length := bld_len _ rows
theorem rd_length_of : ∀ ds M F, R_length_of ds M F → T_length_of R_length_in R_parts_of { nx := fun _ M' => F .non M', rt := F } (startD 4 ds) M := by
  intro ds M F ⟨rows, ps, e, hr, hv, hl, h⟩
  subst e
  simp only [T_length_of, rD, psD, q_v, q_c, q_tup, q_lst, q_op, q_nil, q_cons, q_tst, q_tru, q_andT, q_orT, q_notT, q_andV, q_orV, q_notV, q_ifE, q_next, q_seq, q_asg, q_drop, q_ret, q_retN, q_ifS, q_par, q_isi, q_blt, q_call, q_callK, q_kid, q_kswap, q_chain, q_neg, q_isN, q_notN, q_noO, q_someO, q_sli, q_rev, q_revM, q_bm, q_bm0, q_m1, q_seqI, q_rng, q_rng2, q_enum, q_zip, q_gnm, q_gtp, q_gs0, q_gs1, q_yes, q_put, e_bl, e_int, e_str, e_lst, e_n_non, e_n_bl, e_n_int, e_n_str, e_n_tup, e_n_lst, e_n_slst, e_n_dic, e_n_ref, e_seq_l, e_seq_s, e_seq_t, e_seq_z, e_rev_l, e_rev_s, e_i1, e_i2, e_l1, e_l1s, e_l2, e_p2, e_sl, e_o, e_ob, e_on, e_ml, e_md, e_c, e_tru_b, e_tru_n, e_tru_i, e_tru_t, e_tru_l, t_str_non, t_tup_non, t_int_non, t_bool_non, t_lst_non, t_dict_non, t_str_bl, t_tup_bl, t_int_bl, t_bool_bl, t_lst_bl, t_dict_bl, t_str_int, t_tup_int, t_int_int, t_bool_int, t_lst_int, t_dict_int, t_str_str, t_tup_str, t_int_str, t_bool_str, t_lst_str, t_dict_str, t_str_tup, t_tup_tup, t_int_tup, t_bool_tup, t_lst_tup, t_dict_tup, t_str_lst, t_tup_lst, t_int_lst, t_bool_lst, t_lst_lst, t_dict_lst, t_str_dic, t_tup_dic, t_int_dic, t_bool_dic, t_lst_dic, t_dict_dic, r_add_i, r_add_s, r_add_t, r_add_l, r_sub, r_mul, r_mul_l, r_fdiv, r_mod, r_pow, r_lt, r_ix_l, r_ix_t, r_ix_s, r_ix_rl, r_ix_rd, r_sl_l, r_sl_sl, r_sl_t, r_sl_s, r_len_l, r_len_sl, r_len_t, r_len_s, r_len_r, r_all, r_any, r_tuple_l, r_tuple_sl, r_tuple_t, r_tuple_r, r_list_l, r_list_sl, r_list_t, r_list_r, r_ord, r_repr, r_pop, r_app, r_ext, r_join, r_join_t, r_isl_r, r_isl_l, r_in, r_put_d, r_put_l, r_eq_i, r_eq_s, r_ne_i, r_ne_s, r_eq_t0, r_ne_t0, r_eq_r0, r_ne_r0, r_eq_l0, r_ne_l0, q_lstM, q_frz, e_fz_r, e_fz_non, e_fz_bl, e_fz_int, e_fz_str, e_fz_tup, e_fz_lst, e_fz_dic, q_drp, q_zs, e_zs_tup_tup, e_zs_tup_lst, e_zs_tup_slst, e_zs_lst_tup, e_zs_lst_lst, e_zs_lst_slst, e_zs_slst_tup, e_zs_slst_lst, e_zs_slst_slst, r_mem_s, r_mem_t, r_mem_l, r_int_i, r_int_b, r_listM_l, r_listM_sl, r_listM_t, r_start, wipeD, br_not, br_true, br_false, br_dec, List.map_cons, List.map_nil, List.length_cons, List.length_nil, List.replicate_succ, List.replicate_zero, List.cons_append, List.nil_append, List.getElem?_cons_zero, List.getElem?_cons_succ, List.getElem?_nil, List.set_cons_zero, List.set_cons_succ, Nat.reduceAdd, Nat.reduceSub, Nat.reduceLeDiff, Nat.zero_add, updM_same, true_and, List.isEmpty_nil, List.isEmpty_cons, Bool.not_true, Bool.not_false, Bool.not_not, q_revA, e_ra_l, e_ra_s, e_ra_t, e_ra_z, q_star, e_st_l, e_st_s, e_st_t, q_par3, e_p3, q_cont, r_mul2_i, r_mul2_l, r_mul2_s, r_le2_i, r_le2_s, r_lt2_i, r_lt2_s, r_sum, r_max2, r_min2, r_rst, r_spl, r_six, q_callX, q_callKX, q_raise, e_d1, q_try, q_tryW, q_xf, q_isX, e_cau, r_add2_i, r_add2_s, r_add2_t, r_add2_l, r_add2_rl, r_add2_lr, q_sliM, r_slM, q_kdef, q_mix21, q_mix03, q_for]
  intro L hL
  refine for_inv (fun i ds' M' => M' = updM M L (.lst ((((exs rows).take i).map List.length).map nD)) ∧ ∃ x, ds' = [some (.tup (rows.map sD)), some (.tup (ps.map pD)), some (.ref L), x]) ⟨by rw [List.take_zero]; rfl, none, rfl⟩ (fun i d ds' M' hi w => ?_) fun ds' M' w => ?_
  · obtain ⟨rfl, x, rfl⟩ := w
    rw [List.getElem?_map] at hi
    obtain ⟨s, gs, rfl⟩ := Option.map_eq_some_iff.mp hi
    have hlt := (List.getElem?_eq_some_iff.mp gs).1
    have so := hr.st i s gs
    have le := hr.le
    have tl : ((exs rows).take i).length = i := by rw [List.length_take, exs_len]; omega
    simp only [q_v, q_c, q_tup, q_lst, q_op, q_nil, q_cons, q_tst, q_tru, q_andT, q_orT, q_notT, q_andV, q_orV, q_notV, q_ifE, q_next, q_seq, q_asg, q_drop, q_ret, q_retN, q_ifS, q_par, q_isi, q_blt, q_call, q_callK, q_kid, q_kswap, q_chain, q_neg, q_isN, q_notN, q_noO, q_someO, q_sli, q_rev, q_revM, q_bm, q_bm0, q_m1, q_seqI, q_rng, q_rng2, q_enum, q_zip, q_gnm, q_gtp, q_gs0, q_gs1, q_yes, q_put, e_bl, e_int, e_str, e_lst, e_n_non, e_n_bl, e_n_int, e_n_str, e_n_tup, e_n_lst, e_n_slst, e_n_dic, e_n_ref, e_seq_l, e_seq_s, e_seq_t, e_seq_z, e_rev_l, e_rev_s, e_i1, e_i2, e_l1, e_l1s, e_l2, e_p2, e_sl, e_o, e_ob, e_on, e_ml, e_md, e_c, e_tru_b, e_tru_n, e_tru_i, e_tru_t, e_tru_l, t_str_non, t_tup_non, t_int_non, t_bool_non, t_lst_non, t_dict_non, t_str_bl, t_tup_bl, t_int_bl, t_bool_bl, t_lst_bl, t_dict_bl, t_str_int, t_tup_int, t_int_int, t_bool_int, t_lst_int, t_dict_int, t_str_str, t_tup_str, t_int_str, t_bool_str, t_lst_str, t_dict_str, t_str_tup, t_tup_tup, t_int_tup, t_bool_tup, t_lst_tup, t_dict_tup, t_str_lst, t_tup_lst, t_int_lst, t_bool_lst, t_lst_lst, t_dict_lst, t_str_dic, t_tup_dic, t_int_dic, t_bool_dic, t_lst_dic, t_dict_dic, r_add_i, r_add_s, r_add_t, r_add_l, r_sub, r_mul, r_mul_l, r_fdiv, r_mod, r_pow, r_lt, r_ix_l, r_ix_t, r_ix_s, r_ix_rl, r_ix_rd, r_sl_l, r_sl_sl, r_sl_t, r_sl_s, r_len_l, r_len_sl, r_len_t, r_len_s, r_len_r, r_all, r_any, r_tuple_l, r_tuple_sl, r_tuple_t, r_tuple_r, r_list_l, r_list_sl, r_list_t, r_list_r, r_ord, r_repr, r_pop, r_app, r_ext, r_join, r_join_t, r_isl_r, r_isl_l, r_in, r_put_d, r_put_l, r_eq_i, r_eq_s, r_ne_i, r_ne_s, r_eq_t0, r_ne_t0, r_eq_r0, r_ne_r0, r_eq_l0, r_ne_l0, q_lstM, q_frz, e_fz_r, e_fz_non, e_fz_bl, e_fz_int, e_fz_str, e_fz_tup, e_fz_lst, e_fz_dic, q_drp, q_zs, e_zs_tup_tup, e_zs_tup_lst, e_zs_tup_slst, e_zs_lst_tup, e_zs_lst_lst, e_zs_lst_slst, e_zs_slst_tup, e_zs_slst_lst, e_zs_slst_slst, r_mem_s, r_mem_t, r_mem_l, r_int_i, r_int_b, r_listM_l, r_listM_sl, r_listM_t, r_start, wipeD, br_not, br_true, br_false, br_dec, List.map_cons, List.map_nil, List.length_cons, List.length_nil, List.replicate_succ, List.replicate_zero, List.cons_append, List.nil_append, List.getElem?_cons_zero, List.getElem?_cons_succ, List.getElem?_nil, List.set_cons_zero, List.set_cons_succ, Nat.reduceAdd, Nat.reduceSub, Nat.reduceLeDiff, Nat.zero_add, updM_same, true_and, List.isEmpty_nil, List.isEmpty_cons, Bool.not_true, Bool.not_false, Bool.not_not, q_revA, e_ra_l, e_ra_s, e_ra_t, e_ra_z, q_star, e_st_l, e_st_s, e_st_t, q_par3, e_p3, q_cont, r_mul2_i, r_mul2_l, r_mul2_s, r_le2_i, r_le2_s, r_lt2_i, r_lt2_s, r_sum, r_max2, r_min2, r_rst, r_spl, r_six, q_callX, q_callKX, q_raise, e_d1, q_try, q_tryW, q_xf, q_isX, e_cau, r_add2_i, r_add2_s, r_add2_t, r_add2_l, r_add2_rl, r_add2_lr, q_sliM, r_slM, q_kdef, q_mix21, q_mix03]
    refine ⟨s, rfl, so.few, ?_⟩
    refine ⟨parts s, L, ((exs rows).take i).map List.length, .inl rfl, updM_same, by rw [List.length_map, tl]; exact so.val, Nat.le_trans (parts_len so) (by decide), ?_⟩
    rw [lenI_ex, exI_take so.val]
    simp only [q_v, q_c, q_tup, q_lst, q_op, q_nil, q_cons, q_tst, q_tru, q_andT, q_orT, q_notT, q_andV, q_orV, q_notV, q_ifE, q_next, q_seq, q_asg, q_drop, q_ret, q_retN, q_ifS, q_par, q_isi, q_blt, q_call, q_callK, q_kid, q_kswap, q_chain, q_neg, q_isN, q_notN, q_noO, q_someO, q_sli, q_rev, q_revM, q_bm, q_bm0, q_m1, q_seqI, q_rng, q_rng2, q_enum, q_zip, q_gnm, q_gtp, q_gs0, q_gs1, q_yes, q_put, e_bl, e_int, e_str, e_lst, e_n_non, e_n_bl, e_n_int, e_n_str, e_n_tup, e_n_lst, e_n_slst, e_n_dic, e_n_ref, e_seq_l, e_seq_s, e_seq_t, e_seq_z, e_rev_l, e_rev_s, e_i1, e_i2, e_l1, e_l1s, e_l2, e_p2, e_sl, e_o, e_ob, e_on, e_ml, e_md, e_c, e_tru_b, e_tru_n, e_tru_i, e_tru_t, e_tru_l, t_str_non, t_tup_non, t_int_non, t_bool_non, t_lst_non, t_dict_non, t_str_bl, t_tup_bl, t_int_bl, t_bool_bl, t_lst_bl, t_dict_bl, t_str_int, t_tup_int, t_int_int, t_bool_int, t_lst_int, t_dict_int, t_str_str, t_tup_str, t_int_str, t_bool_str, t_lst_str, t_dict_str, t_str_tup, t_tup_tup, t_int_tup, t_bool_tup, t_lst_tup, t_dict_tup, t_str_lst, t_tup_lst, t_int_lst, t_bool_lst, t_lst_lst, t_dict_lst, t_str_dic, t_tup_dic, t_int_dic, t_bool_dic, t_lst_dic, t_dict_dic, r_add_i, r_add_s, r_add_t, r_add_l, r_sub, r_mul, r_mul_l, r_fdiv, r_mod, r_pow, r_lt, r_ix_l, r_ix_t, r_ix_s, r_ix_rl, r_ix_rd, r_sl_l, r_sl_sl, r_sl_t, r_sl_s, r_len_l, r_len_sl, r_len_t, r_len_s, r_len_r, r_all, r_any, r_tuple_l, r_tuple_sl, r_tuple_t, r_tuple_r, r_list_l, r_list_sl, r_list_t, r_list_r, r_ord, r_repr, r_pop, r_app, r_ext, r_join, r_join_t, r_isl_r, r_isl_l, r_in, r_put_d, r_put_l, r_eq_i, r_eq_s, r_ne_i, r_ne_s, r_eq_t0, r_ne_t0, r_eq_r0, r_ne_r0, r_eq_l0, r_ne_l0, q_lstM, q_frz, e_fz_r, e_fz_non, e_fz_bl, e_fz_int, e_fz_str, e_fz_tup, e_fz_lst, e_fz_dic, q_drp, q_zs, e_zs_tup_tup, e_zs_tup_lst, e_zs_tup_slst, e_zs_lst_tup, e_zs_lst_lst, e_zs_lst_slst, e_zs_slst_tup, e_zs_slst_lst, e_zs_slst_slst, r_mem_s, r_mem_t, r_mem_l, r_int_i, r_int_b, r_listM_l, r_listM_sl, r_listM_t, r_start, wipeD, br_not, br_true, br_false, br_dec, List.map_cons, List.map_nil, List.length_cons, List.length_nil, List.replicate_succ, List.replicate_zero, List.cons_append, List.nil_append, List.getElem?_cons_zero, List.getElem?_cons_succ, List.getElem?_nil, List.set_cons_zero, List.set_cons_succ, Nat.reduceAdd, Nat.reduceSub, Nat.reduceLeDiff, Nat.zero_add, updM_same, true_and, List.isEmpty_nil, List.isEmpty_cons, Bool.not_true, Bool.not_false, Bool.not_not, q_revA, e_ra_l, e_ra_s, e_ra_t, e_ra_z, q_star, e_st_l, e_st_s, e_st_t, q_par3, e_p3, q_cont, r_mul2_i, r_mul2_l, r_mul2_s, r_le2_i, r_le2_s, r_lt2_i, r_lt2_s, r_sum, r_max2, r_min2, r_rst, r_spl, r_six, q_callX, q_callKX, q_raise, e_d1, q_try, q_tryW, q_xf, q_isX, e_cau, r_add2_i, r_add2_s, r_add2_t, r_add2_l, r_add2_rl, r_add2_lr, q_sliM, r_slM, q_kdef, q_mix21, q_mix03, updM_two]
    have et : (exs rows).take (i + 1) = (exs rows).take i ++ [exI (parts s) (exs rows)] := by
      rw [List.take_add_one, exs_get hr.rws gs]
      rfl
    refine ⟨by rw [List.length_map, List.length_map, tl]; omega, ?_, _, rfl⟩
    rw [et, List.map_append, List.map_append]
    rfl
  · obtain ⟨rfl, x, rfl⟩ := w
    rw [List.length_map, List.take_of_length_le (by rw [exs_len]; exact Nat.le_refl _)]
    simp only [q_v, q_c, q_tup, q_lst, q_op, q_nil, q_cons, q_tst, q_tru, q_andT, q_orT, q_notT, q_andV, q_orV, q_notV, q_ifE, q_next, q_seq, q_asg, q_drop, q_ret, q_retN, q_ifS, q_par, q_isi, q_blt, q_call, q_callK, q_kid, q_kswap, q_chain, q_neg, q_isN, q_notN, q_noO, q_someO, q_sli, q_rev, q_revM, q_bm, q_bm0, q_m1, q_seqI, q_rng, q_rng2, q_enum, q_zip, q_gnm, q_gtp, q_gs0, q_gs1, q_yes, q_put, e_bl, e_int, e_str, e_lst, e_n_non, e_n_bl, e_n_int, e_n_str, e_n_tup, e_n_lst, e_n_slst, e_n_dic, e_n_ref, e_seq_l, e_seq_s, e_seq_t, e_seq_z, e_rev_l, e_rev_s, e_i1, e_i2, e_l1, e_l1s, e_l2, e_p2, e_sl, e_o, e_ob, e_on, e_ml, e_md, e_c, e_tru_b, e_tru_n, e_tru_i, e_tru_t, e_tru_l, t_str_non, t_tup_non, t_int_non, t_bool_non, t_lst_non, t_dict_non, t_str_bl, t_tup_bl, t_int_bl, t_bool_bl, t_lst_bl, t_dict_bl, t_str_int, t_tup_int, t_int_int, t_bool_int, t_lst_int, t_dict_int, t_str_str, t_tup_str, t_int_str, t_bool_str, t_lst_str, t_dict_str, t_str_tup, t_tup_tup, t_int_tup, t_bool_tup, t_lst_tup, t_dict_tup, t_str_lst, t_tup_lst, t_int_lst, t_bool_lst, t_lst_lst, t_dict_lst, t_str_dic, t_tup_dic, t_int_dic, t_bool_dic, t_lst_dic, t_dict_dic, r_add_i, r_add_s, r_add_t, r_add_l, r_sub, r_mul, r_mul_l, r_fdiv, r_mod, r_pow, r_lt, r_ix_l, r_ix_t, r_ix_s, r_ix_rl, r_ix_rd, r_sl_l, r_sl_sl, r_sl_t, r_sl_s, r_len_l, r_len_sl, r_len_t, r_len_s, r_len_r, r_all, r_any, r_tuple_l, r_tuple_sl, r_tuple_t, r_tuple_r, r_list_l, r_list_sl, r_list_t, r_list_r, r_ord, r_repr, r_pop, r_app, r_ext, r_join, r_join_t, r_isl_r, r_isl_l, r_in, r_put_d, r_put_l, r_eq_i, r_eq_s, r_ne_i, r_ne_s, r_eq_t0, r_ne_t0, r_eq_r0, r_ne_r0, r_eq_l0, r_ne_l0, q_lstM, q_frz, e_fz_r, e_fz_non, e_fz_bl, e_fz_int, e_fz_str, e_fz_tup, e_fz_lst, e_fz_dic, q_drp, q_zs, e_zs_tup_tup, e_zs_tup_lst, e_zs_tup_slst, e_zs_lst_tup, e_zs_lst_lst, e_zs_lst_slst, e_zs_slst_tup, e_zs_slst_lst, e_zs_slst_slst, r_mem_s, r_mem_t, r_mem_l, r_int_i, r_int_b, r_listM_l, r_listM_sl, r_listM_t, r_start, wipeD, br_not, br_true, br_false, br_dec, List.map_cons, List.map_nil, List.length_cons, List.length_nil, List.replicate_succ, List.replicate_zero, List.cons_append, List.nil_append, List.getElem?_cons_zero, List.getElem?_cons_succ, List.getElem?_nil, List.set_cons_zero, List.set_cons_succ, Nat.reduceAdd, Nat.reduceSub, Nat.reduceLeDiff, Nat.zero_add, updM_same, true_and, List.isEmpty_nil, List.isEmpty_cons, Bool.not_true, Bool.not_false, Bool.not_not, q_revA, e_ra_l, e_ra_s, e_ra_t, e_ra_z, q_star, e_st_l, e_st_s, e_st_t, q_par3, e_p3, q_cont, r_mul2_i, r_mul2_l, r_mul2_s, r_le2_i, r_le2_s, r_lt2_i, r_lt2_s, r_sum, r_max2, r_min2, r_rst, r_spl, r_six, q_callX, q_callKX, q_raise, e_d1, q_try, q_tryW, q_xf, q_isX, e_cau, r_add2_i, r_add2_s, r_add2_t, r_add2_l, r_add2_rl, r_add2_lr, q_sliM, r_slM, q_kdef, q_mix21, q_mix03]
    refine ⟨ps, L, (exs rows).map List.length, .inr rfl, updM_same, by rw [List.length_map, exs_len]; exact hv, by omega, L, ?_⟩
    rw [delM_upd hL, lenI_ex]
    exact h
end K43

namespace K43
open PySem L2 Fx
def R_tokens_of : RX := fun xs M F W => ∃ (rows : List Stp) (ps : List Prt) (m : Nat), xs = [rD rows, psD ps, nD m] ∧ RwOk rows ∧ Val rows.length ps ∧ ps.length ≤ 1000 ∧ (exI ps (exs rows)).length ≤ 100000 ∧
  (if (exI ps (exs rows)).length ≤ m then F (.tup ((exI ps (exs rows)).map .str)) M else W "TooLong" ["length"] [nD (exI ps (exs rows)).length] M)
theorem ln_tokens_of : ∀ xs M F W, R_tokens_of xs M F W → xs.length = 3 := fun xs M F W ⟨p, L, m, e, _⟩ => by rw [e]; rfl
theorem rd_tokens_of : ∀ ds M F W, R_tokens_of ds M F W → T_tokens_of R_parts_of R_length_of (fun n ns es _ M' => W n ns es M') { nx := fun _ M' => F .non M', rt := F } (startD 7 ds) M := by
  intro ds M F W ⟨rows, ps, m, e, hr, hv, hl, hb, h⟩
  subst e
  simp only [T_tokens_of, q_v, q_c, q_tup, q_lst, q_op, q_nil, q_cons, q_tst, q_tru, q_andT, q_orT, q_notT, q_andV, q_orV, q_notV, q_ifE, q_next, q_seq, q_asg, q_drop, q_ret, q_retN, q_ifS, q_par, q_isi, q_blt, q_call, q_callK, q_kid, q_kswap, q_chain, q_neg, q_isN, q_notN, q_noO, q_someO, q_sli, q_rev, q_revM, q_bm, q_bm0, q_m1, q_seqI, q_rng, q_rng2, q_enum, q_zip, q_gnm, q_gtp, q_gs0, q_gs1, q_yes, q_put, e_bl, e_int, e_str, e_lst, e_n_non, e_n_bl, e_n_int, e_n_str, e_n_tup, e_n_lst, e_n_slst, e_n_dic, e_n_ref, e_seq_l, e_seq_s, e_seq_t, e_seq_z, e_rev_l, e_rev_s, e_i1, e_i2, e_l1, e_l1s, e_l2, e_p2, e_sl, e_o, e_ob, e_on, e_ml, e_md, e_c, e_tru_b, e_tru_n, e_tru_i, e_tru_t, e_tru_l, t_str_non, t_tup_non, t_int_non, t_bool_non, t_lst_non, t_dict_non, t_str_bl, t_tup_bl, t_int_bl, t_bool_bl, t_lst_bl, t_dict_bl, t_str_int, t_tup_int, t_int_int, t_bool_int, t_lst_int, t_dict_int, t_str_str, t_tup_str, t_int_str, t_bool_str, t_lst_str, t_dict_str, t_str_tup, t_tup_tup, t_int_tup, t_bool_tup, t_lst_tup, t_dict_tup, t_str_lst, t_tup_lst, t_int_lst, t_bool_lst, t_lst_lst, t_dict_lst, t_str_dic, t_tup_dic, t_int_dic, t_bool_dic, t_lst_dic, t_dict_dic, r_add_i, r_add_s, r_add_t, r_add_l, r_sub, r_mul, r_mul_l, r_fdiv, r_mod, r_pow, r_lt, r_ix_l, r_ix_t, r_ix_s, r_ix_rl, r_ix_rd, r_sl_l, r_sl_sl, r_sl_t, r_sl_s, r_len_l, r_len_sl, r_len_t, r_len_s, r_len_r, r_all, r_any, r_tuple_l, r_tuple_sl, r_tuple_t, r_tuple_r, r_list_l, r_list_sl, r_list_t, r_list_r, r_ord, r_repr, r_pop, r_app, r_ext, r_join, r_join_t, r_isl_r, r_isl_l, r_in, r_put_d, r_put_l, r_eq_i, r_eq_s, r_ne_i, r_ne_s, r_eq_t0, r_ne_t0, r_eq_r0, r_ne_r0, r_eq_l0, r_ne_l0, q_lstM, q_frz, e_fz_r, e_fz_non, e_fz_bl, e_fz_int, e_fz_str, e_fz_tup, e_fz_lst, e_fz_dic, q_drp, q_zs, e_zs_tup_tup, e_zs_tup_lst, e_zs_tup_slst, e_zs_lst_tup, e_zs_lst_lst, e_zs_lst_slst, e_zs_slst_tup, e_zs_slst_lst, e_zs_slst_slst, r_mem_s, r_mem_t, r_mem_l, r_int_i, r_int_b, r_listM_l, r_listM_sl, r_listM_t, r_start, wipeD, br_not, br_true, br_false, br_dec, List.map_cons, List.map_nil, List.length_cons, List.length_nil, List.replicate_succ, List.replicate_zero, List.cons_append, List.nil_append, List.getElem?_cons_zero, List.getElem?_cons_succ, List.getElem?_nil, List.set_cons_zero, List.set_cons_succ, Nat.reduceAdd, Nat.reduceSub, Nat.reduceLeDiff, Nat.zero_add, updM_same, true_and, List.isEmpty_nil, List.isEmpty_cons, Bool.not_true, Bool.not_false, Bool.not_not, q_revA, e_ra_l, e_ra_s, e_ra_t, e_ra_z, q_star, e_st_l, e_st_s, e_st_t, q_par3, e_p3, q_cont, r_mul2_i, r_mul2_l, r_mul2_s, r_le2_i, r_le2_s, r_lt2_i, r_lt2_s, r_sum, r_max2, r_min2, r_rst, r_spl, r_six, q_callX, q_callKX, q_raise, e_d1, q_try, q_tryW, q_xf, q_isX, e_cau, r_add2_i, r_add2_s, r_add2_t, r_add2_l, r_add2_rl, r_add2_lr, q_sliM, r_slM, q_kdef, q_mix21, q_mix03]
  refine ⟨rows, ps, rfl, hr, hv, hl, ?_⟩
  simp only [nD, q_v, q_c, q_tup, q_lst, q_op, q_nil, q_cons, q_tst, q_tru, q_andT, q_orT, q_notT, q_andV, q_orV, q_notV, q_ifE, q_next, q_seq, q_asg, q_drop, q_ret, q_retN, q_ifS, q_par, q_isi, q_blt, q_call, q_callK, q_kid, q_kswap, q_chain, q_neg, q_isN, q_notN, q_noO, q_someO, q_sli, q_rev, q_revM, q_bm, q_bm0, q_m1, q_seqI, q_rng, q_rng2, q_enum, q_zip, q_gnm, q_gtp, q_gs0, q_gs1, q_yes, q_put, e_bl, e_int, e_str, e_lst, e_n_non, e_n_bl, e_n_int, e_n_str, e_n_tup, e_n_lst, e_n_slst, e_n_dic, e_n_ref, e_seq_l, e_seq_s, e_seq_t, e_seq_z, e_rev_l, e_rev_s, e_i1, e_i2, e_l1, e_l1s, e_l2, e_p2, e_sl, e_o, e_ob, e_on, e_ml, e_md, e_c, e_tru_b, e_tru_n, e_tru_i, e_tru_t, e_tru_l, t_str_non, t_tup_non, t_int_non, t_bool_non, t_lst_non, t_dict_non, t_str_bl, t_tup_bl, t_int_bl, t_bool_bl, t_lst_bl, t_dict_bl, t_str_int, t_tup_int, t_int_int, t_bool_int, t_lst_int, t_dict_int, t_str_str, t_tup_str, t_int_str, t_bool_str, t_lst_str, t_dict_str, t_str_tup, t_tup_tup, t_int_tup, t_bool_tup, t_lst_tup, t_dict_tup, t_str_lst, t_tup_lst, t_int_lst, t_bool_lst, t_lst_lst, t_dict_lst, t_str_dic, t_tup_dic, t_int_dic, t_bool_dic, t_lst_dic, t_dict_dic, r_add_i, r_add_s, r_add_t, r_add_l, r_sub, r_mul, r_mul_l, r_fdiv, r_mod, r_pow, r_lt, r_ix_l, r_ix_t, r_ix_s, r_ix_rl, r_ix_rd, r_sl_l, r_sl_sl, r_sl_t, r_sl_s, r_len_l, r_len_sl, r_len_t, r_len_s, r_len_r, r_all, r_any, r_tuple_l, r_tuple_sl, r_tuple_t, r_tuple_r, r_list_l, r_list_sl, r_list_t, r_list_r, r_ord, r_repr, r_pop, r_app, r_ext, r_join, r_join_t, r_isl_r, r_isl_l, r_in, r_put_d, r_put_l, r_eq_i, r_eq_s, r_ne_i, r_ne_s, r_eq_t0, r_ne_t0, r_eq_r0, r_ne_r0, r_eq_l0, r_ne_l0, q_lstM, q_frz, e_fz_r, e_fz_non, e_fz_bl, e_fz_int, e_fz_str, e_fz_tup, e_fz_lst, e_fz_dic, q_drp, q_zs, e_zs_tup_tup, e_zs_tup_lst, e_zs_tup_slst, e_zs_lst_tup, e_zs_lst_lst, e_zs_lst_slst, e_zs_slst_tup, e_zs_slst_lst, e_zs_slst_slst, r_mem_s, r_mem_t, r_mem_l, r_int_i, r_int_b, r_listM_l, r_listM_sl, r_listM_t, r_start, wipeD, br_not, br_true, br_false, br_dec, List.map_cons, List.map_nil, List.length_cons, List.length_nil, List.replicate_succ, List.replicate_zero, List.cons_append, List.nil_append, List.getElem?_cons_zero, List.getElem?_cons_succ, List.getElem?_nil, List.set_cons_zero, List.set_cons_succ, Nat.reduceAdd, Nat.reduceSub, Nat.reduceLeDiff, Nat.zero_add, updM_same, true_and, List.isEmpty_nil, List.isEmpty_cons, Bool.not_true, Bool.not_false, Bool.not_not, q_revA, e_ra_l, e_ra_s, e_ra_t, e_ra_z, q_star, e_st_l, e_st_s, e_st_t, q_par3, e_p3, q_cont, r_mul2_i, r_mul2_l, r_mul2_s, r_le2_i, r_le2_s, r_lt2_i, r_lt2_s, r_sum, r_max2, r_min2, r_rst, r_spl, r_six, q_callX, q_callKX, q_raise, e_d1, q_try, q_tryW, q_xf, q_isX, e_cau, r_add2_i, r_add2_s, r_add2_t, r_add2_l, r_add2_rl, r_add2_lr, q_sliM, r_slM, q_kdef, q_mix21, q_mix03]
  refine ⟨fun c => ?_, fun c => ?_⟩
  · rw [if_neg (by omega)] at h
    exact h
  · rw [if_pos (by omega)] at h
    intro L hL
    simp only [psD, q_v, q_c, q_tup, q_lst, q_op, q_nil, q_cons, q_tst, q_tru, q_andT, q_orT, q_notT, q_andV, q_orV, q_notV, q_ifE, q_next, q_seq, q_asg, q_drop, q_ret, q_retN, q_ifS, q_par, q_isi, q_blt, q_call, q_callK, q_kid, q_kswap, q_chain, q_neg, q_isN, q_notN, q_noO, q_someO, q_sli, q_rev, q_revM, q_bm, q_bm0, q_m1, q_seqI, q_rng, q_rng2, q_enum, q_zip, q_gnm, q_gtp, q_gs0, q_gs1, q_yes, q_put, e_bl, e_int, e_str, e_lst, e_n_non, e_n_bl, e_n_int, e_n_str, e_n_tup, e_n_lst, e_n_slst, e_n_dic, e_n_ref, e_seq_l, e_seq_s, e_seq_t, e_seq_z, e_rev_l, e_rev_s, e_i1, e_i2, e_l1, e_l1s, e_l2, e_p2, e_sl, e_o, e_ob, e_on, e_ml, e_md, e_c, e_tru_b, e_tru_n, e_tru_i, e_tru_t, e_tru_l, t_str_non, t_tup_non, t_int_non, t_bool_non, t_lst_non, t_dict_non, t_str_bl, t_tup_bl, t_int_bl, t_bool_bl, t_lst_bl, t_dict_bl, t_str_int, t_tup_int, t_int_int, t_bool_int, t_lst_int, t_dict_int, t_str_str, t_tup_str, t_int_str, t_bool_str, t_lst_str, t_dict_str, t_str_tup, t_tup_tup, t_int_tup, t_bool_tup, t_lst_tup, t_dict_tup, t_str_lst, t_tup_lst, t_int_lst, t_bool_lst, t_lst_lst, t_dict_lst, t_str_dic, t_tup_dic, t_int_dic, t_bool_dic, t_lst_dic, t_dict_dic, r_add_i, r_add_s, r_add_t, r_add_l, r_sub, r_mul, r_mul_l, r_fdiv, r_mod, r_pow, r_lt, r_ix_l, r_ix_t, r_ix_s, r_ix_rl, r_ix_rd, r_sl_l, r_sl_sl, r_sl_t, r_sl_s, r_len_l, r_len_sl, r_len_t, r_len_s, r_len_r, r_all, r_any, r_tuple_l, r_tuple_sl, r_tuple_t, r_tuple_r, r_list_l, r_list_sl, r_list_t, r_list_r, r_ord, r_repr, r_pop, r_app, r_ext, r_join, r_join_t, r_isl_r, r_isl_l, r_in, r_put_d, r_put_l, r_eq_i, r_eq_s, r_ne_i, r_ne_s, r_eq_t0, r_ne_t0, r_eq_r0, r_ne_r0, r_eq_l0, r_ne_l0, q_lstM, q_frz, e_fz_r, e_fz_non, e_fz_bl, e_fz_int, e_fz_str, e_fz_tup, e_fz_lst, e_fz_dic, q_drp, q_zs, e_zs_tup_tup, e_zs_tup_lst, e_zs_tup_slst, e_zs_lst_tup, e_zs_lst_lst, e_zs_lst_slst, e_zs_slst_tup, e_zs_slst_lst, e_zs_slst_slst, r_mem_s, r_mem_t, r_mem_l, r_int_i, r_int_b, r_listM_l, r_listM_sl, r_listM_t, r_start, wipeD, br_not, br_true, br_false, br_dec, List.map_cons, List.map_nil, List.length_cons, List.length_nil, List.replicate_succ, List.replicate_zero, List.cons_append, List.nil_append, List.getElem?_cons_zero, List.getElem?_cons_succ, List.getElem?_nil, List.set_cons_zero, List.set_cons_succ, Nat.reduceAdd, Nat.reduceSub, Nat.reduceLeDiff, Nat.zero_add, updM_same, true_and, List.isEmpty_nil, List.isEmpty_cons, Bool.not_true, Bool.not_false, Bool.not_not, q_revA, e_ra_l, e_ra_s, e_ra_t, e_ra_z, q_star, e_st_l, e_st_s, e_st_t, q_par3, e_p3, q_cont, r_mul2_i, r_mul2_l, r_mul2_s, r_le2_i, r_le2_s, r_lt2_i, r_lt2_s, r_sum, r_max2, r_min2, r_rst, r_spl, r_six, q_callX, q_callKX, q_raise, e_d1, q_try, q_tryW, q_xf, q_isX, e_cau, r_add2_i, r_add2_s, r_add2_t, r_add2_l, r_add2_rl, r_add2_lr, q_sliM, r_slM, q_kdef, q_mix21, q_mix03, whileD]
    intro L2 hL2
    have n12 : L2 ≠ L := fun z => by
      rw [z, updM_same] at hL2
      cases hL2
    have hL2' : M L2 = none := by
      rw [updM_ne n12] at hL2
      exact hL2
    refine ⟨fun k ds' M' => ∃ (fd : List Str) (wt : List Prt) (x : Option D), M' = updM (updM M L (.lst (fd.map .str))) L2 (.lst (wt.map pD)) ∧ ds' = [some (rD rows), some (.tup (ps.map pD)), some (.int (m : Int)), some (.int ((exI ps (exs rows)).length : Int)), some (.ref L), some (.ref L2), x] ∧
      exI ps (exs rows) = fd ++ exI wt.reverse (exs rows) ∧ Val rows.length wt ∧ k = lenI wt (wts rows), ⟨_, [], ps.reverse, none, ?_, rfl, ?_, ?_, rfl⟩, fun k ds' M' w => ?_⟩
    · rw [← List.map_reverse]
      rfl
    · rw [List.reverse_reverse]
      rfl
    · intro n hn
      exact hv n (List.mem_reverse.mp hn)
    · obtain ⟨fd, wt, x, rfl, rfl, e, v, rfl⟩ := w
      have ll := len_le_ex hr.rws v
      have lr : (exI wt.reverse (exs rows)).length = (exI wt (exs rows)).length := by
        rw [← lenI_ex, ← lenI_ex, lenI_rev]
      have lt : fd.length + wt.length ≤ 100000 := by
        have := congrArg List.length e
        rw [List.length_append] at this
        omega
      simp only [q_v, q_c, q_tup, q_lst, q_op, q_nil, q_cons, q_tst, q_tru, q_andT, q_orT, q_notT, q_andV, q_orV, q_notV, q_ifE, q_next, q_seq, q_asg, q_drop, q_ret, q_retN, q_ifS, q_par, q_isi, q_blt, q_call, q_callK, q_kid, q_kswap, q_chain, q_neg, q_isN, q_notN, q_noO, q_someO, q_sli, q_rev, q_revM, q_bm, q_bm0, q_m1, q_seqI, q_rng, q_rng2, q_enum, q_zip, q_gnm, q_gtp, q_gs0, q_gs1, q_yes, q_put, e_bl, e_int, e_str, e_lst, e_n_non, e_n_bl, e_n_int, e_n_str, e_n_tup, e_n_lst, e_n_slst, e_n_dic, e_n_ref, e_seq_l, e_seq_s, e_seq_t, e_seq_z, e_rev_l, e_rev_s, e_i1, e_i2, e_l1, e_l1s, e_l2, e_p2, e_sl, e_o, e_ob, e_on, e_ml, e_md, e_c, e_tru_b, e_tru_n, e_tru_i, e_tru_t, e_tru_l, t_str_non, t_tup_non, t_int_non, t_bool_non, t_lst_non, t_dict_non, t_str_bl, t_tup_bl, t_int_bl, t_bool_bl, t_lst_bl, t_dict_bl, t_str_int, t_tup_int, t_int_int, t_bool_int, t_lst_int, t_dict_int, t_str_str, t_tup_str, t_int_str, t_bool_str, t_lst_str, t_dict_str, t_str_tup, t_tup_tup, t_int_tup, t_bool_tup, t_lst_tup, t_dict_tup, t_str_lst, t_tup_lst, t_int_lst, t_bool_lst, t_lst_lst, t_dict_lst, t_str_dic, t_tup_dic, t_int_dic, t_bool_dic, t_lst_dic, t_dict_dic, r_add_i, r_add_s, r_add_t, r_add_l, r_sub, r_mul, r_mul_l, r_fdiv, r_mod, r_pow, r_lt, r_ix_l, r_ix_t, r_ix_s, r_ix_rl, r_ix_rd, r_sl_l, r_sl_sl, r_sl_t, r_sl_s, r_len_l, r_len_sl, r_len_t, r_len_s, r_len_r, r_all, r_any, r_tuple_l, r_tuple_sl, r_tuple_t, r_tuple_r, r_list_l, r_list_sl, r_list_t, r_list_r, r_ord, r_repr, r_pop, r_app, r_ext, r_join, r_join_t, r_isl_r, r_isl_l, r_in, r_put_d, r_put_l, r_eq_i, r_eq_s, r_ne_i, r_ne_s, r_eq_t0, r_ne_t0, r_eq_r0, r_ne_r0, r_eq_l0, r_ne_l0, q_lstM, q_frz, e_fz_r, e_fz_non, e_fz_bl, e_fz_int, e_fz_str, e_fz_tup, e_fz_lst, e_fz_dic, q_drp, q_zs, e_zs_tup_tup, e_zs_tup_lst, e_zs_tup_slst, e_zs_lst_tup, e_zs_lst_lst, e_zs_lst_slst, e_zs_slst_tup, e_zs_slst_lst, e_zs_slst_slst, r_mem_s, r_mem_t, r_mem_l, r_int_i, r_int_b, r_listM_l, r_listM_sl, r_listM_t, r_start, wipeD, br_not, br_true, br_false, br_dec, List.map_cons, List.map_nil, List.length_cons, List.length_nil, List.replicate_succ, List.replicate_zero, List.cons_append, List.nil_append, List.getElem?_cons_zero, List.getElem?_cons_succ, List.getElem?_nil, List.set_cons_zero, List.set_cons_succ, Nat.reduceAdd, Nat.reduceSub, Nat.reduceLeDiff, Nat.zero_add, updM_same, true_and, List.isEmpty_nil, List.isEmpty_cons, Bool.not_true, Bool.not_false, Bool.not_not, q_revA, e_ra_l, e_ra_s, e_ra_t, e_ra_z, q_star, e_st_l, e_st_s, e_st_t, q_par3, e_p3, q_cont, r_mul2_i, r_mul2_l, r_mul2_s, r_le2_i, r_le2_s, r_lt2_i, r_lt2_s, r_sum, r_max2, r_min2, r_rst, r_spl, r_six, q_callX, q_callKX, q_raise, e_d1, q_try, q_tryW, q_xf, q_isX, e_cau, r_add2_i, r_add2_s, r_add2_t, r_add2_l, r_add2_rl, r_add2_lr, q_sliM, r_slM, q_kdef, q_mix21, q_mix03]
      rcases List.eq_nil_or_concat wt with rfl | ⟨w', p, rfl⟩
      · simp only [List.map_nil, List.isEmpty_nil, Bool.not_true, br_false, q_v, q_c, q_tup, q_lst, q_op, q_nil, q_cons, q_tst, q_tru, q_andT, q_orT, q_notT, q_andV, q_orV, q_notV, q_ifE, q_next, q_seq, q_asg, q_drop, q_ret, q_retN, q_ifS, q_par, q_isi, q_blt, q_call, q_callK, q_kid, q_kswap, q_chain, q_neg, q_isN, q_notN, q_noO, q_someO, q_sli, q_rev, q_revM, q_bm, q_bm0, q_m1, q_seqI, q_rng, q_rng2, q_enum, q_zip, q_gnm, q_gtp, q_gs0, q_gs1, q_yes, q_put, e_bl, e_int, e_str, e_lst, e_n_non, e_n_bl, e_n_int, e_n_str, e_n_tup, e_n_lst, e_n_slst, e_n_dic, e_n_ref, e_seq_l, e_seq_s, e_seq_t, e_seq_z, e_rev_l, e_rev_s, e_i1, e_i2, e_l1, e_l1s, e_l2, e_p2, e_sl, e_o, e_ob, e_on, e_ml, e_md, e_c, e_tru_b, e_tru_n, e_tru_i, e_tru_t, e_tru_l, t_str_non, t_tup_non, t_int_non, t_bool_non, t_lst_non, t_dict_non, t_str_bl, t_tup_bl, t_int_bl, t_bool_bl, t_lst_bl, t_dict_bl, t_str_int, t_tup_int, t_int_int, t_bool_int, t_lst_int, t_dict_int, t_str_str, t_tup_str, t_int_str, t_bool_str, t_lst_str, t_dict_str, t_str_tup, t_tup_tup, t_int_tup, t_bool_tup, t_lst_tup, t_dict_tup, t_str_lst, t_tup_lst, t_int_lst, t_bool_lst, t_lst_lst, t_dict_lst, t_str_dic, t_tup_dic, t_int_dic, t_bool_dic, t_lst_dic, t_dict_dic, r_add_i, r_add_s, r_add_t, r_add_l, r_sub, r_mul, r_mul_l, r_fdiv, r_mod, r_pow, r_lt, r_ix_l, r_ix_t, r_ix_s, r_ix_rl, r_ix_rd, r_sl_l, r_sl_sl, r_sl_t, r_sl_s, r_len_l, r_len_sl, r_len_t, r_len_s, r_len_r, r_all, r_any, r_tuple_l, r_tuple_sl, r_tuple_t, r_tuple_r, r_list_l, r_list_sl, r_list_t, r_list_r, r_ord, r_repr, r_pop, r_app, r_ext, r_join, r_join_t, r_isl_r, r_isl_l, r_in, r_put_d, r_put_l, r_eq_i, r_eq_s, r_ne_i, r_ne_s, r_eq_t0, r_ne_t0, r_eq_r0, r_ne_r0, r_eq_l0, r_ne_l0, q_lstM, q_frz, e_fz_r, e_fz_non, e_fz_bl, e_fz_int, e_fz_str, e_fz_tup, e_fz_lst, e_fz_dic, q_drp, q_zs, e_zs_tup_tup, e_zs_tup_lst, e_zs_tup_slst, e_zs_lst_tup, e_zs_lst_lst, e_zs_lst_slst, e_zs_slst_tup, e_zs_slst_lst, e_zs_slst_slst, r_mem_s, r_mem_t, r_mem_l, r_int_i, r_int_b, r_listM_l, r_listM_sl, r_listM_t, r_start, wipeD, br_not, br_true, br_false, br_dec, List.map_cons, List.map_nil, List.length_cons, List.length_nil, List.replicate_succ, List.replicate_zero, List.cons_append, List.nil_append, List.getElem?_cons_zero, List.getElem?_cons_succ, List.getElem?_nil, List.set_cons_zero, List.set_cons_succ, Nat.reduceAdd, Nat.reduceSub, Nat.reduceLeDiff, Nat.zero_add, updM_same, true_and, List.isEmpty_nil, List.isEmpty_cons, Bool.not_true, Bool.not_false, Bool.not_not, q_revA, e_ra_l, e_ra_s, e_ra_t, e_ra_z, q_star, e_st_l, e_st_s, e_st_t, q_par3, e_p3, q_cont, r_mul2_i, r_mul2_l, r_mul2_s, r_le2_i, r_le2_s, r_lt2_i, r_lt2_s, r_sum, r_max2, r_min2, r_rst, r_spl, r_six, q_callX, q_callKX, q_raise, e_d1, q_try, q_tryW, q_xf, q_isX, e_cau, r_add2_i, r_add2_s, r_add2_t, r_add2_l, r_add2_rl, r_add2_lr, q_sliM, r_slM, q_kdef, q_mix21, q_mix03, updM_ne n12.symm]
        refine ⟨L2, L, ?_⟩
        have em : delM (delM (updM (updM M L (.lst (fd.map .str))) L2 (.lst [])) L2) L = M := by
          rw [delM_upd (by rw [updM_ne n12]; exact hL2'), delM_upd hL]
        have ex : exI ps (exs rows) = fd := by
          rw [e]
          simp [exI]
        rw [ex] at h
        first
          | (rw [em]; exact h)
          | (have em2 : delM (delM (updM (updM M L (.lst (fd.map .str))) L2 (.lst [])) L) L2 = M := by
               funext b
               unfold delM updM
               by_cases b1 : b = L <;> by_cases b2 : b = L2 <;> simp [b1, b2, hL, hL2', n12, n12.symm]
             rw [em2]; exact h)
      · rw [List.concat_eq_append] at *
        have t1 : ((w' ++ [p]).map pD).isEmpty = false := by simp
        have t2 : ((w' ++ [p]).map pD).getLast? = some (pD p) := by simp
        have t3 : ((w' ++ [p]).map pD).dropLast = w'.map pD := by simp
        have vw : Val rows.length w' := fun n hn => v n (List.mem_append_left _ hn)
        rw [List.reverse_append] at e
        have e' : exI ps (exs rows) = fd ++ (exP (exs rows) p ++ exI w'.reverse (exs rows)) := e
        have lw : lenI (w' ++ [p]) (wts rows) = lenI w' (wts rows) + lenP (wts rows) p := by
          rw [lenI_append]
          simp [lenI]
        rw [List.length_append, List.length_singleton] at lt
        simp only [t1, t2, t3, Bool.not_false, br_true, q_v, q_c, q_tup, q_lst, q_op, q_nil, q_cons, q_tst, q_tru, q_andT, q_orT, q_notT, q_andV, q_orV, q_notV, q_ifE, q_next, q_seq, q_asg, q_drop, q_ret, q_retN, q_ifS, q_par, q_isi, q_blt, q_call, q_callK, q_kid, q_kswap, q_chain, q_neg, q_isN, q_notN, q_noO, q_someO, q_sli, q_rev, q_revM, q_bm, q_bm0, q_m1, q_seqI, q_rng, q_rng2, q_enum, q_zip, q_gnm, q_gtp, q_gs0, q_gs1, q_yes, q_put, e_bl, e_int, e_str, e_lst, e_n_non, e_n_bl, e_n_int, e_n_str, e_n_tup, e_n_lst, e_n_slst, e_n_dic, e_n_ref, e_seq_l, e_seq_s, e_seq_t, e_seq_z, e_rev_l, e_rev_s, e_i1, e_i2, e_l1, e_l1s, e_l2, e_p2, e_sl, e_o, e_ob, e_on, e_ml, e_md, e_c, e_tru_b, e_tru_n, e_tru_i, e_tru_t, e_tru_l, t_str_non, t_tup_non, t_int_non, t_bool_non, t_lst_non, t_dict_non, t_str_bl, t_tup_bl, t_int_bl, t_bool_bl, t_lst_bl, t_dict_bl, t_str_int, t_tup_int, t_int_int, t_bool_int, t_lst_int, t_dict_int, t_str_str, t_tup_str, t_int_str, t_bool_str, t_lst_str, t_dict_str, t_str_tup, t_tup_tup, t_int_tup, t_bool_tup, t_lst_tup, t_dict_tup, t_str_lst, t_tup_lst, t_int_lst, t_bool_lst, t_lst_lst, t_dict_lst, t_str_dic, t_tup_dic, t_int_dic, t_bool_dic, t_lst_dic, t_dict_dic, r_add_i, r_add_s, r_add_t, r_add_l, r_sub, r_mul, r_mul_l, r_fdiv, r_mod, r_pow, r_lt, r_ix_l, r_ix_t, r_ix_s, r_ix_rl, r_ix_rd, r_sl_l, r_sl_sl, r_sl_t, r_sl_s, r_len_l, r_len_sl, r_len_t, r_len_s, r_len_r, r_all, r_any, r_tuple_l, r_tuple_sl, r_tuple_t, r_tuple_r, r_list_l, r_list_sl, r_list_t, r_list_r, r_ord, r_repr, r_pop, r_app, r_ext, r_join, r_join_t, r_isl_r, r_isl_l, r_in, r_put_d, r_put_l, r_eq_i, r_eq_s, r_ne_i, r_ne_s, r_eq_t0, r_ne_t0, r_eq_r0, r_ne_r0, r_eq_l0, r_ne_l0, q_lstM, q_frz, e_fz_r, e_fz_non, e_fz_bl, e_fz_int, e_fz_str, e_fz_tup, e_fz_lst, e_fz_dic, q_drp, q_zs, e_zs_tup_tup, e_zs_tup_lst, e_zs_tup_slst, e_zs_lst_tup, e_zs_lst_lst, e_zs_lst_slst, e_zs_slst_tup, e_zs_slst_lst, e_zs_slst_slst, r_mem_s, r_mem_t, r_mem_l, r_int_i, r_int_b, r_listM_l, r_listM_sl, r_listM_t, r_start, wipeD, br_not, br_true, br_false, br_dec, List.map_cons, List.map_nil, List.length_cons, List.length_nil, List.replicate_succ, List.replicate_zero, List.cons_append, List.nil_append, List.getElem?_cons_zero, List.getElem?_cons_succ, List.getElem?_nil, List.set_cons_zero, List.set_cons_succ, Nat.reduceAdd, Nat.reduceSub, Nat.reduceLeDiff, Nat.zero_add, updM_same, true_and, List.isEmpty_nil, List.isEmpty_cons, Bool.not_true, Bool.not_false, Bool.not_not, q_revA, e_ra_l, e_ra_s, e_ra_t, e_ra_z, q_star, e_st_l, e_st_s, e_st_t, q_par3, e_p3, q_cont, r_mul2_i, r_mul2_l, r_mul2_s, r_le2_i, r_le2_s, r_lt2_i, r_lt2_s, r_sum, r_max2, r_min2, r_rst, r_spl, r_six, q_callX, q_callKX, q_raise, e_d1, q_try, q_tryW, q_xf, q_isX, e_cau, r_add2_i, r_add2_s, r_add2_t, r_add2_l, r_add2_rl, r_add2_lr, q_sliM, r_slM, q_kdef, q_mix21, q_mix03]
        cases p with
        | inl t =>
          simp only [pD, q_v, q_c, q_tup, q_lst, q_op, q_nil, q_cons, q_tst, q_tru, q_andT, q_orT, q_notT, q_andV, q_orV, q_notV, q_ifE, q_next, q_seq, q_asg, q_drop, q_ret, q_retN, q_ifS, q_par, q_isi, q_blt, q_call, q_callK, q_kid, q_kswap, q_chain, q_neg, q_isN, q_notN, q_noO, q_someO, q_sli, q_rev, q_revM, q_bm, q_bm0, q_m1, q_seqI, q_rng, q_rng2, q_enum, q_zip, q_gnm, q_gtp, q_gs0, q_gs1, q_yes, q_put, e_bl, e_int, e_str, e_lst, e_n_non, e_n_bl, e_n_int, e_n_str, e_n_tup, e_n_lst, e_n_slst, e_n_dic, e_n_ref, e_seq_l, e_seq_s, e_seq_t, e_seq_z, e_rev_l, e_rev_s, e_i1, e_i2, e_l1, e_l1s, e_l2, e_p2, e_sl, e_o, e_ob, e_on, e_ml, e_md, e_c, e_tru_b, e_tru_n, e_tru_i, e_tru_t, e_tru_l, t_str_non, t_tup_non, t_int_non, t_bool_non, t_lst_non, t_dict_non, t_str_bl, t_tup_bl, t_int_bl, t_bool_bl, t_lst_bl, t_dict_bl, t_str_int, t_tup_int, t_int_int, t_bool_int, t_lst_int, t_dict_int, t_str_str, t_tup_str, t_int_str, t_bool_str, t_lst_str, t_dict_str, t_str_tup, t_tup_tup, t_int_tup, t_bool_tup, t_lst_tup, t_dict_tup, t_str_lst, t_tup_lst, t_int_lst, t_bool_lst, t_lst_lst, t_dict_lst, t_str_dic, t_tup_dic, t_int_dic, t_bool_dic, t_lst_dic, t_dict_dic, r_add_i, r_add_s, r_add_t, r_add_l, r_sub, r_mul, r_mul_l, r_fdiv, r_mod, r_pow, r_lt, r_ix_l, r_ix_t, r_ix_s, r_ix_rl, r_ix_rd, r_sl_l, r_sl_sl, r_sl_t, r_sl_s, r_len_l, r_len_sl, r_len_t, r_len_s, r_len_r, r_all, r_any, r_tuple_l, r_tuple_sl, r_tuple_t, r_tuple_r, r_list_l, r_list_sl, r_list_t, r_list_r, r_ord, r_repr, r_pop, r_app, r_ext, r_join, r_join_t, r_isl_r, r_isl_l, r_in, r_put_d, r_put_l, r_eq_i, r_eq_s, r_ne_i, r_ne_s, r_eq_t0, r_ne_t0, r_eq_r0, r_ne_r0, r_eq_l0, r_ne_l0, q_lstM, q_frz, e_fz_r, e_fz_non, e_fz_bl, e_fz_int, e_fz_str, e_fz_tup, e_fz_lst, e_fz_dic, q_drp, q_zs, e_zs_tup_tup, e_zs_tup_lst, e_zs_tup_slst, e_zs_lst_tup, e_zs_lst_lst, e_zs_lst_slst, e_zs_slst_tup, e_zs_slst_lst, e_zs_slst_slst, r_mem_s, r_mem_t, r_mem_l, r_int_i, r_int_b, r_listM_l, r_listM_sl, r_listM_t, r_start, wipeD, br_not, br_true, br_false, br_dec, List.map_cons, List.map_nil, List.length_cons, List.length_nil, List.replicate_succ, List.replicate_zero, List.cons_append, List.nil_append, List.getElem?_cons_zero, List.getElem?_cons_succ, List.getElem?_nil, List.set_cons_zero, List.set_cons_succ, Nat.reduceAdd, Nat.reduceSub, Nat.reduceLeDiff, Nat.zero_add, updM_same, true_and, List.isEmpty_nil, List.isEmpty_cons, Bool.not_true, Bool.not_false, Bool.not_not, q_revA, e_ra_l, e_ra_s, e_ra_t, e_ra_z, q_star, e_st_l, e_st_s, e_st_t, q_par3, e_p3, q_cont, r_mul2_i, r_mul2_l, r_mul2_s, r_le2_i, r_le2_s, r_lt2_i, r_lt2_s, r_sum, r_max2, r_min2, r_rst, r_spl, r_six, q_callX, q_callKX, q_raise, e_d1, q_try, q_tryW, q_xf, q_isX, e_cau, r_add2_i, r_add2_s, r_add2_t, r_add2_l, r_add2_rl, r_add2_lr, q_sliM, r_slM, q_kdef, q_mix21, q_mix03, updM_ne n12.symm, List.length_map]
          refine ⟨by omega, _, ?_, fd ++ [t], w', _, ?_, rfl, ?_, vw, rfl⟩
          · rw [lw]
            exact Nat.lt_succ_self _
          · funext b
            by_cases b1 : b = L
            · subst b1
              rw [updM_same, updM_ne n12.symm, updM_same, List.map_append]
              rfl
            · by_cases b2 : b = L2
              · subst b2
                rw [updM_ne b1, updM_same, updM_same]
              · rw [updM_ne b1, updM_ne b2, updM_ne b2, updM_ne b1, updM_ne b2, updM_ne b1]
          · rw [e', List.append_assoc]
            rfl
        | inr n =>
          have hn : n < rows.length := v n (List.mem_append_right _ (List.mem_singleton.mpr rfl))
          obtain ⟨s, gs⟩ : ∃ s, rows[n]? = some s := ⟨rows[n], by simp [hn]⟩
          have so := hr.st n s gs
          have ga : atI (rows.map sD) (n : Int) = some (sD s) := atI_nat (by rw [List.getElem?_map, gs]; rfl)
          have pl := parts_len so
          simp only [pD, nD, rD, q_v, q_c, q_tup, q_lst, q_op, q_nil, q_cons, q_tst, q_tru, q_andT, q_orT, q_notT, q_andV, q_orV, q_notV, q_ifE, q_next, q_seq, q_asg, q_drop, q_ret, q_retN, q_ifS, q_par, q_isi, q_blt, q_call, q_callK, q_kid, q_kswap, q_chain, q_neg, q_isN, q_notN, q_noO, q_someO, q_sli, q_rev, q_revM, q_bm, q_bm0, q_m1, q_seqI, q_rng, q_rng2, q_enum, q_zip, q_gnm, q_gtp, q_gs0, q_gs1, q_yes, q_put, e_bl, e_int, e_str, e_lst, e_n_non, e_n_bl, e_n_int, e_n_str, e_n_tup, e_n_lst, e_n_slst, e_n_dic, e_n_ref, e_seq_l, e_seq_s, e_seq_t, e_seq_z, e_rev_l, e_rev_s, e_i1, e_i2, e_l1, e_l1s, e_l2, e_p2, e_sl, e_o, e_ob, e_on, e_ml, e_md, e_c, e_tru_b, e_tru_n, e_tru_i, e_tru_t, e_tru_l, t_str_non, t_tup_non, t_int_non, t_bool_non, t_lst_non, t_dict_non, t_str_bl, t_tup_bl, t_int_bl, t_bool_bl, t_lst_bl, t_dict_bl, t_str_int, t_tup_int, t_int_int, t_bool_int, t_lst_int, t_dict_int, t_str_str, t_tup_str, t_int_str, t_bool_str, t_lst_str, t_dict_str, t_str_tup, t_tup_tup, t_int_tup, t_bool_tup, t_lst_tup, t_dict_tup, t_str_lst, t_tup_lst, t_int_lst, t_bool_lst, t_lst_lst, t_dict_lst, t_str_dic, t_tup_dic, t_int_dic, t_bool_dic, t_lst_dic, t_dict_dic, r_add_i, r_add_s, r_add_t, r_add_l, r_sub, r_mul, r_mul_l, r_fdiv, r_mod, r_pow, r_lt, r_ix_l, r_ix_t, r_ix_s, r_ix_rl, r_ix_rd, r_sl_l, r_sl_sl, r_sl_t, r_sl_s, r_len_l, r_len_sl, r_len_t, r_len_s, r_len_r, r_all, r_any, r_tuple_l, r_tuple_sl, r_tuple_t, r_tuple_r, r_list_l, r_list_sl, r_list_t, r_list_r, r_ord, r_repr, r_pop, r_app, r_ext, r_join, r_join_t, r_isl_r, r_isl_l, r_in, r_put_d, r_put_l, r_eq_i, r_eq_s, r_ne_i, r_ne_s, r_eq_t0, r_ne_t0, r_eq_r0, r_ne_r0, r_eq_l0, r_ne_l0, q_lstM, q_frz, e_fz_r, e_fz_non, e_fz_bl, e_fz_int, e_fz_str, e_fz_tup, e_fz_lst, e_fz_dic, q_drp, q_zs, e_zs_tup_tup, e_zs_tup_lst, e_zs_tup_slst, e_zs_lst_tup, e_zs_lst_lst, e_zs_lst_slst, e_zs_slst_tup, e_zs_slst_lst, e_zs_slst_slst, r_mem_s, r_mem_t, r_mem_l, r_int_i, r_int_b, r_listM_l, r_listM_sl, r_listM_t, r_start, wipeD, br_not, br_true, br_false, br_dec, List.map_cons, List.map_nil, List.length_cons, List.length_nil, List.replicate_succ, List.replicate_zero, List.cons_append, List.nil_append, List.getElem?_cons_zero, List.getElem?_cons_succ, List.getElem?_nil, List.set_cons_zero, List.set_cons_succ, Nat.reduceAdd, Nat.reduceSub, Nat.reduceLeDiff, Nat.zero_add, updM_same, true_and, List.isEmpty_nil, List.isEmpty_cons, Bool.not_true, Bool.not_false, Bool.not_not, q_revA, e_ra_l, e_ra_s, e_ra_t, e_ra_z, q_star, e_st_l, e_st_s, e_st_t, q_par3, e_p3, q_cont, r_mul2_i, r_mul2_l, r_mul2_s, r_le2_i, r_le2_s, r_lt2_i, r_lt2_s, r_sum, r_max2, r_min2, r_rst, r_spl, r_six, q_callX, q_callKX, q_raise, e_d1, q_try, q_tryW, q_xf, q_isX, e_cau, r_add2_i, r_add2_s, r_add2_t, r_add2_l, r_add2_rl, r_add2_lr, q_sliM, r_slM, q_kdef, q_mix21, q_mix03, ga]
          refine ⟨s, rfl, so.few, ?_⟩
          simp only [q_v, q_c, q_tup, q_lst, q_op, q_nil, q_cons, q_tst, q_tru, q_andT, q_orT, q_notT, q_andV, q_orV, q_notV, q_ifE, q_next, q_seq, q_asg, q_drop, q_ret, q_retN, q_ifS, q_par, q_isi, q_blt, q_call, q_callK, q_kid, q_kswap, q_chain, q_neg, q_isN, q_notN, q_noO, q_someO, q_sli, q_rev, q_revM, q_bm, q_bm0, q_m1, q_seqI, q_rng, q_rng2, q_enum, q_zip, q_gnm, q_gtp, q_gs0, q_gs1, q_yes, q_put, e_bl, e_int, e_str, e_lst, e_n_non, e_n_bl, e_n_int, e_n_str, e_n_tup, e_n_lst, e_n_slst, e_n_dic, e_n_ref, e_seq_l, e_seq_s, e_seq_t, e_seq_z, e_rev_l, e_rev_s, e_i1, e_i2, e_l1, e_l1s, e_l2, e_p2, e_sl, e_o, e_ob, e_on, e_ml, e_md, e_c, e_tru_b, e_tru_n, e_tru_i, e_tru_t, e_tru_l, t_str_non, t_tup_non, t_int_non, t_bool_non, t_lst_non, t_dict_non, t_str_bl, t_tup_bl, t_int_bl, t_bool_bl, t_lst_bl, t_dict_bl, t_str_int, t_tup_int, t_int_int, t_bool_int, t_lst_int, t_dict_int, t_str_str, t_tup_str, t_int_str, t_bool_str, t_lst_str, t_dict_str, t_str_tup, t_tup_tup, t_int_tup, t_bool_tup, t_lst_tup, t_dict_tup, t_str_lst, t_tup_lst, t_int_lst, t_bool_lst, t_lst_lst, t_dict_lst, t_str_dic, t_tup_dic, t_int_dic, t_bool_dic, t_lst_dic, t_dict_dic, r_add_i, r_add_s, r_add_t, r_add_l, r_sub, r_mul, r_mul_l, r_fdiv, r_mod, r_pow, r_lt, r_ix_l, r_ix_t, r_ix_s, r_ix_rl, r_ix_rd, r_sl_l, r_sl_sl, r_sl_t, r_sl_s, r_len_l, r_len_sl, r_len_t, r_len_s, r_len_r, r_all, r_any, r_tuple_l, r_tuple_sl, r_tuple_t, r_tuple_r, r_list_l, r_list_sl, r_list_t, r_list_r, r_ord, r_repr, r_pop, r_app, r_ext, r_join, r_join_t, r_isl_r, r_isl_l, r_in, r_put_d, r_put_l, r_eq_i, r_eq_s, r_ne_i, r_ne_s, r_eq_t0, r_ne_t0, r_eq_r0, r_ne_r0, r_eq_l0, r_ne_l0, q_lstM, q_frz, e_fz_r, e_fz_non, e_fz_bl, e_fz_int, e_fz_str, e_fz_tup, e_fz_lst, e_fz_dic, q_drp, q_zs, e_zs_tup_tup, e_zs_tup_lst, e_zs_tup_slst, e_zs_lst_tup, e_zs_lst_lst, e_zs_lst_slst, e_zs_slst_tup, e_zs_slst_lst, e_zs_slst_slst, r_mem_s, r_mem_t, r_mem_l, r_int_i, r_int_b, r_listM_l, r_listM_sl, r_listM_t, r_start, wipeD, br_not, br_true, br_false, br_dec, List.map_cons, List.map_nil, List.length_cons, List.length_nil, List.replicate_succ, List.replicate_zero, List.cons_append, List.nil_append, List.getElem?_cons_zero, List.getElem?_cons_succ, List.getElem?_nil, List.set_cons_zero, List.set_cons_succ, Nat.reduceAdd, Nat.reduceSub, Nat.reduceLeDiff, Nat.zero_add, updM_same, true_and, List.isEmpty_nil, List.isEmpty_cons, Bool.not_true, Bool.not_false, Bool.not_not, q_revA, e_ra_l, e_ra_s, e_ra_t, e_ra_z, q_star, e_st_l, e_st_s, e_st_t, q_par3, e_p3, q_cont, r_mul2_i, r_mul2_l, r_mul2_s, r_le2_i, r_le2_s, r_lt2_i, r_lt2_s, r_sum, r_max2, r_min2, r_rst, r_spl, r_six, q_callX, q_callKX, q_raise, e_d1, q_try, q_tryW, q_xf, q_isX, e_cau, r_add2_i, r_add2_s, r_add2_t, r_add2_l, r_add2_rl, r_add2_lr, q_sliM, r_slM, q_kdef, q_mix21, q_mix03, List.length_map, List.length_reverse, ← List.map_reverse, ← List.map_append]
          refine ⟨by omega, _, ?_, fd, w' ++ (parts s).reverse, _, ?_, rfl, ?_, ?_, rfl⟩
          · rw [lw, lenI_append, lenI_rev]
            have : lenP (wts rows) (.inr n) = 1 + lenI (parts s) (wts rows) := by
              show (wts rows).getD n 0 = _
              rw [List.getD_eq_getElem?_getD, wts_get hr.rws gs]
              rfl
            rw [this]
            omega
          · rw [updM_two, updM_two]
          · rw [e', List.reverse_append, List.reverse_reverse, exI_append]
            congr 2
            show (exs rows).getD n [] = _
            rw [List.getD_eq_getElem?_getD, exs_get hr.rws gs]
            rfl
          · intro k hk
            rcases List.mem_append.mp hk with q | q
            · exact vw k q
            · exact Nat.lt_trans (so.val k (List.mem_reverse.mp q)) hn
end K43

namespace K43
open PySem L2 Fx
def lD (l : List Str) : D := .lst (l.map .str)
def lsD (ls : List (List Str)) : D := .lst (ls.map lD)
def R_l_between : RD := fun xs M F => ∃ ls, xs = [lsD ls] ∧ (ls.map List.length).sum + ls.length ≤ 100000 ∧ F (lD (btw ls)) M
theorem ln_l_between : ∀ xs M F, R_l_between xs M F → xs.length = 1 := fun xs M F ⟨p, e, _⟩ => by rw [e]; rfl
theorem sum_take (l : List Nat) (k : Nat) : (l.take k).sum ≤ l.sum := by
  have : l.sum = (l.take k).sum + (l.drop k).sum := by rw [← List.sum_append, List.take_append_drop]
  omega
theorem rd_l_between : ∀ ds M F, R_l_between ds M F → T_l_between { nx := fun _ M' => F .non M', rt := F } (startD 4 ds) M := by
  intro ds M F ⟨ls, e, hl, h⟩
  subst e
  simp only [T_l_between, lsD, q_v, q_c, q_tup, q_lst, q_op, q_nil, q_cons, q_tst, q_tru, q_andT, q_orT, q_notT, q_andV, q_orV, q_notV, q_ifE, q_next, q_seq, q_asg, q_drop, q_ret, q_retN, q_ifS, q_par, q_isi, q_blt, q_call, q_callK, q_kid, q_kswap, q_chain, q_neg, q_isN, q_notN, q_noO, q_someO, q_sli, q_rev, q_revM, q_bm, q_bm0, q_m1, q_seqI, q_rng, q_rng2, q_enum, q_zip, q_gnm, q_gtp, q_gs0, q_gs1, q_yes, q_put, e_bl, e_int, e_str, e_lst, e_n_non, e_n_bl, e_n_int, e_n_str, e_n_tup, e_n_lst, e_n_slst, e_n_dic, e_n_ref, e_seq_l, e_seq_s, e_seq_t, e_seq_z, e_rev_l, e_rev_s, e_i1, e_i2, e_l1, e_l1s, e_l2, e_p2, e_sl, e_o, e_ob, e_on, e_ml, e_md, e_c, e_tru_b, e_tru_n, e_tru_i, e_tru_t, e_tru_l, t_str_non, t_tup_non, t_int_non, t_bool_non, t_lst_non, t_dict_non, t_str_bl, t_tup_bl, t_int_bl, t_bool_bl, t_lst_bl, t_dict_bl, t_str_int, t_tup_int, t_int_int, t_bool_int, t_lst_int, t_dict_int, t_str_str, t_tup_str, t_int_str, t_bool_str, t_lst_str, t_dict_str, t_str_tup, t_tup_tup, t_int_tup, t_bool_tup, t_lst_tup, t_dict_tup, t_str_lst, t_tup_lst, t_int_lst, t_bool_lst, t_lst_lst, t_dict_lst, t_str_dic, t_tup_dic, t_int_dic, t_bool_dic, t_lst_dic, t_dict_dic, r_add_i, r_add_s, r_add_t, r_add_l, r_sub, r_mul, r_mul_l, r_fdiv, r_mod, r_pow, r_lt, r_ix_l, r_ix_t, r_ix_s, r_ix_rl, r_ix_rd, r_sl_l, r_sl_sl, r_sl_t, r_sl_s, r_len_l, r_len_sl, r_len_t, r_len_s, r_len_r, r_all, r_any, r_tuple_l, r_tuple_sl, r_tuple_t, r_tuple_r, r_list_l, r_list_sl, r_list_t, r_list_r, r_ord, r_repr, r_pop, r_app, r_ext, r_join, r_join_t, r_isl_r, r_isl_l, r_in, r_put_d, r_put_l, r_eq_i, r_eq_s, r_ne_i, r_ne_s, r_eq_t0, r_ne_t0, r_eq_r0, r_ne_r0, r_eq_l0, r_ne_l0, q_lstM, q_frz, e_fz_r, e_fz_non, e_fz_bl, e_fz_int, e_fz_str, e_fz_tup, e_fz_lst, e_fz_dic, q_drp, q_zs, e_zs_tup_tup, e_zs_tup_lst, e_zs_tup_slst, e_zs_lst_tup, e_zs_lst_lst, e_zs_lst_slst, e_zs_slst_tup, e_zs_slst_lst, e_zs_slst_slst, r_mem_s, r_mem_t, r_mem_l, r_int_i, r_int_b, r_listM_l, r_listM_sl, r_listM_t, r_start, wipeD, br_not, br_true, br_false, br_dec, List.map_cons, List.map_nil, List.length_cons, List.length_nil, List.replicate_succ, List.replicate_zero, List.cons_append, List.nil_append, List.getElem?_cons_zero, List.getElem?_cons_succ, List.getElem?_nil, List.set_cons_zero, List.set_cons_succ, Nat.reduceAdd, Nat.reduceSub, Nat.reduceLeDiff, Nat.zero_add, updM_same, true_and, List.isEmpty_nil, List.isEmpty_cons, Bool.not_true, Bool.not_false, Bool.not_not, q_revA, e_ra_l, e_ra_s, e_ra_t, e_ra_z, q_star, e_st_l, e_st_s, e_st_t, q_par3, e_p3, q_cont, r_mul2_i, r_mul2_l, r_mul2_s, r_le2_i, r_le2_s, r_lt2_i, r_lt2_s, r_sum, r_max2, r_min2, r_rst, r_spl, r_six, q_callX, q_callKX, q_raise, e_d1, q_try, q_tryW, q_xf, q_isX, e_cau, r_add2_i, r_add2_s, r_add2_t, r_add2_l, r_add2_rl, r_add2_lr, q_sliM, r_slM, q_kdef, q_mix21, q_mix03, q_for, cC]
  refine for_inv (fun i ds' M' => M' = M ∧ ∃ x y, ds' = [some (.lst (ls.map lD)), some (lD (btw (ls.take i))), x, y]) ⟨rfl, none, none, rfl⟩ (fun i d ds' M' hi w => ?_) fun ds' M' w => ?_
  · obtain ⟨rfl, x, y, rfl⟩ := w
    rw [enumL_get, List.getElem?_map] at hi
    obtain ⟨d1, hd1, rfl⟩ := Option.map_eq_some_iff.mp hi
    obtain ⟨a, ga, rfl⟩ := Option.map_eq_some_iff.mp hd1
    have hlt := (List.getElem?_eq_some_iff.mp ga).1
    have et : ls.take (i + 1) = ls.take i ++ [a] := by rw [List.take_add_one, ga]; rfl
    have bl := btw_len (ls.take (i + 1))
    have s1 : ((ls.take (i + 1)).map List.length).sum ≤ (ls.map List.length).sum := by
      rw [List.map_take]
      exact sum_take _ _
    have l1 : (ls.take (i + 1)).length = i + 1 := by rw [List.length_take]; omega
    have l0 : (ls.take i).length = i := by rw [List.length_take]; omega
    rw [l1] at bl
    have bs := btw_snoc (ls.take i) a
    rw [← et] at bs
    have hlen : (btw (ls.take (i + 1))).length = (btw (ls.take i)).length + (if ls.take i = [] then ([] : List Str) else [sC]).length + a.length := by
      rw [bs, List.length_append, List.length_append]
    have hc : (List.replicate (if decide ((0 : Int) < (i : Int)) = true then (1 : Int) else 0).toNat [D.str sC]).flatten = (if ls.take i = [] then ([] : List Str) else [sC]).map D.str := by
      by_cases h0 : i = 0
      · subst h0
        rfl
      · have hne : ls.take i ≠ [] := fun z => by
          rw [z] at l0
          exact h0 l0.symm
        rw [if_neg hne, if_pos (decide_eq_true (by omega))]
        rfl
    have hcl : (if ls.take i = [] then ([] : List Str) else [sC]).length ≤ 1 := by split <;> decide
    simp only [lD, q_v, q_c, q_tup, q_lst, q_op, q_nil, q_cons, q_tst, q_tru, q_andT, q_orT, q_notT, q_andV, q_orV, q_notV, q_ifE, q_next, q_seq, q_asg, q_drop, q_ret, q_retN, q_ifS, q_par, q_isi, q_blt, q_call, q_callK, q_kid, q_kswap, q_chain, q_neg, q_isN, q_notN, q_noO, q_someO, q_sli, q_rev, q_revM, q_bm, q_bm0, q_m1, q_seqI, q_rng, q_rng2, q_enum, q_zip, q_gnm, q_gtp, q_gs0, q_gs1, q_yes, q_put, e_bl, e_int, e_str, e_lst, e_n_non, e_n_bl, e_n_int, e_n_str, e_n_tup, e_n_lst, e_n_slst, e_n_dic, e_n_ref, e_seq_l, e_seq_s, e_seq_t, e_seq_z, e_rev_l, e_rev_s, e_i1, e_i2, e_l1, e_l1s, e_l2, e_p2, e_sl, e_o, e_ob, e_on, e_ml, e_md, e_c, e_tru_b, e_tru_n, e_tru_i, e_tru_t, e_tru_l, t_str_non, t_tup_non, t_int_non, t_bool_non, t_lst_non, t_dict_non, t_str_bl, t_tup_bl, t_int_bl, t_bool_bl, t_lst_bl, t_dict_bl, t_str_int, t_tup_int, t_int_int, t_bool_int, t_lst_int, t_dict_int, t_str_str, t_tup_str, t_int_str, t_bool_str, t_lst_str, t_dict_str, t_str_tup, t_tup_tup, t_int_tup, t_bool_tup, t_lst_tup, t_dict_tup, t_str_lst, t_tup_lst, t_int_lst, t_bool_lst, t_lst_lst, t_dict_lst, t_str_dic, t_tup_dic, t_int_dic, t_bool_dic, t_lst_dic, t_dict_dic, r_add_i, r_add_s, r_add_t, r_add_l, r_sub, r_mul, r_mul_l, r_fdiv, r_mod, r_pow, r_lt, r_ix_l, r_ix_t, r_ix_s, r_ix_rl, r_ix_rd, r_sl_l, r_sl_sl, r_sl_t, r_sl_s, r_len_l, r_len_sl, r_len_t, r_len_s, r_len_r, r_all, r_any, r_tuple_l, r_tuple_sl, r_tuple_t, r_tuple_r, r_list_l, r_list_sl, r_list_t, r_list_r, r_ord, r_repr, r_pop, r_app, r_ext, r_join, r_join_t, r_isl_r, r_isl_l, r_in, r_put_d, r_put_l, r_eq_i, r_eq_s, r_ne_i, r_ne_s, r_eq_t0, r_ne_t0, r_eq_r0, r_ne_r0, r_eq_l0, r_ne_l0, q_lstM, q_frz, e_fz_r, e_fz_non, e_fz_bl, e_fz_int, e_fz_str, e_fz_tup, e_fz_lst, e_fz_dic, q_drp, q_zs, e_zs_tup_tup, e_zs_tup_lst, e_zs_tup_slst, e_zs_lst_tup, e_zs_lst_lst, e_zs_lst_slst, e_zs_slst_tup, e_zs_slst_lst, e_zs_slst_slst, r_mem_s, r_mem_t, r_mem_l, r_int_i, r_int_b, r_listM_l, r_listM_sl, r_listM_t, r_start, wipeD, br_not, br_true, br_false, br_dec, List.map_cons, List.map_nil, List.length_cons, List.length_nil, List.replicate_succ, List.replicate_zero, List.cons_append, List.nil_append, List.getElem?_cons_zero, List.getElem?_cons_succ, List.getElem?_nil, List.set_cons_zero, List.set_cons_succ, Nat.reduceAdd, Nat.reduceSub, Nat.reduceLeDiff, Nat.zero_add, updM_same, true_and, List.isEmpty_nil, List.isEmpty_cons, Bool.not_true, Bool.not_false, Bool.not_not, q_revA, e_ra_l, e_ra_s, e_ra_t, e_ra_z, q_star, e_st_l, e_st_s, e_st_t, q_par3, e_p3, q_cont, r_mul2_i, r_mul2_l, r_mul2_s, r_le2_i, r_le2_s, r_lt2_i, r_lt2_s, r_sum, r_max2, r_min2, r_rst, r_spl, r_six, q_callX, q_callKX, q_raise, e_d1, q_try, q_tryW, q_xf, q_isX, e_cau, r_add2_i, r_add2_s, r_add2_t, r_add2_l, r_add2_rl, r_add2_lr, q_sliM, r_slM, q_kdef, q_mix21, q_mix03, Nat.zero_add, hc]
    refine ⟨by split <;> decide, by split <;> decide, by split <;> decide, ?_, ?_, ?_⟩
    · rw [List.length_map, List.length_map]
      omega
    · rw [List.length_append, List.length_map, List.length_map, List.length_map]
      omega
    · rw [bs, List.map_append, List.map_append]
      exact ⟨_, _, rfl⟩
  · obtain ⟨rfl, x, y, rfl⟩ := w
    rw [enumL_len, List.length_map, List.take_length]
    simp only [q_v, q_c, q_tup, q_lst, q_op, q_nil, q_cons, q_tst, q_tru, q_andT, q_orT, q_notT, q_andV, q_orV, q_notV, q_ifE, q_next, q_seq, q_asg, q_drop, q_ret, q_retN, q_ifS, q_par, q_isi, q_blt, q_call, q_callK, q_kid, q_kswap, q_chain, q_neg, q_isN, q_notN, q_noO, q_someO, q_sli, q_rev, q_revM, q_bm, q_bm0, q_m1, q_seqI, q_rng, q_rng2, q_enum, q_zip, q_gnm, q_gtp, q_gs0, q_gs1, q_yes, q_put, e_bl, e_int, e_str, e_lst, e_n_non, e_n_bl, e_n_int, e_n_str, e_n_tup, e_n_lst, e_n_slst, e_n_dic, e_n_ref, e_seq_l, e_seq_s, e_seq_t, e_seq_z, e_rev_l, e_rev_s, e_i1, e_i2, e_l1, e_l1s, e_l2, e_p2, e_sl, e_o, e_ob, e_on, e_ml, e_md, e_c, e_tru_b, e_tru_n, e_tru_i, e_tru_t, e_tru_l, t_str_non, t_tup_non, t_int_non, t_bool_non, t_lst_non, t_dict_non, t_str_bl, t_tup_bl, t_int_bl, t_bool_bl, t_lst_bl, t_dict_bl, t_str_int, t_tup_int, t_int_int, t_bool_int, t_lst_int, t_dict_int, t_str_str, t_tup_str, t_int_str, t_bool_str, t_lst_str, t_dict_str, t_str_tup, t_tup_tup, t_int_tup, t_bool_tup, t_lst_tup, t_dict_tup, t_str_lst, t_tup_lst, t_int_lst, t_bool_lst, t_lst_lst, t_dict_lst, t_str_dic, t_tup_dic, t_int_dic, t_bool_dic, t_lst_dic, t_dict_dic, r_add_i, r_add_s, r_add_t, r_add_l, r_sub, r_mul, r_mul_l, r_fdiv, r_mod, r_pow, r_lt, r_ix_l, r_ix_t, r_ix_s, r_ix_rl, r_ix_rd, r_sl_l, r_sl_sl, r_sl_t, r_sl_s, r_len_l, r_len_sl, r_len_t, r_len_s, r_len_r, r_all, r_any, r_tuple_l, r_tuple_sl, r_tuple_t, r_tuple_r, r_list_l, r_list_sl, r_list_t, r_list_r, r_ord, r_repr, r_pop, r_app, r_ext, r_join, r_join_t, r_isl_r, r_isl_l, r_in, r_put_d, r_put_l, r_eq_i, r_eq_s, r_ne_i, r_ne_s, r_eq_t0, r_ne_t0, r_eq_r0, r_ne_r0, r_eq_l0, r_ne_l0, q_lstM, q_frz, e_fz_r, e_fz_non, e_fz_bl, e_fz_int, e_fz_str, e_fz_tup, e_fz_lst, e_fz_dic, q_drp, q_zs, e_zs_tup_tup, e_zs_tup_lst, e_zs_tup_slst, e_zs_lst_tup, e_zs_lst_lst, e_zs_lst_slst, e_zs_slst_tup, e_zs_slst_lst, e_zs_slst_slst, r_mem_s, r_mem_t, r_mem_l, r_int_i, r_int_b, r_listM_l, r_listM_sl, r_listM_t, r_start, wipeD, br_not, br_true, br_false, br_dec, List.map_cons, List.map_nil, List.length_cons, List.length_nil, List.replicate_succ, List.replicate_zero, List.cons_append, List.nil_append, List.getElem?_cons_zero, List.getElem?_cons_succ, List.getElem?_nil, List.set_cons_zero, List.set_cons_succ, Nat.reduceAdd, Nat.reduceSub, Nat.reduceLeDiff, Nat.zero_add, updM_same, true_and, List.isEmpty_nil, List.isEmpty_cons, Bool.not_true, Bool.not_false, Bool.not_not, q_revA, e_ra_l, e_ra_s, e_ra_t, e_ra_z, q_star, e_st_l, e_st_s, e_st_t, q_par3, e_p3, q_cont, r_mul2_i, r_mul2_l, r_mul2_s, r_le2_i, r_le2_s, r_lt2_i, r_lt2_s, r_sum, r_max2, r_min2, r_rst, r_spl, r_six, q_callX, q_callKX, q_raise, e_d1, q_try, q_tryW, q_xf, q_isX, e_cau, r_add2_i, r_add2_s, r_add2_t, r_add2_l, r_add2_rl, r_add2_lr, q_sliM, r_slM, q_kdef, q_mix21, q_mix03]
    exact h
/-! small rows -/
def few4 : Stp → Prop
  | .call _ ns => ns.length ≤ 4
  | .meth _ _ ns => ns.length ≤ 4
  | _ => True
theorem few4.up {s : Stp} (h : few4 s) : few s := by
  cases s with
  | tok t => trivial
  | oper n a b => trivial
  | call n ns => exact Nat.le_trans h (by decide)
  | meth n a ns => exact Nat.le_trans h (by decide)
structure RwL (rows : List Stp) : Prop where
  val : ∀ i s, rows[i]? = some s → Val i (parts s)
  n12 : rows.length ≤ 12
  f4 : ∀ s ∈ rows, few4 s
  sm : ∀ l ∈ exs rows, l.length ≤ 600
theorem RwL.ok {rows : List Stp} (h : RwL rows) : RwOk rows := ⟨fun i s g => ⟨h.val i s g, (h.f4 s (List.mem_of_getElem? g)).up⟩, Nat.le_trans h.n12 (by decide)⟩
theorem getD_mem {fs : List (List Str)} {n : Nat} (h : n < fs.length) : fs.getD n [] ∈ fs := by
  rw [List.getD_eq_getElem?_getD]
  simp [h]
def R_l_written : RD := fun xs M F => ∃ rows, xs = [rD rows] ∧ RwL rows ∧ F (lsD (exs rows)) M
theorem ln_l_written : ∀ xs M F, R_l_written xs M F → xs.length = 1 := fun xs M F ⟨p, e, _⟩ => by rw [e]; rfl
theorem at_lD {fs : List (List Str)} {n : Nat} (h : n < fs.length) : atI (fs.map lD) (n : Int) = some (lD (fs.getD n [])) := by
  refine atI_nat ?_
  rw [List.getElem?_map, List.getD_eq_getElem?_getD]
  simp [h]
def pickD (fs : List (List Str)) : D → D
  | .int i => lD (fs.getD i.toNat [])
  | d => d
theorem pick_map (fs : List (List Str)) (ns : List Nat) : (ns.map nD).map (pickD fs) = (ns.map fun n => fs.getD n []).map lD := by
  rw [List.map_map, List.map_map]
  refine List.map_congr_left fun n _ => ?_
  simp [nD, pickD]
theorem sums_le {fs : List (List Str)} (ns : List Nat) (h : ∀ n ∈ ns, (fs.getD n []).length ≤ 600) : ((ns.map fun n => fs.getD n []).map List.length).sum ≤ 600 * ns.length := by
  induction ns with
  | nil => exact Nat.le_refl _
  | cons n ns ih =>
    have := ih fun m hm => h m (List.mem_cons_of_mem _ hm)
    have := h n List.mem_cons_self
    rw [List.map_cons, List.map_cons, List.sum_cons, List.length_cons]
    omega
theorem btw_le (l : List (List Str)) : (btw l).length ≤ (l.map List.length).sum + l.length := by
  have := btw_len l
  omega
theorem listed_mem {ns : List Nat} {n : Nat} (h : n ∈ ns) : Sum.inr n ∈ listed ns := by
  unfold listed
  cases ns with
  | nil => cases h
  | cons m ns =>
    rw [List.flatMap_cons]
    show Sum.inr n ∈ (Sum.inr m :: ns.flatMap fun n => [Sum.inl sC, Sum.inr n] : List Prt)
    rcases List.mem_cons.mp h with e | h
    · rw [e]
      exact List.mem_cons_self
    · refine List.mem_cons_of_mem _ (List.mem_flatMap.mpr ⟨n, h, ?_⟩)
      simp
/-- the lists of a step's numbers -/
theorem lc_lists {ds : Ds} {M : Mp} {F : DK} {t : Nat} {E : TEd} {L : Addr} {fs : List (List Str)} {ns : List Nat} {T : TId} (hM : M L = some (.lst (fs.map lD))) (hn : ∀ n ∈ ns, n < fs.length) (hl : ns.length ≤ 1000)
    (hT : ∀ G : List D → Mp → Prop, G (ns.map nD) M → T ds M G) (hE : ∀ (n : Nat) M' (G : DK), ixR (.ref L) (nD n) M' G → E ((wipeD ds [t]).set t (some (nD n))) M' G)
    (hF : F (lsD (ns.map fun n => fs.getD n [])) M) : lcD T (.nm t) yesD E [t] ds M F := by
  refine lc_mapK (pickD fs) (xs := ns.map nD) (by rw [List.length_map]; omega) hT (fun d hd => ?_) ?_
  · obtain ⟨n, hm, rfl⟩ := List.mem_map.mp hd
    rw [q_gnm]
    intro M' k G g
    refine hE n M' G ?_
    have e := at_lD (hn n hm)
    simp only [nD, q_v, q_c, q_tup, q_lst, q_op, q_nil, q_cons, q_tst, q_tru, q_andT, q_orT, q_notT, q_andV, q_orV, q_notV, q_ifE, q_next, q_seq, q_asg, q_drop, q_ret, q_retN, q_ifS, q_par, q_isi, q_blt, q_call, q_callK, q_kid, q_kswap, q_chain, q_neg, q_isN, q_notN, q_noO, q_someO, q_sli, q_rev, q_revM, q_bm, q_bm0, q_m1, q_seqI, q_rng, q_rng2, q_enum, q_zip, q_gnm, q_gtp, q_gs0, q_gs1, q_yes, q_put, e_bl, e_int, e_str, e_lst, e_n_non, e_n_bl, e_n_int, e_n_str, e_n_tup, e_n_lst, e_n_slst, e_n_dic, e_n_ref, e_seq_l, e_seq_s, e_seq_t, e_seq_z, e_rev_l, e_rev_s, e_i1, e_i2, e_l1, e_l1s, e_l2, e_p2, e_sl, e_o, e_ob, e_on, e_ml, e_md, e_c, e_tru_b, e_tru_n, e_tru_i, e_tru_t, e_tru_l, t_str_non, t_tup_non, t_int_non, t_bool_non, t_lst_non, t_dict_non, t_str_bl, t_tup_bl, t_int_bl, t_bool_bl, t_lst_bl, t_dict_bl, t_str_int, t_tup_int, t_int_int, t_bool_int, t_lst_int, t_dict_int, t_str_str, t_tup_str, t_int_str, t_bool_str, t_lst_str, t_dict_str, t_str_tup, t_tup_tup, t_int_tup, t_bool_tup, t_lst_tup, t_dict_tup, t_str_lst, t_tup_lst, t_int_lst, t_bool_lst, t_lst_lst, t_dict_lst, t_str_dic, t_tup_dic, t_int_dic, t_bool_dic, t_lst_dic, t_dict_dic, r_add_i, r_add_s, r_add_t, r_add_l, r_sub, r_mul, r_mul_l, r_fdiv, r_mod, r_pow, r_lt, r_ix_l, r_ix_t, r_ix_s, r_ix_rl, r_ix_rd, r_sl_l, r_sl_sl, r_sl_t, r_sl_s, r_len_l, r_len_sl, r_len_t, r_len_s, r_len_r, r_all, r_any, r_tuple_l, r_tuple_sl, r_tuple_t, r_tuple_r, r_list_l, r_list_sl, r_list_t, r_list_r, r_ord, r_repr, r_pop, r_app, r_ext, r_join, r_join_t, r_isl_r, r_isl_l, r_in, r_put_d, r_put_l, r_eq_i, r_eq_s, r_ne_i, r_ne_s, r_eq_t0, r_ne_t0, r_eq_r0, r_ne_r0, r_eq_l0, r_ne_l0, q_lstM, q_frz, e_fz_r, e_fz_non, e_fz_bl, e_fz_int, e_fz_str, e_fz_tup, e_fz_lst, e_fz_dic, q_drp, q_zs, e_zs_tup_tup, e_zs_tup_lst, e_zs_tup_slst, e_zs_lst_tup, e_zs_lst_lst, e_zs_lst_slst, e_zs_slst_tup, e_zs_slst_lst, e_zs_slst_slst, r_mem_s, r_mem_t, r_mem_l, r_int_i, r_int_b, r_listM_l, r_listM_sl, r_listM_t, r_start, wipeD, br_not, br_true, br_false, br_dec, List.map_cons, List.map_nil, List.length_cons, List.length_nil, List.replicate_succ, List.replicate_zero, List.cons_append, List.nil_append, List.getElem?_cons_zero, List.getElem?_cons_succ, List.getElem?_nil, List.set_cons_zero, List.set_cons_succ, Nat.reduceAdd, Nat.reduceSub, Nat.reduceLeDiff, Nat.zero_add, updM_same, true_and, List.isEmpty_nil, List.isEmpty_cons, Bool.not_true, Bool.not_false, Bool.not_not, q_revA, e_ra_l, e_ra_s, e_ra_t, e_ra_z, q_star, e_st_l, e_st_s, e_st_t, q_par3, e_p3, q_cont, r_mul2_i, r_mul2_l, r_mul2_s, r_le2_i, r_le2_s, r_lt2_i, r_lt2_s, r_sum, r_max2, r_min2, r_rst, r_spl, r_six, q_callX, q_callKX, q_raise, e_d1, q_try, q_tryW, q_xf, q_isX, e_cau, r_add2_i, r_add2_s, r_add2_t, r_add2_l, r_add2_rl, r_add2_lr, q_sliM, r_slM, q_kdef, q_mix21, q_mix03, k _ _ hM]
    rw [e]
    simpa [pickD, nD, eO] using g
  · rw [pick_map]
    exact hF
theorem rd_l_written : ∀ ds M F, R_l_written ds M F → T_l_written R_l_between { nx := fun _ M' => F .non M', rt := F } (startD 5 ds) M := by
  intro ds M F ⟨rows, e, hr, h⟩
  subst e
  simp only [T_l_written, rD, q_v, q_c, q_tup, q_lst, q_op, q_nil, q_cons, q_tst, q_tru, q_andT, q_orT, q_notT, q_andV, q_orV, q_notV, q_ifE, q_next, q_seq, q_asg, q_drop, q_ret, q_retN, q_ifS, q_par, q_isi, q_blt, q_call, q_callK, q_kid, q_kswap, q_chain, q_neg, q_isN, q_notN, q_noO, q_someO, q_sli, q_rev, q_revM, q_bm, q_bm0, q_m1, q_seqI, q_rng, q_rng2, q_enum, q_zip, q_gnm, q_gtp, q_gs0, q_gs1, q_yes, q_put, e_bl, e_int, e_str, e_lst, e_n_non, e_n_bl, e_n_int, e_n_str, e_n_tup, e_n_lst, e_n_slst, e_n_dic, e_n_ref, e_seq_l, e_seq_s, e_seq_t, e_seq_z, e_rev_l, e_rev_s, e_i1, e_i2, e_l1, e_l1s, e_l2, e_p2, e_sl, e_o, e_ob, e_on, e_ml, e_md, e_c, e_tru_b, e_tru_n, e_tru_i, e_tru_t, e_tru_l, t_str_non, t_tup_non, t_int_non, t_bool_non, t_lst_non, t_dict_non, t_str_bl, t_tup_bl, t_int_bl, t_bool_bl, t_lst_bl, t_dict_bl, t_str_int, t_tup_int, t_int_int, t_bool_int, t_lst_int, t_dict_int, t_str_str, t_tup_str, t_int_str, t_bool_str, t_lst_str, t_dict_str, t_str_tup, t_tup_tup, t_int_tup, t_bool_tup, t_lst_tup, t_dict_tup, t_str_lst, t_tup_lst, t_int_lst, t_bool_lst, t_lst_lst, t_dict_lst, t_str_dic, t_tup_dic, t_int_dic, t_bool_dic, t_lst_dic, t_dict_dic, r_add_i, r_add_s, r_add_t, r_add_l, r_sub, r_mul, r_mul_l, r_fdiv, r_mod, r_pow, r_lt, r_ix_l, r_ix_t, r_ix_s, r_ix_rl, r_ix_rd, r_sl_l, r_sl_sl, r_sl_t, r_sl_s, r_len_l, r_len_sl, r_len_t, r_len_s, r_len_r, r_all, r_any, r_tuple_l, r_tuple_sl, r_tuple_t, r_tuple_r, r_list_l, r_list_sl, r_list_t, r_list_r, r_ord, r_repr, r_pop, r_app, r_ext, r_join, r_join_t, r_isl_r, r_isl_l, r_in, r_put_d, r_put_l, r_eq_i, r_eq_s, r_ne_i, r_ne_s, r_eq_t0, r_ne_t0, r_eq_r0, r_ne_r0, r_eq_l0, r_ne_l0, q_lstM, q_frz, e_fz_r, e_fz_non, e_fz_bl, e_fz_int, e_fz_str, e_fz_tup, e_fz_lst, e_fz_dic, q_drp, q_zs, e_zs_tup_tup, e_zs_tup_lst, e_zs_tup_slst, e_zs_lst_tup, e_zs_lst_lst, e_zs_lst_slst, e_zs_slst_tup, e_zs_slst_lst, e_zs_slst_slst, r_mem_s, r_mem_t, r_mem_l, r_int_i, r_int_b, r_listM_l, r_listM_sl, r_listM_t, r_start, wipeD, br_not, br_true, br_false, br_dec, List.map_cons, List.map_nil, List.length_cons, List.length_nil, List.replicate_succ, List.replicate_zero, List.cons_append, List.nil_append, List.getElem?_cons_zero, List.getElem?_cons_succ, List.getElem?_nil, List.set_cons_zero, List.set_cons_succ, Nat.reduceAdd, Nat.reduceSub, Nat.reduceLeDiff, Nat.zero_add, updM_same, true_and, List.isEmpty_nil, List.isEmpty_cons, Bool.not_true, Bool.not_false, Bool.not_not, q_revA, e_ra_l, e_ra_s, e_ra_t, e_ra_z, q_star, e_st_l, e_st_s, e_st_t, q_par3, e_p3, q_cont, r_mul2_i, r_mul2_l, r_mul2_s, r_le2_i, r_le2_s, r_lt2_i, r_lt2_s, r_sum, r_max2, r_min2, r_rst, r_spl, r_six, q_callX, q_callKX, q_raise, e_d1, q_try, q_tryW, q_xf, q_isX, e_cau, r_add2_i, r_add2_s, r_add2_t, r_add2_l, r_add2_rl, r_add2_lr, q_sliM, r_slM, q_kdef, q_mix21, q_mix03, q_for]
  intro L hL
  refine for_inv (fun i ds' M' => M' = updM M L (.lst (((exs rows).take i).map lD)) ∧ ∃ x y z, ds' = [some (.tup (rows.map sD)), some (.ref L), x, y, z]) ⟨by rw [List.take_zero]; rfl, none, none, none, rfl⟩ (fun i d ds' M' hi w => ?_) fun ds' M' w => ?_
  · obtain ⟨rfl, x, y, z, rfl⟩ := w
    rw [List.getElem?_map] at hi
    obtain ⟨s, gs, rfl⟩ := Option.map_eq_some_iff.mp hi
    have hlt := (List.getElem?_eq_some_iff.mp gs).1
    have hv := hr.val i s gs
    have h4 := hr.f4 s (List.mem_of_getElem? gs)
    have n12 := hr.n12
    have tl : ((exs rows).take i).length = i := by rw [List.length_take, exs_len]; omega
    have et : (exs rows).take (i + 1) = (exs rows).take i ++ [exI (parts s) ((exs rows).take i)] := by
      rw [List.take_add_one, exs_get hr.ok.rws gs, exI_take hv]
      rfl
    have sm : ∀ n, n < i → (((exs rows).take i).getD n []).length ≤ 600 := fun n hn => hr.sm _ (List.mem_of_mem_take (getD_mem (by rw [tl]; exact hn)))
    have post : ∀ (M' : Mp) (l : List Str) (x y z : Option D), M' = updM M L (.lst (((exs rows).take i).map lD ++ [lD l])) → l = exI (parts s) ((exs rows).take i) →
        M' = updM M L (.lst (((exs rows).take (i + 1)).map lD)) ∧ ∃ x' y' z', [some (D.tup (rows.map sD)), some (.ref L), x, y, z] = [some (D.tup (rows.map sD)), some (.ref L), x', y', z'] := fun M' l x y z e1 e2 => by
      refine ⟨?_, _, _, _, rfl⟩
      rw [e1, et, e2, List.map_append]
      rfl
    generalize (exs rows).take i = fs at *
    cases s with
    | tok t =>
      simp only [sD, q_v, q_c, q_tup, q_lst, q_op, q_nil, q_cons, q_tst, q_tru, q_andT, q_orT, q_notT, q_andV, q_orV, q_notV, q_ifE, q_next, q_seq, q_asg, q_drop, q_ret, q_retN, q_ifS, q_par, q_isi, q_blt, q_call, q_callK, q_kid, q_kswap, q_chain, q_neg, q_isN, q_notN, q_noO, q_someO, q_sli, q_rev, q_revM, q_bm, q_bm0, q_m1, q_seqI, q_rng, q_rng2, q_enum, q_zip, q_gnm, q_gtp, q_gs0, q_gs1, q_yes, q_put, e_bl, e_int, e_str, e_lst, e_n_non, e_n_bl, e_n_int, e_n_str, e_n_tup, e_n_lst, e_n_slst, e_n_dic, e_n_ref, e_seq_l, e_seq_s, e_seq_t, e_seq_z, e_rev_l, e_rev_s, e_i1, e_i2, e_l1, e_l1s, e_l2, e_p2, e_sl, e_o, e_ob, e_on, e_ml, e_md, e_c, e_tru_b, e_tru_n, e_tru_i, e_tru_t, e_tru_l, t_str_non, t_tup_non, t_int_non, t_bool_non, t_lst_non, t_dict_non, t_str_bl, t_tup_bl, t_int_bl, t_bool_bl, t_lst_bl, t_dict_bl, t_str_int, t_tup_int, t_int_int, t_bool_int, t_lst_int, t_dict_int, t_str_str, t_tup_str, t_int_str, t_bool_str, t_lst_str, t_dict_str, t_str_tup, t_tup_tup, t_int_tup, t_bool_tup, t_lst_tup, t_dict_tup, t_str_lst, t_tup_lst, t_int_lst, t_bool_lst, t_lst_lst, t_dict_lst, t_str_dic, t_tup_dic, t_int_dic, t_bool_dic, t_lst_dic, t_dict_dic, r_add_i, r_add_s, r_add_t, r_add_l, r_sub, r_mul, r_mul_l, r_fdiv, r_mod, r_pow, r_lt, r_ix_l, r_ix_t, r_ix_s, r_ix_rl, r_ix_rd, r_sl_l, r_sl_sl, r_sl_t, r_sl_s, r_len_l, r_len_sl, r_len_t, r_len_s, r_len_r, r_all, r_any, r_tuple_l, r_tuple_sl, r_tuple_t, r_tuple_r, r_list_l, r_list_sl, r_list_t, r_list_r, r_ord, r_repr, r_pop, r_app, r_ext, r_join, r_join_t, r_isl_r, r_isl_l, r_in, r_put_d, r_put_l, r_eq_i, r_eq_s, r_ne_i, r_ne_s, r_eq_t0, r_ne_t0, r_eq_r0, r_ne_r0, r_eq_l0, r_ne_l0, q_lstM, q_frz, e_fz_r, e_fz_non, e_fz_bl, e_fz_int, e_fz_str, e_fz_tup, e_fz_lst, e_fz_dic, q_drp, q_zs, e_zs_tup_tup, e_zs_tup_lst, e_zs_tup_slst, e_zs_lst_tup, e_zs_lst_lst, e_zs_lst_slst, e_zs_slst_tup, e_zs_slst_lst, e_zs_slst_slst, r_mem_s, r_mem_t, r_mem_l, r_int_i, r_int_b, r_listM_l, r_listM_sl, r_listM_t, r_start, wipeD, br_not, br_true, br_false, br_dec, List.map_cons, List.map_nil, List.length_cons, List.length_nil, List.replicate_succ, List.replicate_zero, List.cons_append, List.nil_append, List.getElem?_cons_zero, List.getElem?_cons_succ, List.getElem?_nil, List.set_cons_zero, List.set_cons_succ, Nat.reduceAdd, Nat.reduceSub, Nat.reduceLeDiff, Nat.zero_add, updM_same, true_and, List.isEmpty_nil, List.isEmpty_cons, Bool.not_true, Bool.not_false, Bool.not_not, q_revA, e_ra_l, e_ra_s, e_ra_t, e_ra_z, q_star, e_st_l, e_st_s, e_st_t, q_par3, e_p3, q_cont, r_mul2_i, r_mul2_l, r_mul2_s, r_le2_i, r_le2_s, r_lt2_i, r_lt2_s, r_sum, r_max2, r_min2, r_rst, r_spl, r_six, q_callX, q_callKX, q_raise, e_d1, q_try, q_tryW, q_xf, q_isX, e_cau, r_add2_i, r_add2_s, r_add2_t, r_add2_l, r_add2_rl, r_add2_lr, q_sliM, r_slM, q_kdef, q_mix21, q_mix03, at0, at1, w1, ifT, updM_two]
      refine ⟨by rw [List.length_map]; omega, ?_⟩
      exact post _ [t] _ _ _ rfl rfl
    | oper n a b =>
      have va : a < i := hv a (by unfold parts; simp)
      have vb : b < i := hv b (by unfold parts; simp)
      simp only [sD, q_v, q_c, q_tup, q_lst, q_op, q_nil, q_cons, q_tst, q_tru, q_andT, q_orT, q_notT, q_andV, q_orV, q_notV, q_ifE, q_next, q_seq, q_asg, q_drop, q_ret, q_retN, q_ifS, q_par, q_isi, q_blt, q_call, q_callK, q_kid, q_kswap, q_chain, q_neg, q_isN, q_notN, q_noO, q_someO, q_sli, q_rev, q_revM, q_bm, q_bm0, q_m1, q_seqI, q_rng, q_rng2, q_enum, q_zip, q_gnm, q_gtp, q_gs0, q_gs1, q_yes, q_put, e_bl, e_int, e_str, e_lst, e_n_non, e_n_bl, e_n_int, e_n_str, e_n_tup, e_n_lst, e_n_slst, e_n_dic, e_n_ref, e_seq_l, e_seq_s, e_seq_t, e_seq_z, e_rev_l, e_rev_s, e_i1, e_i2, e_l1, e_l1s, e_l2, e_p2, e_sl, e_o, e_ob, e_on, e_ml, e_md, e_c, e_tru_b, e_tru_n, e_tru_i, e_tru_t, e_tru_l, t_str_non, t_tup_non, t_int_non, t_bool_non, t_lst_non, t_dict_non, t_str_bl, t_tup_bl, t_int_bl, t_bool_bl, t_lst_bl, t_dict_bl, t_str_int, t_tup_int, t_int_int, t_bool_int, t_lst_int, t_dict_int, t_str_str, t_tup_str, t_int_str, t_bool_str, t_lst_str, t_dict_str, t_str_tup, t_tup_tup, t_int_tup, t_bool_tup, t_lst_tup, t_dict_tup, t_str_lst, t_tup_lst, t_int_lst, t_bool_lst, t_lst_lst, t_dict_lst, t_str_dic, t_tup_dic, t_int_dic, t_bool_dic, t_lst_dic, t_dict_dic, r_add_i, r_add_s, r_add_t, r_add_l, r_sub, r_mul, r_mul_l, r_fdiv, r_mod, r_pow, r_lt, r_ix_l, r_ix_t, r_ix_s, r_ix_rl, r_ix_rd, r_sl_l, r_sl_sl, r_sl_t, r_sl_s, r_len_l, r_len_sl, r_len_t, r_len_s, r_len_r, r_all, r_any, r_tuple_l, r_tuple_sl, r_tuple_t, r_tuple_r, r_list_l, r_list_sl, r_list_t, r_list_r, r_ord, r_repr, r_pop, r_app, r_ext, r_join, r_join_t, r_isl_r, r_isl_l, r_in, r_put_d, r_put_l, r_eq_i, r_eq_s, r_ne_i, r_ne_s, r_eq_t0, r_ne_t0, r_eq_r0, r_ne_r0, r_eq_l0, r_ne_l0, q_lstM, q_frz, e_fz_r, e_fz_non, e_fz_bl, e_fz_int, e_fz_str, e_fz_tup, e_fz_lst, e_fz_dic, q_drp, q_zs, e_zs_tup_tup, e_zs_tup_lst, e_zs_tup_slst, e_zs_lst_tup, e_zs_lst_lst, e_zs_lst_slst, e_zs_slst_tup, e_zs_slst_lst, e_zs_slst_slst, r_mem_s, r_mem_t, r_mem_l, r_int_i, r_int_b, r_listM_l, r_listM_sl, r_listM_t, r_start, wipeD, br_not, br_true, br_false, br_dec, List.map_cons, List.map_nil, List.length_cons, List.length_nil, List.replicate_succ, List.replicate_zero, List.cons_append, List.nil_append, List.getElem?_cons_zero, List.getElem?_cons_succ, List.getElem?_nil, List.set_cons_zero, List.set_cons_succ, Nat.reduceAdd, Nat.reduceSub, Nat.reduceLeDiff, Nat.zero_add, updM_same, true_and, List.isEmpty_nil, List.isEmpty_cons, Bool.not_true, Bool.not_false, Bool.not_not, q_revA, e_ra_l, e_ra_s, e_ra_t, e_ra_z, q_star, e_st_l, e_st_s, e_st_t, q_par3, e_p3, q_cont, r_mul2_i, r_mul2_l, r_mul2_s, r_le2_i, r_le2_s, r_lt2_i, r_lt2_s, r_sum, r_max2, r_min2, r_rst, r_spl, r_six, q_callX, q_callKX, q_raise, e_d1, q_try, q_tryW, q_xf, q_isX, e_cau, r_add2_i, r_add2_s, r_add2_t, r_add2_l, r_add2_rl, r_add2_lr, q_sliM, r_slM, q_kdef, q_mix21, q_mix03, at0, at1, at2, w4, ifF]
      refine lc_lists (ns := [a, b]) (fs := fs) (L := L) updM_same (fun n hn => ?_) (by simp) (fun G g => by simp only [q_v, q_c, q_tup, q_lst, q_op, q_nil, q_cons, q_tst, q_tru, q_andT, q_orT, q_notT, q_andV, q_orV, q_notV, q_ifE, q_next, q_seq, q_asg, q_drop, q_ret, q_retN, q_ifS, q_par, q_isi, q_blt, q_call, q_callK, q_kid, q_kswap, q_chain, q_neg, q_isN, q_notN, q_noO, q_someO, q_sli, q_rev, q_revM, q_bm, q_bm0, q_m1, q_seqI, q_rng, q_rng2, q_enum, q_zip, q_gnm, q_gtp, q_gs0, q_gs1, q_yes, q_put, e_bl, e_int, e_str, e_lst, e_n_non, e_n_bl, e_n_int, e_n_str, e_n_tup, e_n_lst, e_n_slst, e_n_dic, e_n_ref, e_seq_l, e_seq_s, e_seq_t, e_seq_z, e_rev_l, e_rev_s, e_i1, e_i2, e_l1, e_l1s, e_l2, e_p2, e_sl, e_o, e_ob, e_on, e_ml, e_md, e_c, e_tru_b, e_tru_n, e_tru_i, e_tru_t, e_tru_l, t_str_non, t_tup_non, t_int_non, t_bool_non, t_lst_non, t_dict_non, t_str_bl, t_tup_bl, t_int_bl, t_bool_bl, t_lst_bl, t_dict_bl, t_str_int, t_tup_int, t_int_int, t_bool_int, t_lst_int, t_dict_int, t_str_str, t_tup_str, t_int_str, t_bool_str, t_lst_str, t_dict_str, t_str_tup, t_tup_tup, t_int_tup, t_bool_tup, t_lst_tup, t_dict_tup, t_str_lst, t_tup_lst, t_int_lst, t_bool_lst, t_lst_lst, t_dict_lst, t_str_dic, t_tup_dic, t_int_dic, t_bool_dic, t_lst_dic, t_dict_dic, r_add_i, r_add_s, r_add_t, r_add_l, r_sub, r_mul, r_mul_l, r_fdiv, r_mod, r_pow, r_lt, r_ix_l, r_ix_t, r_ix_s, r_ix_rl, r_ix_rd, r_sl_l, r_sl_sl, r_sl_t, r_sl_s, r_len_l, r_len_sl, r_len_t, r_len_s, r_len_r, r_all, r_any, r_tuple_l, r_tuple_sl, r_tuple_t, r_tuple_r, r_list_l, r_list_sl, r_list_t, r_list_r, r_ord, r_repr, r_pop, r_app, r_ext, r_join, r_join_t, r_isl_r, r_isl_l, r_in, r_put_d, r_put_l, r_eq_i, r_eq_s, r_ne_i, r_ne_s, r_eq_t0, r_ne_t0, r_eq_r0, r_ne_r0, r_eq_l0, r_ne_l0, q_lstM, q_frz, e_fz_r, e_fz_non, e_fz_bl, e_fz_int, e_fz_str, e_fz_tup, e_fz_lst, e_fz_dic, q_drp, q_zs, e_zs_tup_tup, e_zs_tup_lst, e_zs_tup_slst, e_zs_lst_tup, e_zs_lst_lst, e_zs_lst_slst, e_zs_slst_tup, e_zs_slst_lst, e_zs_slst_slst, r_mem_s, r_mem_t, r_mem_l, r_int_i, r_int_b, r_listM_l, r_listM_sl, r_listM_t, r_start, wipeD, br_not, br_true, br_false, br_dec, List.map_cons, List.map_nil, List.length_cons, List.length_nil, List.replicate_succ, List.replicate_zero, List.cons_append, List.nil_append, List.getElem?_cons_zero, List.getElem?_cons_succ, List.getElem?_nil, List.set_cons_zero, List.set_cons_succ, Nat.reduceAdd, Nat.reduceSub, Nat.reduceLeDiff, Nat.zero_add, updM_same, true_and, List.isEmpty_nil, List.isEmpty_cons, Bool.not_true, Bool.not_false, Bool.not_not, q_revA, e_ra_l, e_ra_s, e_ra_t, e_ra_z, q_star, e_st_l, e_st_s, e_st_t, q_par3, e_p3, q_cont, r_mul2_i, r_mul2_l, r_mul2_s, r_le2_i, r_le2_s, r_lt2_i, r_lt2_s, r_sum, r_max2, r_min2, r_rst, r_spl, r_six, q_callX, q_callKX, q_raise, e_d1, q_try, q_tryW, q_xf, q_isX, e_cau, r_add2_i, r_add2_s, r_add2_t, r_add2_l, r_add2_rl, r_add2_lr, q_sliM, r_slM, q_kdef, q_mix21, q_mix03, at2]; exact g) (fun n M' G g => by simp only [q_v, q_c, q_tup, q_lst, q_op, q_nil, q_cons, q_tst, q_tru, q_andT, q_orT, q_notT, q_andV, q_orV, q_notV, q_ifE, q_next, q_seq, q_asg, q_drop, q_ret, q_retN, q_ifS, q_par, q_isi, q_blt, q_call, q_callK, q_kid, q_kswap, q_chain, q_neg, q_isN, q_notN, q_noO, q_someO, q_sli, q_rev, q_revM, q_bm, q_bm0, q_m1, q_seqI, q_rng, q_rng2, q_enum, q_zip, q_gnm, q_gtp, q_gs0, q_gs1, q_yes, q_put, e_bl, e_int, e_str, e_lst, e_n_non, e_n_bl, e_n_int, e_n_str, e_n_tup, e_n_lst, e_n_slst, e_n_dic, e_n_ref, e_seq_l, e_seq_s, e_seq_t, e_seq_z, e_rev_l, e_rev_s, e_i1, e_i2, e_l1, e_l1s, e_l2, e_p2, e_sl, e_o, e_ob, e_on, e_ml, e_md, e_c, e_tru_b, e_tru_n, e_tru_i, e_tru_t, e_tru_l, t_str_non, t_tup_non, t_int_non, t_bool_non, t_lst_non, t_dict_non, t_str_bl, t_tup_bl, t_int_bl, t_bool_bl, t_lst_bl, t_dict_bl, t_str_int, t_tup_int, t_int_int, t_bool_int, t_lst_int, t_dict_int, t_str_str, t_tup_str, t_int_str, t_bool_str, t_lst_str, t_dict_str, t_str_tup, t_tup_tup, t_int_tup, t_bool_tup, t_lst_tup, t_dict_tup, t_str_lst, t_tup_lst, t_int_lst, t_bool_lst, t_lst_lst, t_dict_lst, t_str_dic, t_tup_dic, t_int_dic, t_bool_dic, t_lst_dic, t_dict_dic, r_add_i, r_add_s, r_add_t, r_add_l, r_sub, r_mul, r_mul_l, r_fdiv, r_mod, r_pow, r_lt, r_ix_l, r_ix_t, r_ix_s, r_ix_rl, r_ix_rd, r_sl_l, r_sl_sl, r_sl_t, r_sl_s, r_len_l, r_len_sl, r_len_t, r_len_s, r_len_r, r_all, r_any, r_tuple_l, r_tuple_sl, r_tuple_t, r_tuple_r, r_list_l, r_list_sl, r_list_t, r_list_r, r_ord, r_repr, r_pop, r_app, r_ext, r_join, r_join_t, r_isl_r, r_isl_l, r_in, r_put_d, r_put_l, r_eq_i, r_eq_s, r_ne_i, r_ne_s, r_eq_t0, r_ne_t0, r_eq_r0, r_ne_r0, r_eq_l0, r_ne_l0, q_lstM, q_frz, e_fz_r, e_fz_non, e_fz_bl, e_fz_int, e_fz_str, e_fz_tup, e_fz_lst, e_fz_dic, q_drp, q_zs, e_zs_tup_tup, e_zs_tup_lst, e_zs_tup_slst, e_zs_lst_tup, e_zs_lst_lst, e_zs_lst_slst, e_zs_slst_tup, e_zs_slst_lst, e_zs_slst_slst, r_mem_s, r_mem_t, r_mem_l, r_int_i, r_int_b, r_listM_l, r_listM_sl, r_listM_t, r_start, wipeD, br_not, br_true, br_false, br_dec, List.map_cons, List.map_nil, List.length_cons, List.length_nil, List.replicate_succ, List.replicate_zero, List.cons_append, List.nil_append, List.getElem?_cons_zero, List.getElem?_cons_succ, List.getElem?_nil, List.set_cons_zero, List.set_cons_succ, Nat.reduceAdd, Nat.reduceSub, Nat.reduceLeDiff, Nat.zero_add, updM_same, true_and, List.isEmpty_nil, List.isEmpty_cons, Bool.not_true, Bool.not_false, Bool.not_not, q_revA, e_ra_l, e_ra_s, e_ra_t, e_ra_z, q_star, e_st_l, e_st_s, e_st_t, q_par3, e_p3, q_cont, r_mul2_i, r_mul2_l, r_mul2_s, r_le2_i, r_le2_s, r_lt2_i, r_lt2_s, r_sum, r_max2, r_min2, r_rst, r_spl, r_six, q_callX, q_callKX, q_raise, e_d1, q_try, q_tryW, q_xf, q_isX, e_cau, r_add2_i, r_add2_s, r_add2_t, r_add2_l, r_add2_rl, r_add2_lr, q_sliM, r_slM, q_kdef, q_mix21, q_mix03]; exact g) ?_
      · rw [tl]
        simp only [List.mem_cons, List.not_mem_nil, or_false] at hn
        rcases hn with e | e <;> (rw [e]; assumption)
      · have sa := sm a va
        have sb := sm b vb
        simp only [lsD, List.map_cons, List.map_nil, q_v, q_c, q_tup, q_lst, q_op, q_nil, q_cons, q_tst, q_tru, q_andT, q_orT, q_notT, q_andV, q_orV, q_notV, q_ifE, q_next, q_seq, q_asg, q_drop, q_ret, q_retN, q_ifS, q_par, q_isi, q_blt, q_call, q_callK, q_kid, q_kswap, q_chain, q_neg, q_isN, q_notN, q_noO, q_someO, q_sli, q_rev, q_revM, q_bm, q_bm0, q_m1, q_seqI, q_rng, q_rng2, q_enum, q_zip, q_gnm, q_gtp, q_gs0, q_gs1, q_yes, q_put, e_bl, e_int, e_str, e_lst, e_n_non, e_n_bl, e_n_int, e_n_str, e_n_tup, e_n_lst, e_n_slst, e_n_dic, e_n_ref, e_seq_l, e_seq_s, e_seq_t, e_seq_z, e_rev_l, e_rev_s, e_i1, e_i2, e_l1, e_l1s, e_l2, e_p2, e_sl, e_o, e_ob, e_on, e_ml, e_md, e_c, e_tru_b, e_tru_n, e_tru_i, e_tru_t, e_tru_l, t_str_non, t_tup_non, t_int_non, t_bool_non, t_lst_non, t_dict_non, t_str_bl, t_tup_bl, t_int_bl, t_bool_bl, t_lst_bl, t_dict_bl, t_str_int, t_tup_int, t_int_int, t_bool_int, t_lst_int, t_dict_int, t_str_str, t_tup_str, t_int_str, t_bool_str, t_lst_str, t_dict_str, t_str_tup, t_tup_tup, t_int_tup, t_bool_tup, t_lst_tup, t_dict_tup, t_str_lst, t_tup_lst, t_int_lst, t_bool_lst, t_lst_lst, t_dict_lst, t_str_dic, t_tup_dic, t_int_dic, t_bool_dic, t_lst_dic, t_dict_dic, r_add_i, r_add_s, r_add_t, r_add_l, r_sub, r_mul, r_mul_l, r_fdiv, r_mod, r_pow, r_lt, r_ix_l, r_ix_t, r_ix_s, r_ix_rl, r_ix_rd, r_sl_l, r_sl_sl, r_sl_t, r_sl_s, r_len_l, r_len_sl, r_len_t, r_len_s, r_len_r, r_all, r_any, r_tuple_l, r_tuple_sl, r_tuple_t, r_tuple_r, r_list_l, r_list_sl, r_list_t, r_list_r, r_ord, r_repr, r_pop, r_app, r_ext, r_join, r_join_t, r_isl_r, r_isl_l, r_in, r_put_d, r_put_l, r_eq_i, r_eq_s, r_ne_i, r_ne_s, r_eq_t0, r_ne_t0, r_eq_r0, r_ne_r0, r_eq_l0, r_ne_l0, q_lstM, q_frz, e_fz_r, e_fz_non, e_fz_bl, e_fz_int, e_fz_str, e_fz_tup, e_fz_lst, e_fz_dic, q_drp, q_zs, e_zs_tup_tup, e_zs_tup_lst, e_zs_tup_slst, e_zs_lst_tup, e_zs_lst_lst, e_zs_lst_slst, e_zs_slst_tup, e_zs_slst_lst, e_zs_slst_slst, r_mem_s, r_mem_t, r_mem_l, r_int_i, r_int_b, r_listM_l, r_listM_sl, r_listM_t, r_start, wipeD, br_not, br_true, br_false, br_dec, List.map_cons, List.map_nil, List.length_cons, List.length_nil, List.replicate_succ, List.replicate_zero, List.cons_append, List.nil_append, List.getElem?_cons_zero, List.getElem?_cons_succ, List.getElem?_nil, List.set_cons_zero, List.set_cons_succ, Nat.reduceAdd, Nat.reduceSub, Nat.reduceLeDiff, Nat.zero_add, updM_same, true_and, List.isEmpty_nil, List.isEmpty_cons, Bool.not_true, Bool.not_false, Bool.not_not, q_revA, e_ra_l, e_ra_s, e_ra_t, e_ra_z, q_star, e_st_l, e_st_s, e_st_t, q_par3, e_p3, q_cont, r_mul2_i, r_mul2_l, r_mul2_s, r_le2_i, r_le2_s, r_lt2_i, r_lt2_s, r_sum, r_max2, r_min2, r_rst, r_spl, r_six, q_callX, q_callKX, q_raise, e_d1, q_try, q_tryW, q_xf, q_isX, e_cau, r_add2_i, r_add2_s, r_add2_t, r_add2_l, r_add2_rl, r_add2_lr, q_sliM, r_slM, q_kdef, q_mix21, q_mix03, at0, at1, w10, ifT, lD, cO, cX, updM_two]
        refine ⟨?_, ?_, ?_, ?_, by rw [List.length_map]; omega, post _ (sO :: (fs.getD a [] ++ [n] ++ fs.getD b [] ++ [sX])) _ _ _ ?_ ?_⟩
        · simp only [List.length_map]
          omega
        · simp only [List.length_map]
          omega
        · simp only [List.length_map, List.length_append, List.length_cons, List.length_nil]
          omega
        · simp only [List.length_map, List.length_append, List.length_cons, List.length_nil]
          omega
        · simp [lD]
        · simp [exI, parts, exP]
    | call n ns =>
      have h4' : ns.length ≤ 4 := h4
      have vn : ∀ m ∈ ns, m < fs.length := fun m hm => by
        rw [tl]
        exact hv m (by unfold parts; simp [listed_mem hm])
      have sl := sums_le (fs := fs) ns fun m hm => sm m (by rw [← tl]; exact vn m hm)
      have bl := btw_le (ns.map fun m => fs.getD m [])
      rw [List.length_map] at bl
      simp only [sD, q_v, q_c, q_tup, q_lst, q_op, q_nil, q_cons, q_tst, q_tru, q_andT, q_orT, q_notT, q_andV, q_orV, q_notV, q_ifE, q_next, q_seq, q_asg, q_drop, q_ret, q_retN, q_ifS, q_par, q_isi, q_blt, q_call, q_callK, q_kid, q_kswap, q_chain, q_neg, q_isN, q_notN, q_noO, q_someO, q_sli, q_rev, q_revM, q_bm, q_bm0, q_m1, q_seqI, q_rng, q_rng2, q_enum, q_zip, q_gnm, q_gtp, q_gs0, q_gs1, q_yes, q_put, e_bl, e_int, e_str, e_lst, e_n_non, e_n_bl, e_n_int, e_n_str, e_n_tup, e_n_lst, e_n_slst, e_n_dic, e_n_ref, e_seq_l, e_seq_s, e_seq_t, e_seq_z, e_rev_l, e_rev_s, e_i1, e_i2, e_l1, e_l1s, e_l2, e_p2, e_sl, e_o, e_ob, e_on, e_ml, e_md, e_c, e_tru_b, e_tru_n, e_tru_i, e_tru_t, e_tru_l, t_str_non, t_tup_non, t_int_non, t_bool_non, t_lst_non, t_dict_non, t_str_bl, t_tup_bl, t_int_bl, t_bool_bl, t_lst_bl, t_dict_bl, t_str_int, t_tup_int, t_int_int, t_bool_int, t_lst_int, t_dict_int, t_str_str, t_tup_str, t_int_str, t_bool_str, t_lst_str, t_dict_str, t_str_tup, t_tup_tup, t_int_tup, t_bool_tup, t_lst_tup, t_dict_tup, t_str_lst, t_tup_lst, t_int_lst, t_bool_lst, t_lst_lst, t_dict_lst, t_str_dic, t_tup_dic, t_int_dic, t_bool_dic, t_lst_dic, t_dict_dic, r_add_i, r_add_s, r_add_t, r_add_l, r_sub, r_mul, r_mul_l, r_fdiv, r_mod, r_pow, r_lt, r_ix_l, r_ix_t, r_ix_s, r_ix_rl, r_ix_rd, r_sl_l, r_sl_sl, r_sl_t, r_sl_s, r_len_l, r_len_sl, r_len_t, r_len_s, r_len_r, r_all, r_any, r_tuple_l, r_tuple_sl, r_tuple_t, r_tuple_r, r_list_l, r_list_sl, r_list_t, r_list_r, r_ord, r_repr, r_pop, r_app, r_ext, r_join, r_join_t, r_isl_r, r_isl_l, r_in, r_put_d, r_put_l, r_eq_i, r_eq_s, r_ne_i, r_ne_s, r_eq_t0, r_ne_t0, r_eq_r0, r_ne_r0, r_eq_l0, r_ne_l0, q_lstM, q_frz, e_fz_r, e_fz_non, e_fz_bl, e_fz_int, e_fz_str, e_fz_tup, e_fz_lst, e_fz_dic, q_drp, q_zs, e_zs_tup_tup, e_zs_tup_lst, e_zs_tup_slst, e_zs_lst_tup, e_zs_lst_lst, e_zs_lst_slst, e_zs_slst_tup, e_zs_slst_lst, e_zs_slst_slst, r_mem_s, r_mem_t, r_mem_l, r_int_i, r_int_b, r_listM_l, r_listM_sl, r_listM_t, r_start, wipeD, br_not, br_true, br_false, br_dec, List.map_cons, List.map_nil, List.length_cons, List.length_nil, List.replicate_succ, List.replicate_zero, List.cons_append, List.nil_append, List.getElem?_cons_zero, List.getElem?_cons_succ, List.getElem?_nil, List.set_cons_zero, List.set_cons_succ, Nat.reduceAdd, Nat.reduceSub, Nat.reduceLeDiff, Nat.zero_add, updM_same, true_and, List.isEmpty_nil, List.isEmpty_cons, Bool.not_true, Bool.not_false, Bool.not_not, q_revA, e_ra_l, e_ra_s, e_ra_t, e_ra_z, q_star, e_st_l, e_st_s, e_st_t, q_par3, e_p3, q_cont, r_mul2_i, r_mul2_l, r_mul2_s, r_le2_i, r_le2_s, r_lt2_i, r_lt2_s, r_sum, r_max2, r_min2, r_rst, r_spl, r_six, q_callX, q_callKX, q_raise, e_d1, q_try, q_tryW, q_xf, q_isX, e_cau, r_add2_i, r_add2_s, r_add2_t, r_add2_l, r_add2_rl, r_add2_lr, q_sliM, r_slM, q_kdef, q_mix21, q_mix03, at0, at1, at2, w2, ifF]
      refine lc_lists (ns := ns) (fs := fs) (L := L) updM_same vn (by omega) (fun G g => by simp only [q_v, q_c, q_tup, q_lst, q_op, q_nil, q_cons, q_tst, q_tru, q_andT, q_orT, q_notT, q_andV, q_orV, q_notV, q_ifE, q_next, q_seq, q_asg, q_drop, q_ret, q_retN, q_ifS, q_par, q_isi, q_blt, q_call, q_callK, q_kid, q_kswap, q_chain, q_neg, q_isN, q_notN, q_noO, q_someO, q_sli, q_rev, q_revM, q_bm, q_bm0, q_m1, q_seqI, q_rng, q_rng2, q_enum, q_zip, q_gnm, q_gtp, q_gs0, q_gs1, q_yes, q_put, e_bl, e_int, e_str, e_lst, e_n_non, e_n_bl, e_n_int, e_n_str, e_n_tup, e_n_lst, e_n_slst, e_n_dic, e_n_ref, e_seq_l, e_seq_s, e_seq_t, e_seq_z, e_rev_l, e_rev_s, e_i1, e_i2, e_l1, e_l1s, e_l2, e_p2, e_sl, e_o, e_ob, e_on, e_ml, e_md, e_c, e_tru_b, e_tru_n, e_tru_i, e_tru_t, e_tru_l, t_str_non, t_tup_non, t_int_non, t_bool_non, t_lst_non, t_dict_non, t_str_bl, t_tup_bl, t_int_bl, t_bool_bl, t_lst_bl, t_dict_bl, t_str_int, t_tup_int, t_int_int, t_bool_int, t_lst_int, t_dict_int, t_str_str, t_tup_str, t_int_str, t_bool_str, t_lst_str, t_dict_str, t_str_tup, t_tup_tup, t_int_tup, t_bool_tup, t_lst_tup, t_dict_tup, t_str_lst, t_tup_lst, t_int_lst, t_bool_lst, t_lst_lst, t_dict_lst, t_str_dic, t_tup_dic, t_int_dic, t_bool_dic, t_lst_dic, t_dict_dic, r_add_i, r_add_s, r_add_t, r_add_l, r_sub, r_mul, r_mul_l, r_fdiv, r_mod, r_pow, r_lt, r_ix_l, r_ix_t, r_ix_s, r_ix_rl, r_ix_rd, r_sl_l, r_sl_sl, r_sl_t, r_sl_s, r_len_l, r_len_sl, r_len_t, r_len_s, r_len_r, r_all, r_any, r_tuple_l, r_tuple_sl, r_tuple_t, r_tuple_r, r_list_l, r_list_sl, r_list_t, r_list_r, r_ord, r_repr, r_pop, r_app, r_ext, r_join, r_join_t, r_isl_r, r_isl_l, r_in, r_put_d, r_put_l, r_eq_i, r_eq_s, r_ne_i, r_ne_s, r_eq_t0, r_ne_t0, r_eq_r0, r_ne_r0, r_eq_l0, r_ne_l0, q_lstM, q_frz, e_fz_r, e_fz_non, e_fz_bl, e_fz_int, e_fz_str, e_fz_tup, e_fz_lst, e_fz_dic, q_drp, q_zs, e_zs_tup_tup, e_zs_tup_lst, e_zs_tup_slst, e_zs_lst_tup, e_zs_lst_lst, e_zs_lst_slst, e_zs_slst_tup, e_zs_slst_lst, e_zs_slst_slst, r_mem_s, r_mem_t, r_mem_l, r_int_i, r_int_b, r_listM_l, r_listM_sl, r_listM_t, r_start, wipeD, br_not, br_true, br_false, br_dec, List.map_cons, List.map_nil, List.length_cons, List.length_nil, List.replicate_succ, List.replicate_zero, List.cons_append, List.nil_append, List.getElem?_cons_zero, List.getElem?_cons_succ, List.getElem?_nil, List.set_cons_zero, List.set_cons_succ, Nat.reduceAdd, Nat.reduceSub, Nat.reduceLeDiff, Nat.zero_add, updM_same, true_and, List.isEmpty_nil, List.isEmpty_cons, Bool.not_true, Bool.not_false, Bool.not_not, q_revA, e_ra_l, e_ra_s, e_ra_t, e_ra_z, q_star, e_st_l, e_st_s, e_st_t, q_par3, e_p3, q_cont, r_mul2_i, r_mul2_l, r_mul2_s, r_le2_i, r_le2_s, r_lt2_i, r_lt2_s, r_sum, r_max2, r_min2, r_rst, r_spl, r_six, q_callX, q_callKX, q_raise, e_d1, q_try, q_tryW, q_xf, q_isX, e_cau, r_add2_i, r_add2_s, r_add2_t, r_add2_l, r_add2_rl, r_add2_lr, q_sliM, r_slM, q_kdef, q_mix21, q_mix03, at2]; exact g) (fun n M' G g => by simp only [q_v, q_c, q_tup, q_lst, q_op, q_nil, q_cons, q_tst, q_tru, q_andT, q_orT, q_notT, q_andV, q_orV, q_notV, q_ifE, q_next, q_seq, q_asg, q_drop, q_ret, q_retN, q_ifS, q_par, q_isi, q_blt, q_call, q_callK, q_kid, q_kswap, q_chain, q_neg, q_isN, q_notN, q_noO, q_someO, q_sli, q_rev, q_revM, q_bm, q_bm0, q_m1, q_seqI, q_rng, q_rng2, q_enum, q_zip, q_gnm, q_gtp, q_gs0, q_gs1, q_yes, q_put, e_bl, e_int, e_str, e_lst, e_n_non, e_n_bl, e_n_int, e_n_str, e_n_tup, e_n_lst, e_n_slst, e_n_dic, e_n_ref, e_seq_l, e_seq_s, e_seq_t, e_seq_z, e_rev_l, e_rev_s, e_i1, e_i2, e_l1, e_l1s, e_l2, e_p2, e_sl, e_o, e_ob, e_on, e_ml, e_md, e_c, e_tru_b, e_tru_n, e_tru_i, e_tru_t, e_tru_l, t_str_non, t_tup_non, t_int_non, t_bool_non, t_lst_non, t_dict_non, t_str_bl, t_tup_bl, t_int_bl, t_bool_bl, t_lst_bl, t_dict_bl, t_str_int, t_tup_int, t_int_int, t_bool_int, t_lst_int, t_dict_int, t_str_str, t_tup_str, t_int_str, t_bool_str, t_lst_str, t_dict_str, t_str_tup, t_tup_tup, t_int_tup, t_bool_tup, t_lst_tup, t_dict_tup, t_str_lst, t_tup_lst, t_int_lst, t_bool_lst, t_lst_lst, t_dict_lst, t_str_dic, t_tup_dic, t_int_dic, t_bool_dic, t_lst_dic, t_dict_dic, r_add_i, r_add_s, r_add_t, r_add_l, r_sub, r_mul, r_mul_l, r_fdiv, r_mod, r_pow, r_lt, r_ix_l, r_ix_t, r_ix_s, r_ix_rl, r_ix_rd, r_sl_l, r_sl_sl, r_sl_t, r_sl_s, r_len_l, r_len_sl, r_len_t, r_len_s, r_len_r, r_all, r_any, r_tuple_l, r_tuple_sl, r_tuple_t, r_tuple_r, r_list_l, r_list_sl, r_list_t, r_list_r, r_ord, r_repr, r_pop, r_app, r_ext, r_join, r_join_t, r_isl_r, r_isl_l, r_in, r_put_d, r_put_l, r_eq_i, r_eq_s, r_ne_i, r_ne_s, r_eq_t0, r_ne_t0, r_eq_r0, r_ne_r0, r_eq_l0, r_ne_l0, q_lstM, q_frz, e_fz_r, e_fz_non, e_fz_bl, e_fz_int, e_fz_str, e_fz_tup, e_fz_lst, e_fz_dic, q_drp, q_zs, e_zs_tup_tup, e_zs_tup_lst, e_zs_tup_slst, e_zs_lst_tup, e_zs_lst_lst, e_zs_lst_slst, e_zs_slst_tup, e_zs_slst_lst, e_zs_slst_slst, r_mem_s, r_mem_t, r_mem_l, r_int_i, r_int_b, r_listM_l, r_listM_sl, r_listM_t, r_start, wipeD, br_not, br_true, br_false, br_dec, List.map_cons, List.map_nil, List.length_cons, List.length_nil, List.replicate_succ, List.replicate_zero, List.cons_append, List.nil_append, List.getElem?_cons_zero, List.getElem?_cons_succ, List.getElem?_nil, List.set_cons_zero, List.set_cons_succ, Nat.reduceAdd, Nat.reduceSub, Nat.reduceLeDiff, Nat.zero_add, updM_same, true_and, List.isEmpty_nil, List.isEmpty_cons, Bool.not_true, Bool.not_false, Bool.not_not, q_revA, e_ra_l, e_ra_s, e_ra_t, e_ra_z, q_star, e_st_l, e_st_s, e_st_t, q_par3, e_p3, q_cont, r_mul2_i, r_mul2_l, r_mul2_s, r_le2_i, r_le2_s, r_lt2_i, r_lt2_s, r_sum, r_max2, r_min2, r_rst, r_spl, r_six, q_callX, q_callKX, q_raise, e_d1, q_try, q_tryW, q_xf, q_isX, e_cau, r_add2_i, r_add2_s, r_add2_t, r_add2_l, r_add2_rl, r_add2_lr, q_sliM, r_slM, q_kdef, q_mix21, q_mix03]; exact g) ?_
      simp only [q_v, q_c, q_tup, q_lst, q_op, q_nil, q_cons, q_tst, q_tru, q_andT, q_orT, q_notT, q_andV, q_orV, q_notV, q_ifE, q_next, q_seq, q_asg, q_drop, q_ret, q_retN, q_ifS, q_par, q_isi, q_blt, q_call, q_callK, q_kid, q_kswap, q_chain, q_neg, q_isN, q_notN, q_noO, q_someO, q_sli, q_rev, q_revM, q_bm, q_bm0, q_m1, q_seqI, q_rng, q_rng2, q_enum, q_zip, q_gnm, q_gtp, q_gs0, q_gs1, q_yes, q_put, e_bl, e_int, e_str, e_lst, e_n_non, e_n_bl, e_n_int, e_n_str, e_n_tup, e_n_lst, e_n_slst, e_n_dic, e_n_ref, e_seq_l, e_seq_s, e_seq_t, e_seq_z, e_rev_l, e_rev_s, e_i1, e_i2, e_l1, e_l1s, e_l2, e_p2, e_sl, e_o, e_ob, e_on, e_ml, e_md, e_c, e_tru_b, e_tru_n, e_tru_i, e_tru_t, e_tru_l, t_str_non, t_tup_non, t_int_non, t_bool_non, t_lst_non, t_dict_non, t_str_bl, t_tup_bl, t_int_bl, t_bool_bl, t_lst_bl, t_dict_bl, t_str_int, t_tup_int, t_int_int, t_bool_int, t_lst_int, t_dict_int, t_str_str, t_tup_str, t_int_str, t_bool_str, t_lst_str, t_dict_str, t_str_tup, t_tup_tup, t_int_tup, t_bool_tup, t_lst_tup, t_dict_tup, t_str_lst, t_tup_lst, t_int_lst, t_bool_lst, t_lst_lst, t_dict_lst, t_str_dic, t_tup_dic, t_int_dic, t_bool_dic, t_lst_dic, t_dict_dic, r_add_i, r_add_s, r_add_t, r_add_l, r_sub, r_mul, r_mul_l, r_fdiv, r_mod, r_pow, r_lt, r_ix_l, r_ix_t, r_ix_s, r_ix_rl, r_ix_rd, r_sl_l, r_sl_sl, r_sl_t, r_sl_s, r_len_l, r_len_sl, r_len_t, r_len_s, r_len_r, r_all, r_any, r_tuple_l, r_tuple_sl, r_tuple_t, r_tuple_r, r_list_l, r_list_sl, r_list_t, r_list_r, r_ord, r_repr, r_pop, r_app, r_ext, r_join, r_join_t, r_isl_r, r_isl_l, r_in, r_put_d, r_put_l, r_eq_i, r_eq_s, r_ne_i, r_ne_s, r_eq_t0, r_ne_t0, r_eq_r0, r_ne_r0, r_eq_l0, r_ne_l0, q_lstM, q_frz, e_fz_r, e_fz_non, e_fz_bl, e_fz_int, e_fz_str, e_fz_tup, e_fz_lst, e_fz_dic, q_drp, q_zs, e_zs_tup_tup, e_zs_tup_lst, e_zs_tup_slst, e_zs_lst_tup, e_zs_lst_lst, e_zs_lst_slst, e_zs_slst_tup, e_zs_slst_lst, e_zs_slst_slst, r_mem_s, r_mem_t, r_mem_l, r_int_i, r_int_b, r_listM_l, r_listM_sl, r_listM_t, r_start, wipeD, br_not, br_true, br_false, br_dec, List.map_cons, List.map_nil, List.length_cons, List.length_nil, List.replicate_succ, List.replicate_zero, List.cons_append, List.nil_append, List.getElem?_cons_zero, List.getElem?_cons_succ, List.getElem?_nil, List.set_cons_zero, List.set_cons_succ, Nat.reduceAdd, Nat.reduceSub, Nat.reduceLeDiff, Nat.zero_add, updM_same, true_and, List.isEmpty_nil, List.isEmpty_cons, Bool.not_true, Bool.not_false, Bool.not_not, q_revA, e_ra_l, e_ra_s, e_ra_t, e_ra_z, q_star, e_st_l, e_st_s, e_st_t, q_par3, e_p3, q_cont, r_mul2_i, r_mul2_l, r_mul2_s, r_le2_i, r_le2_s, r_lt2_i, r_lt2_s, r_sum, r_max2, r_min2, r_rst, r_spl, r_six, q_callX, q_callKX, q_raise, e_d1, q_try, q_tryW, q_xf, q_isX, e_cau, r_add2_i, r_add2_s, r_add2_t, r_add2_l, r_add2_rl, r_add2_lr, q_sliM, r_slM, q_kdef, q_mix21, q_mix03, at0, at1, w11, w5, ifT, ifF, cO, cX]
      refine ⟨_, rfl, by rw [List.length_map]; omega, ?_⟩
      simp only [lD, q_v, q_c, q_tup, q_lst, q_op, q_nil, q_cons, q_tst, q_tru, q_andT, q_orT, q_notT, q_andV, q_orV, q_notV, q_ifE, q_next, q_seq, q_asg, q_drop, q_ret, q_retN, q_ifS, q_par, q_isi, q_blt, q_call, q_callK, q_kid, q_kswap, q_chain, q_neg, q_isN, q_notN, q_noO, q_someO, q_sli, q_rev, q_revM, q_bm, q_bm0, q_m1, q_seqI, q_rng, q_rng2, q_enum, q_zip, q_gnm, q_gtp, q_gs0, q_gs1, q_yes, q_put, e_bl, e_int, e_str, e_lst, e_n_non, e_n_bl, e_n_int, e_n_str, e_n_tup, e_n_lst, e_n_slst, e_n_dic, e_n_ref, e_seq_l, e_seq_s, e_seq_t, e_seq_z, e_rev_l, e_rev_s, e_i1, e_i2, e_l1, e_l1s, e_l2, e_p2, e_sl, e_o, e_ob, e_on, e_ml, e_md, e_c, e_tru_b, e_tru_n, e_tru_i, e_tru_t, e_tru_l, t_str_non, t_tup_non, t_int_non, t_bool_non, t_lst_non, t_dict_non, t_str_bl, t_tup_bl, t_int_bl, t_bool_bl, t_lst_bl, t_dict_bl, t_str_int, t_tup_int, t_int_int, t_bool_int, t_lst_int, t_dict_int, t_str_str, t_tup_str, t_int_str, t_bool_str, t_lst_str, t_dict_str, t_str_tup, t_tup_tup, t_int_tup, t_bool_tup, t_lst_tup, t_dict_tup, t_str_lst, t_tup_lst, t_int_lst, t_bool_lst, t_lst_lst, t_dict_lst, t_str_dic, t_tup_dic, t_int_dic, t_bool_dic, t_lst_dic, t_dict_dic, r_add_i, r_add_s, r_add_t, r_add_l, r_sub, r_mul, r_mul_l, r_fdiv, r_mod, r_pow, r_lt, r_ix_l, r_ix_t, r_ix_s, r_ix_rl, r_ix_rd, r_sl_l, r_sl_sl, r_sl_t, r_sl_s, r_len_l, r_len_sl, r_len_t, r_len_s, r_len_r, r_all, r_any, r_tuple_l, r_tuple_sl, r_tuple_t, r_tuple_r, r_list_l, r_list_sl, r_list_t, r_list_r, r_ord, r_repr, r_pop, r_app, r_ext, r_join, r_join_t, r_isl_r, r_isl_l, r_in, r_put_d, r_put_l, r_eq_i, r_eq_s, r_ne_i, r_ne_s, r_eq_t0, r_ne_t0, r_eq_r0, r_ne_r0, r_eq_l0, r_ne_l0, q_lstM, q_frz, e_fz_r, e_fz_non, e_fz_bl, e_fz_int, e_fz_str, e_fz_tup, e_fz_lst, e_fz_dic, q_drp, q_zs, e_zs_tup_tup, e_zs_tup_lst, e_zs_tup_slst, e_zs_lst_tup, e_zs_lst_lst, e_zs_lst_slst, e_zs_slst_tup, e_zs_slst_lst, e_zs_slst_slst, r_mem_s, r_mem_t, r_mem_l, r_int_i, r_int_b, r_listM_l, r_listM_sl, r_listM_t, r_start, wipeD, br_not, br_true, br_false, br_dec, List.map_cons, List.map_nil, List.length_cons, List.length_nil, List.replicate_succ, List.replicate_zero, List.cons_append, List.nil_append, List.getElem?_cons_zero, List.getElem?_cons_succ, List.getElem?_nil, List.set_cons_zero, List.set_cons_succ, Nat.reduceAdd, Nat.reduceSub, Nat.reduceLeDiff, Nat.zero_add, updM_same, true_and, List.isEmpty_nil, List.isEmpty_cons, Bool.not_true, Bool.not_false, Bool.not_not, q_revA, e_ra_l, e_ra_s, e_ra_t, e_ra_z, q_star, e_st_l, e_st_s, e_st_t, q_par3, e_p3, q_cont, r_mul2_i, r_mul2_l, r_mul2_s, r_le2_i, r_le2_s, r_lt2_i, r_lt2_s, r_sum, r_max2, r_min2, r_rst, r_spl, r_six, q_callX, q_callKX, q_raise, e_d1, q_try, q_tryW, q_xf, q_isX, e_cau, r_add2_i, r_add2_s, r_add2_t, r_add2_l, r_add2_rl, r_add2_lr, q_sliM, r_slM, q_kdef, q_mix21, q_mix03, updM_two]
      refine ⟨?_, ?_, by rw [List.length_map]; omega, post _ (n :: sO :: (btw (ns.map fun m => fs.getD m []) ++ [sX])) _ _ _ ?_ ?_⟩
      · simp only [List.length_map, List.length_append, List.length_cons, List.length_nil]
        omega
      · simp only [List.length_map, List.length_append, List.length_cons, List.length_nil]
        omega
      · simp [lD]
      · show _ = exI (.inl n :: .inl sO :: (listed ns ++ [.inl sX])) fs
        rw [← ex_listed]
        simp [exI, exP]
    | meth n a ns =>
      have h4' : ns.length ≤ 4 := h4
      have va : a < fs.length := by
        rw [tl]
        exact hv a (by unfold parts; simp)
      have vn : ∀ m ∈ ns, m < fs.length := fun m hm => by
        rw [tl]
        exact hv m (by unfold parts; simp [listed_mem hm])
      have sa := sm a (by rw [← tl]; exact va)
      have sl := sums_le (fs := fs) ns fun m hm => sm m (by rw [← tl]; exact vn m hm)
      have bl := btw_le (ns.map fun m => fs.getD m [])
      rw [List.length_map] at bl
      simp only [sD, q_v, q_c, q_tup, q_lst, q_op, q_nil, q_cons, q_tst, q_tru, q_andT, q_orT, q_notT, q_andV, q_orV, q_notV, q_ifE, q_next, q_seq, q_asg, q_drop, q_ret, q_retN, q_ifS, q_par, q_isi, q_blt, q_call, q_callK, q_kid, q_kswap, q_chain, q_neg, q_isN, q_notN, q_noO, q_someO, q_sli, q_rev, q_revM, q_bm, q_bm0, q_m1, q_seqI, q_rng, q_rng2, q_enum, q_zip, q_gnm, q_gtp, q_gs0, q_gs1, q_yes, q_put, e_bl, e_int, e_str, e_lst, e_n_non, e_n_bl, e_n_int, e_n_str, e_n_tup, e_n_lst, e_n_slst, e_n_dic, e_n_ref, e_seq_l, e_seq_s, e_seq_t, e_seq_z, e_rev_l, e_rev_s, e_i1, e_i2, e_l1, e_l1s, e_l2, e_p2, e_sl, e_o, e_ob, e_on, e_ml, e_md, e_c, e_tru_b, e_tru_n, e_tru_i, e_tru_t, e_tru_l, t_str_non, t_tup_non, t_int_non, t_bool_non, t_lst_non, t_dict_non, t_str_bl, t_tup_bl, t_int_bl, t_bool_bl, t_lst_bl, t_dict_bl, t_str_int, t_tup_int, t_int_int, t_bool_int, t_lst_int, t_dict_int, t_str_str, t_tup_str, t_int_str, t_bool_str, t_lst_str, t_dict_str, t_str_tup, t_tup_tup, t_int_tup, t_bool_tup, t_lst_tup, t_dict_tup, t_str_lst, t_tup_lst, t_int_lst, t_bool_lst, t_lst_lst, t_dict_lst, t_str_dic, t_tup_dic, t_int_dic, t_bool_dic, t_lst_dic, t_dict_dic, r_add_i, r_add_s, r_add_t, r_add_l, r_sub, r_mul, r_mul_l, r_fdiv, r_mod, r_pow, r_lt, r_ix_l, r_ix_t, r_ix_s, r_ix_rl, r_ix_rd, r_sl_l, r_sl_sl, r_sl_t, r_sl_s, r_len_l, r_len_sl, r_len_t, r_len_s, r_len_r, r_all, r_any, r_tuple_l, r_tuple_sl, r_tuple_t, r_tuple_r, r_list_l, r_list_sl, r_list_t, r_list_r, r_ord, r_repr, r_pop, r_app, r_ext, r_join, r_join_t, r_isl_r, r_isl_l, r_in, r_put_d, r_put_l, r_eq_i, r_eq_s, r_ne_i, r_ne_s, r_eq_t0, r_ne_t0, r_eq_r0, r_ne_r0, r_eq_l0, r_ne_l0, q_lstM, q_frz, e_fz_r, e_fz_non, e_fz_bl, e_fz_int, e_fz_str, e_fz_tup, e_fz_lst, e_fz_dic, q_drp, q_zs, e_zs_tup_tup, e_zs_tup_lst, e_zs_tup_slst, e_zs_lst_tup, e_zs_lst_lst, e_zs_lst_slst, e_zs_slst_tup, e_zs_slst_lst, e_zs_slst_slst, r_mem_s, r_mem_t, r_mem_l, r_int_i, r_int_b, r_listM_l, r_listM_sl, r_listM_t, r_start, wipeD, br_not, br_true, br_false, br_dec, List.map_cons, List.map_nil, List.length_cons, List.length_nil, List.replicate_succ, List.replicate_zero, List.cons_append, List.nil_append, List.getElem?_cons_zero, List.getElem?_cons_succ, List.getElem?_nil, List.set_cons_zero, List.set_cons_succ, Nat.reduceAdd, Nat.reduceSub, Nat.reduceLeDiff, Nat.zero_add, updM_same, true_and, List.isEmpty_nil, List.isEmpty_cons, Bool.not_true, Bool.not_false, Bool.not_not, q_revA, e_ra_l, e_ra_s, e_ra_t, e_ra_z, q_star, e_st_l, e_st_s, e_st_t, q_par3, e_p3, q_cont, r_mul2_i, r_mul2_l, r_mul2_s, r_le2_i, r_le2_s, r_lt2_i, r_lt2_s, r_sum, r_max2, r_min2, r_rst, r_spl, r_six, q_callX, q_callKX, q_raise, e_d1, q_try, q_tryW, q_xf, q_isX, e_cau, r_add2_i, r_add2_s, r_add2_t, r_add2_l, r_add2_rl, r_add2_lr, q_sliM, r_slM, q_kdef, q_mix21, q_mix03, at0, at1, at2, w3, ifF]
      refine lc_lists (ns := a :: ns) (fs := fs) (L := L) updM_same (fun m hm => ?_) (by rw [List.length_cons]; omega) (fun G g => by simp only [q_v, q_c, q_tup, q_lst, q_op, q_nil, q_cons, q_tst, q_tru, q_andT, q_orT, q_notT, q_andV, q_orV, q_notV, q_ifE, q_next, q_seq, q_asg, q_drop, q_ret, q_retN, q_ifS, q_par, q_isi, q_blt, q_call, q_callK, q_kid, q_kswap, q_chain, q_neg, q_isN, q_notN, q_noO, q_someO, q_sli, q_rev, q_revM, q_bm, q_bm0, q_m1, q_seqI, q_rng, q_rng2, q_enum, q_zip, q_gnm, q_gtp, q_gs0, q_gs1, q_yes, q_put, e_bl, e_int, e_str, e_lst, e_n_non, e_n_bl, e_n_int, e_n_str, e_n_tup, e_n_lst, e_n_slst, e_n_dic, e_n_ref, e_seq_l, e_seq_s, e_seq_t, e_seq_z, e_rev_l, e_rev_s, e_i1, e_i2, e_l1, e_l1s, e_l2, e_p2, e_sl, e_o, e_ob, e_on, e_ml, e_md, e_c, e_tru_b, e_tru_n, e_tru_i, e_tru_t, e_tru_l, t_str_non, t_tup_non, t_int_non, t_bool_non, t_lst_non, t_dict_non, t_str_bl, t_tup_bl, t_int_bl, t_bool_bl, t_lst_bl, t_dict_bl, t_str_int, t_tup_int, t_int_int, t_bool_int, t_lst_int, t_dict_int, t_str_str, t_tup_str, t_int_str, t_bool_str, t_lst_str, t_dict_str, t_str_tup, t_tup_tup, t_int_tup, t_bool_tup, t_lst_tup, t_dict_tup, t_str_lst, t_tup_lst, t_int_lst, t_bool_lst, t_lst_lst, t_dict_lst, t_str_dic, t_tup_dic, t_int_dic, t_bool_dic, t_lst_dic, t_dict_dic, r_add_i, r_add_s, r_add_t, r_add_l, r_sub, r_mul, r_mul_l, r_fdiv, r_mod, r_pow, r_lt, r_ix_l, r_ix_t, r_ix_s, r_ix_rl, r_ix_rd, r_sl_l, r_sl_sl, r_sl_t, r_sl_s, r_len_l, r_len_sl, r_len_t, r_len_s, r_len_r, r_all, r_any, r_tuple_l, r_tuple_sl, r_tuple_t, r_tuple_r, r_list_l, r_list_sl, r_list_t, r_list_r, r_ord, r_repr, r_pop, r_app, r_ext, r_join, r_join_t, r_isl_r, r_isl_l, r_in, r_put_d, r_put_l, r_eq_i, r_eq_s, r_ne_i, r_ne_s, r_eq_t0, r_ne_t0, r_eq_r0, r_ne_r0, r_eq_l0, r_ne_l0, q_lstM, q_frz, e_fz_r, e_fz_non, e_fz_bl, e_fz_int, e_fz_str, e_fz_tup, e_fz_lst, e_fz_dic, q_drp, q_zs, e_zs_tup_tup, e_zs_tup_lst, e_zs_tup_slst, e_zs_lst_tup, e_zs_lst_lst, e_zs_lst_slst, e_zs_slst_tup, e_zs_slst_lst, e_zs_slst_slst, r_mem_s, r_mem_t, r_mem_l, r_int_i, r_int_b, r_listM_l, r_listM_sl, r_listM_t, r_start, wipeD, br_not, br_true, br_false, br_dec, List.map_cons, List.map_nil, List.length_cons, List.length_nil, List.replicate_succ, List.replicate_zero, List.cons_append, List.nil_append, List.getElem?_cons_zero, List.getElem?_cons_succ, List.getElem?_nil, List.set_cons_zero, List.set_cons_succ, Nat.reduceAdd, Nat.reduceSub, Nat.reduceLeDiff, Nat.zero_add, updM_same, true_and, List.isEmpty_nil, List.isEmpty_cons, Bool.not_true, Bool.not_false, Bool.not_not, q_revA, e_ra_l, e_ra_s, e_ra_t, e_ra_z, q_star, e_st_l, e_st_s, e_st_t, q_par3, e_p3, q_cont, r_mul2_i, r_mul2_l, r_mul2_s, r_le2_i, r_le2_s, r_lt2_i, r_lt2_s, r_sum, r_max2, r_min2, r_rst, r_spl, r_six, q_callX, q_callKX, q_raise, e_d1, q_try, q_tryW, q_xf, q_isX, e_cau, r_add2_i, r_add2_s, r_add2_t, r_add2_l, r_add2_rl, r_add2_lr, q_sliM, r_slM, q_kdef, q_mix21, q_mix03, at2]; exact g) (fun n M' G g => by simp only [q_v, q_c, q_tup, q_lst, q_op, q_nil, q_cons, q_tst, q_tru, q_andT, q_orT, q_notT, q_andV, q_orV, q_notV, q_ifE, q_next, q_seq, q_asg, q_drop, q_ret, q_retN, q_ifS, q_par, q_isi, q_blt, q_call, q_callK, q_kid, q_kswap, q_chain, q_neg, q_isN, q_notN, q_noO, q_someO, q_sli, q_rev, q_revM, q_bm, q_bm0, q_m1, q_seqI, q_rng, q_rng2, q_enum, q_zip, q_gnm, q_gtp, q_gs0, q_gs1, q_yes, q_put, e_bl, e_int, e_str, e_lst, e_n_non, e_n_bl, e_n_int, e_n_str, e_n_tup, e_n_lst, e_n_slst, e_n_dic, e_n_ref, e_seq_l, e_seq_s, e_seq_t, e_seq_z, e_rev_l, e_rev_s, e_i1, e_i2, e_l1, e_l1s, e_l2, e_p2, e_sl, e_o, e_ob, e_on, e_ml, e_md, e_c, e_tru_b, e_tru_n, e_tru_i, e_tru_t, e_tru_l, t_str_non, t_tup_non, t_int_non, t_bool_non, t_lst_non, t_dict_non, t_str_bl, t_tup_bl, t_int_bl, t_bool_bl, t_lst_bl, t_dict_bl, t_str_int, t_tup_int, t_int_int, t_bool_int, t_lst_int, t_dict_int, t_str_str, t_tup_str, t_int_str, t_bool_str, t_lst_str, t_dict_str, t_str_tup, t_tup_tup, t_int_tup, t_bool_tup, t_lst_tup, t_dict_tup, t_str_lst, t_tup_lst, t_int_lst, t_bool_lst, t_lst_lst, t_dict_lst, t_str_dic, t_tup_dic, t_int_dic, t_bool_dic, t_lst_dic, t_dict_dic, r_add_i, r_add_s, r_add_t, r_add_l, r_sub, r_mul, r_mul_l, r_fdiv, r_mod, r_pow, r_lt, r_ix_l, r_ix_t, r_ix_s, r_ix_rl, r_ix_rd, r_sl_l, r_sl_sl, r_sl_t, r_sl_s, r_len_l, r_len_sl, r_len_t, r_len_s, r_len_r, r_all, r_any, r_tuple_l, r_tuple_sl, r_tuple_t, r_tuple_r, r_list_l, r_list_sl, r_list_t, r_list_r, r_ord, r_repr, r_pop, r_app, r_ext, r_join, r_join_t, r_isl_r, r_isl_l, r_in, r_put_d, r_put_l, r_eq_i, r_eq_s, r_ne_i, r_ne_s, r_eq_t0, r_ne_t0, r_eq_r0, r_ne_r0, r_eq_l0, r_ne_l0, q_lstM, q_frz, e_fz_r, e_fz_non, e_fz_bl, e_fz_int, e_fz_str, e_fz_tup, e_fz_lst, e_fz_dic, q_drp, q_zs, e_zs_tup_tup, e_zs_tup_lst, e_zs_tup_slst, e_zs_lst_tup, e_zs_lst_lst, e_zs_lst_slst, e_zs_slst_tup, e_zs_slst_lst, e_zs_slst_slst, r_mem_s, r_mem_t, r_mem_l, r_int_i, r_int_b, r_listM_l, r_listM_sl, r_listM_t, r_start, wipeD, br_not, br_true, br_false, br_dec, List.map_cons, List.map_nil, List.length_cons, List.length_nil, List.replicate_succ, List.replicate_zero, List.cons_append, List.nil_append, List.getElem?_cons_zero, List.getElem?_cons_succ, List.getElem?_nil, List.set_cons_zero, List.set_cons_succ, Nat.reduceAdd, Nat.reduceSub, Nat.reduceLeDiff, Nat.zero_add, updM_same, true_and, List.isEmpty_nil, List.isEmpty_cons, Bool.not_true, Bool.not_false, Bool.not_not, q_revA, e_ra_l, e_ra_s, e_ra_t, e_ra_z, q_star, e_st_l, e_st_s, e_st_t, q_par3, e_p3, q_cont, r_mul2_i, r_mul2_l, r_mul2_s, r_le2_i, r_le2_s, r_lt2_i, r_lt2_s, r_sum, r_max2, r_min2, r_rst, r_spl, r_six, q_callX, q_callKX, q_raise, e_d1, q_try, q_tryW, q_xf, q_isX, e_cau, r_add2_i, r_add2_s, r_add2_t, r_add2_l, r_add2_rl, r_add2_lr, q_sliM, r_slM, q_kdef, q_mix21, q_mix03]; exact g) ?_
      · rcases List.mem_cons.mp hm with e | hm
        · rw [e]; exact va
        · exact vn m hm
      · simp only [lsD, List.map_cons, q_v, q_c, q_tup, q_lst, q_op, q_nil, q_cons, q_tst, q_tru, q_andT, q_orT, q_notT, q_andV, q_orV, q_notV, q_ifE, q_next, q_seq, q_asg, q_drop, q_ret, q_retN, q_ifS, q_par, q_isi, q_blt, q_call, q_callK, q_kid, q_kswap, q_chain, q_neg, q_isN, q_notN, q_noO, q_someO, q_sli, q_rev, q_revM, q_bm, q_bm0, q_m1, q_seqI, q_rng, q_rng2, q_enum, q_zip, q_gnm, q_gtp, q_gs0, q_gs1, q_yes, q_put, e_bl, e_int, e_str, e_lst, e_n_non, e_n_bl, e_n_int, e_n_str, e_n_tup, e_n_lst, e_n_slst, e_n_dic, e_n_ref, e_seq_l, e_seq_s, e_seq_t, e_seq_z, e_rev_l, e_rev_s, e_i1, e_i2, e_l1, e_l1s, e_l2, e_p2, e_sl, e_o, e_ob, e_on, e_ml, e_md, e_c, e_tru_b, e_tru_n, e_tru_i, e_tru_t, e_tru_l, t_str_non, t_tup_non, t_int_non, t_bool_non, t_lst_non, t_dict_non, t_str_bl, t_tup_bl, t_int_bl, t_bool_bl, t_lst_bl, t_dict_bl, t_str_int, t_tup_int, t_int_int, t_bool_int, t_lst_int, t_dict_int, t_str_str, t_tup_str, t_int_str, t_bool_str, t_lst_str, t_dict_str, t_str_tup, t_tup_tup, t_int_tup, t_bool_tup, t_lst_tup, t_dict_tup, t_str_lst, t_tup_lst, t_int_lst, t_bool_lst, t_lst_lst, t_dict_lst, t_str_dic, t_tup_dic, t_int_dic, t_bool_dic, t_lst_dic, t_dict_dic, r_add_i, r_add_s, r_add_t, r_add_l, r_sub, r_mul, r_mul_l, r_fdiv, r_mod, r_pow, r_lt, r_ix_l, r_ix_t, r_ix_s, r_ix_rl, r_ix_rd, r_sl_l, r_sl_sl, r_sl_t, r_sl_s, r_len_l, r_len_sl, r_len_t, r_len_s, r_len_r, r_all, r_any, r_tuple_l, r_tuple_sl, r_tuple_t, r_tuple_r, r_list_l, r_list_sl, r_list_t, r_list_r, r_ord, r_repr, r_pop, r_app, r_ext, r_join, r_join_t, r_isl_r, r_isl_l, r_in, r_put_d, r_put_l, r_eq_i, r_eq_s, r_ne_i, r_ne_s, r_eq_t0, r_ne_t0, r_eq_r0, r_ne_r0, r_eq_l0, r_ne_l0, q_lstM, q_frz, e_fz_r, e_fz_non, e_fz_bl, e_fz_int, e_fz_str, e_fz_tup, e_fz_lst, e_fz_dic, q_drp, q_zs, e_zs_tup_tup, e_zs_tup_lst, e_zs_tup_slst, e_zs_lst_tup, e_zs_lst_lst, e_zs_lst_slst, e_zs_slst_tup, e_zs_slst_lst, e_zs_slst_slst, r_mem_s, r_mem_t, r_mem_l, r_int_i, r_int_b, r_listM_l, r_listM_sl, r_listM_t, r_start, wipeD, br_not, br_true, br_false, br_dec, List.map_cons, List.map_nil, List.length_cons, List.length_nil, List.replicate_succ, List.replicate_zero, List.cons_append, List.nil_append, List.getElem?_cons_zero, List.getElem?_cons_succ, List.getElem?_nil, List.set_cons_zero, List.set_cons_succ, Nat.reduceAdd, Nat.reduceSub, Nat.reduceLeDiff, Nat.zero_add, updM_same, true_and, List.isEmpty_nil, List.isEmpty_cons, Bool.not_true, Bool.not_false, Bool.not_not, q_revA, e_ra_l, e_ra_s, e_ra_t, e_ra_z, q_star, e_st_l, e_st_s, e_st_t, q_par3, e_p3, q_cont, r_mul2_i, r_mul2_l, r_mul2_s, r_le2_i, r_le2_s, r_lt2_i, r_lt2_s, r_sum, r_max2, r_min2, r_rst, r_spl, r_six, q_callX, q_callKX, q_raise, e_d1, q_try, q_tryW, q_xf, q_isX, e_cau, r_add2_i, r_add2_s, r_add2_t, r_add2_l, r_add2_rl, r_add2_lr, q_sliM, r_slM, q_kdef, q_mix21, q_mix03, at0, at1, w12, w6, ifT, ifF, cO, cX, cP, cut1, List.drop_succ_cons, List.drop_zero]
        simp only [lD, q_v, q_c, q_tup, q_lst, q_op, q_nil, q_cons, q_tst, q_tru, q_andT, q_orT, q_notT, q_andV, q_orV, q_notV, q_ifE, q_next, q_seq, q_asg, q_drop, q_ret, q_retN, q_ifS, q_par, q_isi, q_blt, q_call, q_callK, q_kid, q_kswap, q_chain, q_neg, q_isN, q_notN, q_noO, q_someO, q_sli, q_rev, q_revM, q_bm, q_bm0, q_m1, q_seqI, q_rng, q_rng2, q_enum, q_zip, q_gnm, q_gtp, q_gs0, q_gs1, q_yes, q_put, e_bl, e_int, e_str, e_lst, e_n_non, e_n_bl, e_n_int, e_n_str, e_n_tup, e_n_lst, e_n_slst, e_n_dic, e_n_ref, e_seq_l, e_seq_s, e_seq_t, e_seq_z, e_rev_l, e_rev_s, e_i1, e_i2, e_l1, e_l1s, e_l2, e_p2, e_sl, e_o, e_ob, e_on, e_ml, e_md, e_c, e_tru_b, e_tru_n, e_tru_i, e_tru_t, e_tru_l, t_str_non, t_tup_non, t_int_non, t_bool_non, t_lst_non, t_dict_non, t_str_bl, t_tup_bl, t_int_bl, t_bool_bl, t_lst_bl, t_dict_bl, t_str_int, t_tup_int, t_int_int, t_bool_int, t_lst_int, t_dict_int, t_str_str, t_tup_str, t_int_str, t_bool_str, t_lst_str, t_dict_str, t_str_tup, t_tup_tup, t_int_tup, t_bool_tup, t_lst_tup, t_dict_tup, t_str_lst, t_tup_lst, t_int_lst, t_bool_lst, t_lst_lst, t_dict_lst, t_str_dic, t_tup_dic, t_int_dic, t_bool_dic, t_lst_dic, t_dict_dic, r_add_i, r_add_s, r_add_t, r_add_l, r_sub, r_mul, r_mul_l, r_fdiv, r_mod, r_pow, r_lt, r_ix_l, r_ix_t, r_ix_s, r_ix_rl, r_ix_rd, r_sl_l, r_sl_sl, r_sl_t, r_sl_s, r_len_l, r_len_sl, r_len_t, r_len_s, r_len_r, r_all, r_any, r_tuple_l, r_tuple_sl, r_tuple_t, r_tuple_r, r_list_l, r_list_sl, r_list_t, r_list_r, r_ord, r_repr, r_pop, r_app, r_ext, r_join, r_join_t, r_isl_r, r_isl_l, r_in, r_put_d, r_put_l, r_eq_i, r_eq_s, r_ne_i, r_ne_s, r_eq_t0, r_ne_t0, r_eq_r0, r_ne_r0, r_eq_l0, r_ne_l0, q_lstM, q_frz, e_fz_r, e_fz_non, e_fz_bl, e_fz_int, e_fz_str, e_fz_tup, e_fz_lst, e_fz_dic, q_drp, q_zs, e_zs_tup_tup, e_zs_tup_lst, e_zs_tup_slst, e_zs_lst_tup, e_zs_lst_lst, e_zs_lst_slst, e_zs_slst_tup, e_zs_slst_lst, e_zs_slst_slst, r_mem_s, r_mem_t, r_mem_l, r_int_i, r_int_b, r_listM_l, r_listM_sl, r_listM_t, r_start, wipeD, br_not, br_true, br_false, br_dec, List.map_cons, List.map_nil, List.length_cons, List.length_nil, List.replicate_succ, List.replicate_zero, List.cons_append, List.nil_append, List.getElem?_cons_zero, List.getElem?_cons_succ, List.getElem?_nil, List.set_cons_zero, List.set_cons_succ, Nat.reduceAdd, Nat.reduceSub, Nat.reduceLeDiff, Nat.zero_add, updM_same, true_and, List.isEmpty_nil, List.isEmpty_cons, Bool.not_true, Bool.not_false, Bool.not_not, q_revA, e_ra_l, e_ra_s, e_ra_t, e_ra_z, q_star, e_st_l, e_st_s, e_st_t, q_par3, e_p3, q_cont, r_mul2_i, r_mul2_l, r_mul2_s, r_le2_i, r_le2_s, r_lt2_i, r_lt2_s, r_sum, r_max2, r_min2, r_rst, r_spl, r_six, q_callX, q_callKX, q_raise, e_d1, q_try, q_tryW, q_xf, q_isX, e_cau, r_add2_i, r_add2_s, r_add2_t, r_add2_l, r_add2_rl, r_add2_lr, q_sliM, r_slM, q_kdef, q_mix21, q_mix03]
        refine ⟨?_, ns.map fun m => fs.getD m [], rfl, by rw [List.length_map]; omega, ?_⟩
        · simp only [List.length_map, List.length_append, List.length_cons, List.length_nil]
          omega
        · simp only [lD, q_v, q_c, q_tup, q_lst, q_op, q_nil, q_cons, q_tst, q_tru, q_andT, q_orT, q_notT, q_andV, q_orV, q_notV, q_ifE, q_next, q_seq, q_asg, q_drop, q_ret, q_retN, q_ifS, q_par, q_isi, q_blt, q_call, q_callK, q_kid, q_kswap, q_chain, q_neg, q_isN, q_notN, q_noO, q_someO, q_sli, q_rev, q_revM, q_bm, q_bm0, q_m1, q_seqI, q_rng, q_rng2, q_enum, q_zip, q_gnm, q_gtp, q_gs0, q_gs1, q_yes, q_put, e_bl, e_int, e_str, e_lst, e_n_non, e_n_bl, e_n_int, e_n_str, e_n_tup, e_n_lst, e_n_slst, e_n_dic, e_n_ref, e_seq_l, e_seq_s, e_seq_t, e_seq_z, e_rev_l, e_rev_s, e_i1, e_i2, e_l1, e_l1s, e_l2, e_p2, e_sl, e_o, e_ob, e_on, e_ml, e_md, e_c, e_tru_b, e_tru_n, e_tru_i, e_tru_t, e_tru_l, t_str_non, t_tup_non, t_int_non, t_bool_non, t_lst_non, t_dict_non, t_str_bl, t_tup_bl, t_int_bl, t_bool_bl, t_lst_bl, t_dict_bl, t_str_int, t_tup_int, t_int_int, t_bool_int, t_lst_int, t_dict_int, t_str_str, t_tup_str, t_int_str, t_bool_str, t_lst_str, t_dict_str, t_str_tup, t_tup_tup, t_int_tup, t_bool_tup, t_lst_tup, t_dict_tup, t_str_lst, t_tup_lst, t_int_lst, t_bool_lst, t_lst_lst, t_dict_lst, t_str_dic, t_tup_dic, t_int_dic, t_bool_dic, t_lst_dic, t_dict_dic, r_add_i, r_add_s, r_add_t, r_add_l, r_sub, r_mul, r_mul_l, r_fdiv, r_mod, r_pow, r_lt, r_ix_l, r_ix_t, r_ix_s, r_ix_rl, r_ix_rd, r_sl_l, r_sl_sl, r_sl_t, r_sl_s, r_len_l, r_len_sl, r_len_t, r_len_s, r_len_r, r_all, r_any, r_tuple_l, r_tuple_sl, r_tuple_t, r_tuple_r, r_list_l, r_list_sl, r_list_t, r_list_r, r_ord, r_repr, r_pop, r_app, r_ext, r_join, r_join_t, r_isl_r, r_isl_l, r_in, r_put_d, r_put_l, r_eq_i, r_eq_s, r_ne_i, r_ne_s, r_eq_t0, r_ne_t0, r_eq_r0, r_ne_r0, r_eq_l0, r_ne_l0, q_lstM, q_frz, e_fz_r, e_fz_non, e_fz_bl, e_fz_int, e_fz_str, e_fz_tup, e_fz_lst, e_fz_dic, q_drp, q_zs, e_zs_tup_tup, e_zs_tup_lst, e_zs_tup_slst, e_zs_lst_tup, e_zs_lst_lst, e_zs_lst_slst, e_zs_slst_tup, e_zs_slst_lst, e_zs_slst_slst, r_mem_s, r_mem_t, r_mem_l, r_int_i, r_int_b, r_listM_l, r_listM_sl, r_listM_t, r_start, wipeD, br_not, br_true, br_false, br_dec, List.map_cons, List.map_nil, List.length_cons, List.length_nil, List.replicate_succ, List.replicate_zero, List.cons_append, List.nil_append, List.getElem?_cons_zero, List.getElem?_cons_succ, List.getElem?_nil, List.set_cons_zero, List.set_cons_succ, Nat.reduceAdd, Nat.reduceSub, Nat.reduceLeDiff, Nat.zero_add, updM_same, true_and, List.isEmpty_nil, List.isEmpty_cons, Bool.not_true, Bool.not_false, Bool.not_not, q_revA, e_ra_l, e_ra_s, e_ra_t, e_ra_z, q_star, e_st_l, e_st_s, e_st_t, q_par3, e_p3, q_cont, r_mul2_i, r_mul2_l, r_mul2_s, r_le2_i, r_le2_s, r_lt2_i, r_lt2_s, r_sum, r_max2, r_min2, r_rst, r_spl, r_six, q_callX, q_callKX, q_raise, e_d1, q_try, q_tryW, q_xf, q_isX, e_cau, r_add2_i, r_add2_s, r_add2_t, r_add2_l, r_add2_rl, r_add2_lr, q_sliM, r_slM, q_kdef, q_mix21, q_mix03, updM_two]
          refine ⟨?_, ?_, by rw [List.length_map]; omega, post _ (fs.getD a [] ++ [sP, n, sO] ++ btw (ns.map fun m => fs.getD m []) ++ [sX]) _ _ _ ?_ ?_⟩
          · simp only [List.length_map, List.length_append, List.length_cons, List.length_nil]
            omega
          · simp only [List.length_map, List.length_append, List.length_cons, List.length_nil]
            omega
          · simp [lD]
          · show _ = exI (.inr a :: .inl sP :: .inl n :: .inl sO :: (listed ns ++ [.inl sX])) fs
            rw [← ex_listed]
            simp [exI, exP]
  · obtain ⟨rfl, x, y, z, rfl⟩ := w
    rw [List.length_map, List.take_of_length_le (by rw [exs_len]; exact Nat.le_refl _)]
    simp only [q_v, q_c, q_tup, q_lst, q_op, q_nil, q_cons, q_tst, q_tru, q_andT, q_orT, q_notT, q_andV, q_orV, q_notV, q_ifE, q_next, q_seq, q_asg, q_drop, q_ret, q_retN, q_ifS, q_par, q_isi, q_blt, q_call, q_callK, q_kid, q_kswap, q_chain, q_neg, q_isN, q_notN, q_noO, q_someO, q_sli, q_rev, q_revM, q_bm, q_bm0, q_m1, q_seqI, q_rng, q_rng2, q_enum, q_zip, q_gnm, q_gtp, q_gs0, q_gs1, q_yes, q_put, e_bl, e_int, e_str, e_lst, e_n_non, e_n_bl, e_n_int, e_n_str, e_n_tup, e_n_lst, e_n_slst, e_n_dic, e_n_ref, e_seq_l, e_seq_s, e_seq_t, e_seq_z, e_rev_l, e_rev_s, e_i1, e_i2, e_l1, e_l1s, e_l2, e_p2, e_sl, e_o, e_ob, e_on, e_ml, e_md, e_c, e_tru_b, e_tru_n, e_tru_i, e_tru_t, e_tru_l, t_str_non, t_tup_non, t_int_non, t_bool_non, t_lst_non, t_dict_non, t_str_bl, t_tup_bl, t_int_bl, t_bool_bl, t_lst_bl, t_dict_bl, t_str_int, t_tup_int, t_int_int, t_bool_int, t_lst_int, t_dict_int, t_str_str, t_tup_str, t_int_str, t_bool_str, t_lst_str, t_dict_str, t_str_tup, t_tup_tup, t_int_tup, t_bool_tup, t_lst_tup, t_dict_tup, t_str_lst, t_tup_lst, t_int_lst, t_bool_lst, t_lst_lst, t_dict_lst, t_str_dic, t_tup_dic, t_int_dic, t_bool_dic, t_lst_dic, t_dict_dic, r_add_i, r_add_s, r_add_t, r_add_l, r_sub, r_mul, r_mul_l, r_fdiv, r_mod, r_pow, r_lt, r_ix_l, r_ix_t, r_ix_s, r_ix_rl, r_ix_rd, r_sl_l, r_sl_sl, r_sl_t, r_sl_s, r_len_l, r_len_sl, r_len_t, r_len_s, r_len_r, r_all, r_any, r_tuple_l, r_tuple_sl, r_tuple_t, r_tuple_r, r_list_l, r_list_sl, r_list_t, r_list_r, r_ord, r_repr, r_pop, r_app, r_ext, r_join, r_join_t, r_isl_r, r_isl_l, r_in, r_put_d, r_put_l, r_eq_i, r_eq_s, r_ne_i, r_ne_s, r_eq_t0, r_ne_t0, r_eq_r0, r_ne_r0, r_eq_l0, r_ne_l0, q_lstM, q_frz, e_fz_r, e_fz_non, e_fz_bl, e_fz_int, e_fz_str, e_fz_tup, e_fz_lst, e_fz_dic, q_drp, q_zs, e_zs_tup_tup, e_zs_tup_lst, e_zs_tup_slst, e_zs_lst_tup, e_zs_lst_lst, e_zs_lst_slst, e_zs_slst_tup, e_zs_slst_lst, e_zs_slst_slst, r_mem_s, r_mem_t, r_mem_l, r_int_i, r_int_b, r_listM_l, r_listM_sl, r_listM_t, r_start, wipeD, br_not, br_true, br_false, br_dec, List.map_cons, List.map_nil, List.length_cons, List.length_nil, List.replicate_succ, List.replicate_zero, List.cons_append, List.nil_append, List.getElem?_cons_zero, List.getElem?_cons_succ, List.getElem?_nil, List.set_cons_zero, List.set_cons_succ, Nat.reduceAdd, Nat.reduceSub, Nat.reduceLeDiff, Nat.zero_add, updM_same, true_and, List.isEmpty_nil, List.isEmpty_cons, Bool.not_true, Bool.not_false, Bool.not_not, q_revA, e_ra_l, e_ra_s, e_ra_t, e_ra_z, q_star, e_st_l, e_st_s, e_st_t, q_par3, e_p3, q_cont, r_mul2_i, r_mul2_l, r_mul2_s, r_le2_i, r_le2_s, r_lt2_i, r_lt2_s, r_sum, r_max2, r_min2, r_rst, r_spl, r_six, q_callX, q_callKX, q_raise, e_d1, q_try, q_tryW, q_xf, q_isX, e_cau, r_add2_i, r_add2_s, r_add2_t, r_add2_l, r_add2_rl, r_add2_lr, q_sliM, r_slM, q_kdef, q_mix21, q_mix03]
    rw [delM_upd hL]
    exact h
end K43

namespace K43
open PySem L2 Fx
theorem lenD_map (ls ns : List Nat) : (ns.map nD).map (lenD ls) = (ns.map fun n => ls.getD n 0).map nD := by
  rw [List.map_map, List.map_map]
  refine List.map_congr_left fun n _ => ?_
  simp [nD, lenD]
theorem lc_nums {ds : Ds} {M : Mp} {F : DK} {t : Nat} {E : TEd} {L : Addr} {ls ns : List Nat} {T : TId} (hM : M L = some (.lst (ls.map nD))) (hn : ∀ n ∈ ns, n < ls.length) (hl : ns.length ≤ 1000)
    (hT : ∀ G : List D → Mp → Prop, G (ns.map nD) M → T ds M G) (hE : ∀ (n : Nat) M' (G : DK), ixR (.ref L) (nD n) M' G → E ((wipeD ds [t]).set t (some (nD n))) M' G)
    (hF : F (.lst ((ns.map fun n => ls.getD n 0).map nD)) M) : lcD T (.nm t) yesD E [t] ds M F := by
  refine lc_mapK (lenD ls) (xs := ns.map nD) (by rw [List.length_map]; omega) hT (fun d hd => ?_) ?_
  · obtain ⟨n, hm, rfl⟩ := List.mem_map.mp hd
    rw [q_gnm]
    intro M' k G g
    refine hE n M' G ?_
    have e := at_nD (hn n hm)
    show ixR (.ref L) (.int (n : Int)) M' G
    rw [r_ix_rl, k _ _ hM, e_ml, e, e_o]
    have e2 : lenD ls (nD n) = nD (ls.getD n 0) := by simp [lenD, nD]
    rw [e2] at g
    exact g
  · rw [lenD_map]
    exact hF
def R_l_size : RD := fun xs M F => ∃ s L fs, xs = [sD s, .ref L] ∧ M L = some (.lst ((fs.map List.length).map nD)) ∧ Val fs.length (parts s) ∧ few4 s ∧ F (nD (exI (parts s) fs).length) M
theorem ln_l_size : ∀ xs M F, R_l_size xs M F → xs.length = 2 := fun xs M F ⟨p, L, f, e, _⟩ => by rw [e]; rfl
theorem map_getD (fs : List (List Str)) (ns : List Nat) : (ns.map fun n => (fs.map List.length).getD n 0) = (ns.map fun n => fs.getD n []).map List.length := by
  rw [List.map_map]
  refine List.map_congr_left fun n _ => ?_
  simp only [Function.comp_apply, List.getD_eq_getElem?_getD, List.getElem?_map]
  cases fs[n]? <;> rfl
theorem rd_l_size : ∀ ds M F, R_l_size ds M F → T_l_size { nx := fun _ M' => F .non M', rt := F } (startD 4 ds) M := by
  intro ds M F ⟨s, L, fs, e, hM, hv, h4, h⟩
  subst e
  cases s with
  | tok t =>
    simp only [T_l_size, sD, q_v, q_c, q_tup, q_lst, q_op, q_nil, q_cons, q_tst, q_tru, q_andT, q_orT, q_notT, q_andV, q_orV, q_notV, q_ifE, q_next, q_seq, q_asg, q_drop, q_ret, q_retN, q_ifS, q_par, q_isi, q_blt, q_call, q_callK, q_kid, q_kswap, q_chain, q_neg, q_isN, q_notN, q_noO, q_someO, q_sli, q_rev, q_revM, q_bm, q_bm0, q_m1, q_seqI, q_rng, q_rng2, q_enum, q_zip, q_gnm, q_gtp, q_gs0, q_gs1, q_yes, q_put, e_bl, e_int, e_str, e_lst, e_n_non, e_n_bl, e_n_int, e_n_str, e_n_tup, e_n_lst, e_n_slst, e_n_dic, e_n_ref, e_seq_l, e_seq_s, e_seq_t, e_seq_z, e_rev_l, e_rev_s, e_i1, e_i2, e_l1, e_l1s, e_l2, e_p2, e_sl, e_o, e_ob, e_on, e_ml, e_md, e_c, e_tru_b, e_tru_n, e_tru_i, e_tru_t, e_tru_l, t_str_non, t_tup_non, t_int_non, t_bool_non, t_lst_non, t_dict_non, t_str_bl, t_tup_bl, t_int_bl, t_bool_bl, t_lst_bl, t_dict_bl, t_str_int, t_tup_int, t_int_int, t_bool_int, t_lst_int, t_dict_int, t_str_str, t_tup_str, t_int_str, t_bool_str, t_lst_str, t_dict_str, t_str_tup, t_tup_tup, t_int_tup, t_bool_tup, t_lst_tup, t_dict_tup, t_str_lst, t_tup_lst, t_int_lst, t_bool_lst, t_lst_lst, t_dict_lst, t_str_dic, t_tup_dic, t_int_dic, t_bool_dic, t_lst_dic, t_dict_dic, r_add_i, r_add_s, r_add_t, r_add_l, r_sub, r_mul, r_mul_l, r_fdiv, r_mod, r_pow, r_lt, r_ix_l, r_ix_t, r_ix_s, r_ix_rl, r_ix_rd, r_sl_l, r_sl_sl, r_sl_t, r_sl_s, r_len_l, r_len_sl, r_len_t, r_len_s, r_len_r, r_all, r_any, r_tuple_l, r_tuple_sl, r_tuple_t, r_tuple_r, r_list_l, r_list_sl, r_list_t, r_list_r, r_ord, r_repr, r_pop, r_app, r_ext, r_join, r_join_t, r_isl_r, r_isl_l, r_in, r_put_d, r_put_l, r_eq_i, r_eq_s, r_ne_i, r_ne_s, r_eq_t0, r_ne_t0, r_eq_r0, r_ne_r0, r_eq_l0, r_ne_l0, q_lstM, q_frz, e_fz_r, e_fz_non, e_fz_bl, e_fz_int, e_fz_str, e_fz_tup, e_fz_lst, e_fz_dic, q_drp, q_zs, e_zs_tup_tup, e_zs_tup_lst, e_zs_tup_slst, e_zs_lst_tup, e_zs_lst_lst, e_zs_lst_slst, e_zs_slst_tup, e_zs_slst_lst, e_zs_slst_slst, r_mem_s, r_mem_t, r_mem_l, r_int_i, r_int_b, r_listM_l, r_listM_sl, r_listM_t, r_start, wipeD, br_not, br_true, br_false, br_dec, List.map_cons, List.map_nil, List.length_cons, List.length_nil, List.replicate_succ, List.replicate_zero, List.cons_append, List.nil_append, List.getElem?_cons_zero, List.getElem?_cons_succ, List.getElem?_nil, List.set_cons_zero, List.set_cons_succ, Nat.reduceAdd, Nat.reduceSub, Nat.reduceLeDiff, Nat.zero_add, updM_same, true_and, List.isEmpty_nil, List.isEmpty_cons, Bool.not_true, Bool.not_false, Bool.not_not, q_revA, e_ra_l, e_ra_s, e_ra_t, e_ra_z, q_star, e_st_l, e_st_s, e_st_t, q_par3, e_p3, q_cont, r_mul2_i, r_mul2_l, r_mul2_s, r_le2_i, r_le2_s, r_lt2_i, r_lt2_s, r_sum, r_max2, r_min2, r_rst, r_spl, r_six, q_callX, q_callKX, q_raise, e_d1, q_try, q_tryW, q_xf, q_isX, e_cau, r_add2_i, r_add2_s, r_add2_t, r_add2_l, r_add2_rl, r_add2_lr, q_sliM, r_slM, q_kdef, q_mix21, q_mix03, at0, at1, w1, ifT]
    exact h
  | oper n a b =>
    have va : a < fs.length := hv a (by unfold parts; simp)
    have vb : b < fs.length := hv b (by unfold parts; simp)
    simp only [T_l_size, sD, q_v, q_c, q_tup, q_lst, q_op, q_nil, q_cons, q_tst, q_tru, q_andT, q_orT, q_notT, q_andV, q_orV, q_notV, q_ifE, q_next, q_seq, q_asg, q_drop, q_ret, q_retN, q_ifS, q_par, q_isi, q_blt, q_call, q_callK, q_kid, q_kswap, q_chain, q_neg, q_isN, q_notN, q_noO, q_someO, q_sli, q_rev, q_revM, q_bm, q_bm0, q_m1, q_seqI, q_rng, q_rng2, q_enum, q_zip, q_gnm, q_gtp, q_gs0, q_gs1, q_yes, q_put, e_bl, e_int, e_str, e_lst, e_n_non, e_n_bl, e_n_int, e_n_str, e_n_tup, e_n_lst, e_n_slst, e_n_dic, e_n_ref, e_seq_l, e_seq_s, e_seq_t, e_seq_z, e_rev_l, e_rev_s, e_i1, e_i2, e_l1, e_l1s, e_l2, e_p2, e_sl, e_o, e_ob, e_on, e_ml, e_md, e_c, e_tru_b, e_tru_n, e_tru_i, e_tru_t, e_tru_l, t_str_non, t_tup_non, t_int_non, t_bool_non, t_lst_non, t_dict_non, t_str_bl, t_tup_bl, t_int_bl, t_bool_bl, t_lst_bl, t_dict_bl, t_str_int, t_tup_int, t_int_int, t_bool_int, t_lst_int, t_dict_int, t_str_str, t_tup_str, t_int_str, t_bool_str, t_lst_str, t_dict_str, t_str_tup, t_tup_tup, t_int_tup, t_bool_tup, t_lst_tup, t_dict_tup, t_str_lst, t_tup_lst, t_int_lst, t_bool_lst, t_lst_lst, t_dict_lst, t_str_dic, t_tup_dic, t_int_dic, t_bool_dic, t_lst_dic, t_dict_dic, r_add_i, r_add_s, r_add_t, r_add_l, r_sub, r_mul, r_mul_l, r_fdiv, r_mod, r_pow, r_lt, r_ix_l, r_ix_t, r_ix_s, r_ix_rl, r_ix_rd, r_sl_l, r_sl_sl, r_sl_t, r_sl_s, r_len_l, r_len_sl, r_len_t, r_len_s, r_len_r, r_all, r_any, r_tuple_l, r_tuple_sl, r_tuple_t, r_tuple_r, r_list_l, r_list_sl, r_list_t, r_list_r, r_ord, r_repr, r_pop, r_app, r_ext, r_join, r_join_t, r_isl_r, r_isl_l, r_in, r_put_d, r_put_l, r_eq_i, r_eq_s, r_ne_i, r_ne_s, r_eq_t0, r_ne_t0, r_eq_r0, r_ne_r0, r_eq_l0, r_ne_l0, q_lstM, q_frz, e_fz_r, e_fz_non, e_fz_bl, e_fz_int, e_fz_str, e_fz_tup, e_fz_lst, e_fz_dic, q_drp, q_zs, e_zs_tup_tup, e_zs_tup_lst, e_zs_tup_slst, e_zs_lst_tup, e_zs_lst_lst, e_zs_lst_slst, e_zs_slst_tup, e_zs_slst_lst, e_zs_slst_slst, r_mem_s, r_mem_t, r_mem_l, r_int_i, r_int_b, r_listM_l, r_listM_sl, r_listM_t, r_start, wipeD, br_not, br_true, br_false, br_dec, List.map_cons, List.map_nil, List.length_cons, List.length_nil, List.replicate_succ, List.replicate_zero, List.cons_append, List.nil_append, List.getElem?_cons_zero, List.getElem?_cons_succ, List.getElem?_nil, List.set_cons_zero, List.set_cons_succ, Nat.reduceAdd, Nat.reduceSub, Nat.reduceLeDiff, Nat.zero_add, updM_same, true_and, List.isEmpty_nil, List.isEmpty_cons, Bool.not_true, Bool.not_false, Bool.not_not, q_revA, e_ra_l, e_ra_s, e_ra_t, e_ra_z, q_star, e_st_l, e_st_s, e_st_t, q_par3, e_p3, q_cont, r_mul2_i, r_mul2_l, r_mul2_s, r_le2_i, r_le2_s, r_lt2_i, r_lt2_s, r_sum, r_max2, r_min2, r_rst, r_spl, r_six, q_callX, q_callKX, q_raise, e_d1, q_try, q_tryW, q_xf, q_isX, e_cau, r_add2_i, r_add2_s, r_add2_t, r_add2_l, r_add2_rl, r_add2_lr, q_sliM, r_slM, q_kdef, q_mix21, q_mix03, at0, at1, at2, w4, ifF]
    refine lc_nums (ns := [a, b]) hM (fun n hn => ?_) (by simp) (fun G g => by simp only [q_v, q_c, q_tup, q_lst, q_op, q_nil, q_cons, q_tst, q_tru, q_andT, q_orT, q_notT, q_andV, q_orV, q_notV, q_ifE, q_next, q_seq, q_asg, q_drop, q_ret, q_retN, q_ifS, q_par, q_isi, q_blt, q_call, q_callK, q_kid, q_kswap, q_chain, q_neg, q_isN, q_notN, q_noO, q_someO, q_sli, q_rev, q_revM, q_bm, q_bm0, q_m1, q_seqI, q_rng, q_rng2, q_enum, q_zip, q_gnm, q_gtp, q_gs0, q_gs1, q_yes, q_put, e_bl, e_int, e_str, e_lst, e_n_non, e_n_bl, e_n_int, e_n_str, e_n_tup, e_n_lst, e_n_slst, e_n_dic, e_n_ref, e_seq_l, e_seq_s, e_seq_t, e_seq_z, e_rev_l, e_rev_s, e_i1, e_i2, e_l1, e_l1s, e_l2, e_p2, e_sl, e_o, e_ob, e_on, e_ml, e_md, e_c, e_tru_b, e_tru_n, e_tru_i, e_tru_t, e_tru_l, t_str_non, t_tup_non, t_int_non, t_bool_non, t_lst_non, t_dict_non, t_str_bl, t_tup_bl, t_int_bl, t_bool_bl, t_lst_bl, t_dict_bl, t_str_int, t_tup_int, t_int_int, t_bool_int, t_lst_int, t_dict_int, t_str_str, t_tup_str, t_int_str, t_bool_str, t_lst_str, t_dict_str, t_str_tup, t_tup_tup, t_int_tup, t_bool_tup, t_lst_tup, t_dict_tup, t_str_lst, t_tup_lst, t_int_lst, t_bool_lst, t_lst_lst, t_dict_lst, t_str_dic, t_tup_dic, t_int_dic, t_bool_dic, t_lst_dic, t_dict_dic, r_add_i, r_add_s, r_add_t, r_add_l, r_sub, r_mul, r_mul_l, r_fdiv, r_mod, r_pow, r_lt, r_ix_l, r_ix_t, r_ix_s, r_ix_rl, r_ix_rd, r_sl_l, r_sl_sl, r_sl_t, r_sl_s, r_len_l, r_len_sl, r_len_t, r_len_s, r_len_r, r_all, r_any, r_tuple_l, r_tuple_sl, r_tuple_t, r_tuple_r, r_list_l, r_list_sl, r_list_t, r_list_r, r_ord, r_repr, r_pop, r_app, r_ext, r_join, r_join_t, r_isl_r, r_isl_l, r_in, r_put_d, r_put_l, r_eq_i, r_eq_s, r_ne_i, r_ne_s, r_eq_t0, r_ne_t0, r_eq_r0, r_ne_r0, r_eq_l0, r_ne_l0, q_lstM, q_frz, e_fz_r, e_fz_non, e_fz_bl, e_fz_int, e_fz_str, e_fz_tup, e_fz_lst, e_fz_dic, q_drp, q_zs, e_zs_tup_tup, e_zs_tup_lst, e_zs_tup_slst, e_zs_lst_tup, e_zs_lst_lst, e_zs_lst_slst, e_zs_slst_tup, e_zs_slst_lst, e_zs_slst_slst, r_mem_s, r_mem_t, r_mem_l, r_int_i, r_int_b, r_listM_l, r_listM_sl, r_listM_t, r_start, wipeD, br_not, br_true, br_false, br_dec, List.map_cons, List.map_nil, List.length_cons, List.length_nil, List.replicate_succ, List.replicate_zero, List.cons_append, List.nil_append, List.getElem?_cons_zero, List.getElem?_cons_succ, List.getElem?_nil, List.set_cons_zero, List.set_cons_succ, Nat.reduceAdd, Nat.reduceSub, Nat.reduceLeDiff, Nat.zero_add, updM_same, true_and, List.isEmpty_nil, List.isEmpty_cons, Bool.not_true, Bool.not_false, Bool.not_not, q_revA, e_ra_l, e_ra_s, e_ra_t, e_ra_z, q_star, e_st_l, e_st_s, e_st_t, q_par3, e_p3, q_cont, r_mul2_i, r_mul2_l, r_mul2_s, r_le2_i, r_le2_s, r_lt2_i, r_lt2_s, r_sum, r_max2, r_min2, r_rst, r_spl, r_six, q_callX, q_callKX, q_raise, e_d1, q_try, q_tryW, q_xf, q_isX, e_cau, r_add2_i, r_add2_s, r_add2_t, r_add2_l, r_add2_rl, r_add2_lr, q_sliM, r_slM, q_kdef, q_mix21, q_mix03, at2]; exact g) (fun n M' G g => by simp only [q_v, q_c, q_tup, q_lst, q_op, q_nil, q_cons, q_tst, q_tru, q_andT, q_orT, q_notT, q_andV, q_orV, q_notV, q_ifE, q_next, q_seq, q_asg, q_drop, q_ret, q_retN, q_ifS, q_par, q_isi, q_blt, q_call, q_callK, q_kid, q_kswap, q_chain, q_neg, q_isN, q_notN, q_noO, q_someO, q_sli, q_rev, q_revM, q_bm, q_bm0, q_m1, q_seqI, q_rng, q_rng2, q_enum, q_zip, q_gnm, q_gtp, q_gs0, q_gs1, q_yes, q_put, e_bl, e_int, e_str, e_lst, e_n_non, e_n_bl, e_n_int, e_n_str, e_n_tup, e_n_lst, e_n_slst, e_n_dic, e_n_ref, e_seq_l, e_seq_s, e_seq_t, e_seq_z, e_rev_l, e_rev_s, e_i1, e_i2, e_l1, e_l1s, e_l2, e_p2, e_sl, e_o, e_ob, e_on, e_ml, e_md, e_c, e_tru_b, e_tru_n, e_tru_i, e_tru_t, e_tru_l, t_str_non, t_tup_non, t_int_non, t_bool_non, t_lst_non, t_dict_non, t_str_bl, t_tup_bl, t_int_bl, t_bool_bl, t_lst_bl, t_dict_bl, t_str_int, t_tup_int, t_int_int, t_bool_int, t_lst_int, t_dict_int, t_str_str, t_tup_str, t_int_str, t_bool_str, t_lst_str, t_dict_str, t_str_tup, t_tup_tup, t_int_tup, t_bool_tup, t_lst_tup, t_dict_tup, t_str_lst, t_tup_lst, t_int_lst, t_bool_lst, t_lst_lst, t_dict_lst, t_str_dic, t_tup_dic, t_int_dic, t_bool_dic, t_lst_dic, t_dict_dic, r_add_i, r_add_s, r_add_t, r_add_l, r_sub, r_mul, r_mul_l, r_fdiv, r_mod, r_pow, r_lt, r_ix_l, r_ix_t, r_ix_s, r_ix_rl, r_ix_rd, r_sl_l, r_sl_sl, r_sl_t, r_sl_s, r_len_l, r_len_sl, r_len_t, r_len_s, r_len_r, r_all, r_any, r_tuple_l, r_tuple_sl, r_tuple_t, r_tuple_r, r_list_l, r_list_sl, r_list_t, r_list_r, r_ord, r_repr, r_pop, r_app, r_ext, r_join, r_join_t, r_isl_r, r_isl_l, r_in, r_put_d, r_put_l, r_eq_i, r_eq_s, r_ne_i, r_ne_s, r_eq_t0, r_ne_t0, r_eq_r0, r_ne_r0, r_eq_l0, r_ne_l0, q_lstM, q_frz, e_fz_r, e_fz_non, e_fz_bl, e_fz_int, e_fz_str, e_fz_tup, e_fz_lst, e_fz_dic, q_drp, q_zs, e_zs_tup_tup, e_zs_tup_lst, e_zs_tup_slst, e_zs_lst_tup, e_zs_lst_lst, e_zs_lst_slst, e_zs_slst_tup, e_zs_slst_lst, e_zs_slst_slst, r_mem_s, r_mem_t, r_mem_l, r_int_i, r_int_b, r_listM_l, r_listM_sl, r_listM_t, r_start, wipeD, br_not, br_true, br_false, br_dec, List.map_cons, List.map_nil, List.length_cons, List.length_nil, List.replicate_succ, List.replicate_zero, List.cons_append, List.nil_append, List.getElem?_cons_zero, List.getElem?_cons_succ, List.getElem?_nil, List.set_cons_zero, List.set_cons_succ, Nat.reduceAdd, Nat.reduceSub, Nat.reduceLeDiff, Nat.zero_add, updM_same, true_and, List.isEmpty_nil, List.isEmpty_cons, Bool.not_true, Bool.not_false, Bool.not_not, q_revA, e_ra_l, e_ra_s, e_ra_t, e_ra_z, q_star, e_st_l, e_st_s, e_st_t, q_par3, e_p3, q_cont, r_mul2_i, r_mul2_l, r_mul2_s, r_le2_i, r_le2_s, r_lt2_i, r_lt2_s, r_sum, r_max2, r_min2, r_rst, r_spl, r_six, q_callX, q_callKX, q_raise, e_d1, q_try, q_tryW, q_xf, q_isX, e_cau, r_add2_i, r_add2_s, r_add2_t, r_add2_l, r_add2_rl, r_add2_lr, q_sliM, r_slM, q_kdef, q_mix21, q_mix03]; exact g) ?_
    · rw [List.length_map]
      simp only [List.mem_cons, List.not_mem_nil, or_false] at hn
      rcases hn with e | e <;> (rw [e]; assumption)
    · obtain ⟨a1, a2⟩ := sum_nD ([a, b].map fun n => (fs.map List.length).getD n 0)
      simp only [q_v, q_c, q_tup, q_lst, q_op, q_nil, q_cons, q_tst, q_tru, q_andT, q_orT, q_notT, q_andV, q_orV, q_notV, q_ifE, q_next, q_seq, q_asg, q_drop, q_ret, q_retN, q_ifS, q_par, q_isi, q_blt, q_call, q_callK, q_kid, q_kswap, q_chain, q_neg, q_isN, q_notN, q_noO, q_someO, q_sli, q_rev, q_revM, q_bm, q_bm0, q_m1, q_seqI, q_rng, q_rng2, q_enum, q_zip, q_gnm, q_gtp, q_gs0, q_gs1, q_yes, q_put, e_bl, e_int, e_str, e_lst, e_n_non, e_n_bl, e_n_int, e_n_str, e_n_tup, e_n_lst, e_n_slst, e_n_dic, e_n_ref, e_seq_l, e_seq_s, e_seq_t, e_seq_z, e_rev_l, e_rev_s, e_i1, e_i2, e_l1, e_l1s, e_l2, e_p2, e_sl, e_o, e_ob, e_on, e_ml, e_md, e_c, e_tru_b, e_tru_n, e_tru_i, e_tru_t, e_tru_l, t_str_non, t_tup_non, t_int_non, t_bool_non, t_lst_non, t_dict_non, t_str_bl, t_tup_bl, t_int_bl, t_bool_bl, t_lst_bl, t_dict_bl, t_str_int, t_tup_int, t_int_int, t_bool_int, t_lst_int, t_dict_int, t_str_str, t_tup_str, t_int_str, t_bool_str, t_lst_str, t_dict_str, t_str_tup, t_tup_tup, t_int_tup, t_bool_tup, t_lst_tup, t_dict_tup, t_str_lst, t_tup_lst, t_int_lst, t_bool_lst, t_lst_lst, t_dict_lst, t_str_dic, t_tup_dic, t_int_dic, t_bool_dic, t_lst_dic, t_dict_dic, r_add_i, r_add_s, r_add_t, r_add_l, r_sub, r_mul, r_mul_l, r_fdiv, r_mod, r_pow, r_lt, r_ix_l, r_ix_t, r_ix_s, r_ix_rl, r_ix_rd, r_sl_l, r_sl_sl, r_sl_t, r_sl_s, r_len_l, r_len_sl, r_len_t, r_len_s, r_len_r, r_all, r_any, r_tuple_l, r_tuple_sl, r_tuple_t, r_tuple_r, r_list_l, r_list_sl, r_list_t, r_list_r, r_ord, r_repr, r_pop, r_app, r_ext, r_join, r_join_t, r_isl_r, r_isl_l, r_in, r_put_d, r_put_l, r_eq_i, r_eq_s, r_ne_i, r_ne_s, r_eq_t0, r_ne_t0, r_eq_r0, r_ne_r0, r_eq_l0, r_ne_l0, q_lstM, q_frz, e_fz_r, e_fz_non, e_fz_bl, e_fz_int, e_fz_str, e_fz_tup, e_fz_lst, e_fz_dic, q_drp, q_zs, e_zs_tup_tup, e_zs_tup_lst, e_zs_tup_slst, e_zs_lst_tup, e_zs_lst_lst, e_zs_lst_slst, e_zs_slst_tup, e_zs_slst_lst, e_zs_slst_slst, r_mem_s, r_mem_t, r_mem_l, r_int_i, r_int_b, r_listM_l, r_listM_sl, r_listM_t, r_start, wipeD, br_not, br_true, br_false, br_dec, List.map_cons, List.map_nil, List.length_cons, List.length_nil, List.replicate_succ, List.replicate_zero, List.cons_append, List.nil_append, List.getElem?_cons_zero, List.getElem?_cons_succ, List.getElem?_nil, List.set_cons_zero, List.set_cons_succ, Nat.reduceAdd, Nat.reduceSub, Nat.reduceLeDiff, Nat.zero_add, updM_same, true_and, List.isEmpty_nil, List.isEmpty_cons, Bool.not_true, Bool.not_false, Bool.not_not, q_revA, e_ra_l, e_ra_s, e_ra_t, e_ra_z, q_star, e_st_l, e_st_s, e_st_t, q_par3, e_p3, q_cont, r_mul2_i, r_mul2_l, r_mul2_s, r_le2_i, r_le2_s, r_lt2_i, r_lt2_s, r_sum, r_max2, r_min2, r_rst, r_spl, r_six, q_callX, q_callKX, q_raise, e_d1, q_try, q_tryW, q_xf, q_isX, e_cau, r_add2_i, r_add2_s, r_add2_t, r_add2_l, r_add2_rl, r_add2_lr, q_sliM, r_slM, q_kdef, q_mix21, q_mix03, at0, w10, ifT, a1]
      refine ⟨a2, ?_⟩
      have : (exI (parts (.oper n a b)) fs).length = ([a, b].map fun n => (fs.map List.length).getD n 0).sum + 3 := by
        rw [map_getD]
        simp [exI, parts, exP]
        omega
      rw [this] at h
      exact h
  | call n ns =>
    have h4' : ns.length ≤ 4 := h4
    have vn : ∀ m ∈ ns, m < fs.length := fun m hm => hv m (by unfold parts; simp [listed_mem hm])
    simp only [T_l_size, sD, q_v, q_c, q_tup, q_lst, q_op, q_nil, q_cons, q_tst, q_tru, q_andT, q_orT, q_notT, q_andV, q_orV, q_notV, q_ifE, q_next, q_seq, q_asg, q_drop, q_ret, q_retN, q_ifS, q_par, q_isi, q_blt, q_call, q_callK, q_kid, q_kswap, q_chain, q_neg, q_isN, q_notN, q_noO, q_someO, q_sli, q_rev, q_revM, q_bm, q_bm0, q_m1, q_seqI, q_rng, q_rng2, q_enum, q_zip, q_gnm, q_gtp, q_gs0, q_gs1, q_yes, q_put, e_bl, e_int, e_str, e_lst, e_n_non, e_n_bl, e_n_int, e_n_str, e_n_tup, e_n_lst, e_n_slst, e_n_dic, e_n_ref, e_seq_l, e_seq_s, e_seq_t, e_seq_z, e_rev_l, e_rev_s, e_i1, e_i2, e_l1, e_l1s, e_l2, e_p2, e_sl, e_o, e_ob, e_on, e_ml, e_md, e_c, e_tru_b, e_tru_n, e_tru_i, e_tru_t, e_tru_l, t_str_non, t_tup_non, t_int_non, t_bool_non, t_lst_non, t_dict_non, t_str_bl, t_tup_bl, t_int_bl, t_bool_bl, t_lst_bl, t_dict_bl, t_str_int, t_tup_int, t_int_int, t_bool_int, t_lst_int, t_dict_int, t_str_str, t_tup_str, t_int_str, t_bool_str, t_lst_str, t_dict_str, t_str_tup, t_tup_tup, t_int_tup, t_bool_tup, t_lst_tup, t_dict_tup, t_str_lst, t_tup_lst, t_int_lst, t_bool_lst, t_lst_lst, t_dict_lst, t_str_dic, t_tup_dic, t_int_dic, t_bool_dic, t_lst_dic, t_dict_dic, r_add_i, r_add_s, r_add_t, r_add_l, r_sub, r_mul, r_mul_l, r_fdiv, r_mod, r_pow, r_lt, r_ix_l, r_ix_t, r_ix_s, r_ix_rl, r_ix_rd, r_sl_l, r_sl_sl, r_sl_t, r_sl_s, r_len_l, r_len_sl, r_len_t, r_len_s, r_len_r, r_all, r_any, r_tuple_l, r_tuple_sl, r_tuple_t, r_tuple_r, r_list_l, r_list_sl, r_list_t, r_list_r, r_ord, r_repr, r_pop, r_app, r_ext, r_join, r_join_t, r_isl_r, r_isl_l, r_in, r_put_d, r_put_l, r_eq_i, r_eq_s, r_ne_i, r_ne_s, r_eq_t0, r_ne_t0, r_eq_r0, r_ne_r0, r_eq_l0, r_ne_l0, q_lstM, q_frz, e_fz_r, e_fz_non, e_fz_bl, e_fz_int, e_fz_str, e_fz_tup, e_fz_lst, e_fz_dic, q_drp, q_zs, e_zs_tup_tup, e_zs_tup_lst, e_zs_tup_slst, e_zs_lst_tup, e_zs_lst_lst, e_zs_lst_slst, e_zs_slst_tup, e_zs_slst_lst, e_zs_slst_slst, r_mem_s, r_mem_t, r_mem_l, r_int_i, r_int_b, r_listM_l, r_listM_sl, r_listM_t, r_start, wipeD, br_not, br_true, br_false, br_dec, List.map_cons, List.map_nil, List.length_cons, List.length_nil, List.replicate_succ, List.replicate_zero, List.cons_append, List.nil_append, List.getElem?_cons_zero, List.getElem?_cons_succ, List.getElem?_nil, List.set_cons_zero, List.set_cons_succ, Nat.reduceAdd, Nat.reduceSub, Nat.reduceLeDiff, Nat.zero_add, updM_same, true_and, List.isEmpty_nil, List.isEmpty_cons, Bool.not_true, Bool.not_false, Bool.not_not, q_revA, e_ra_l, e_ra_s, e_ra_t, e_ra_z, q_star, e_st_l, e_st_s, e_st_t, q_par3, e_p3, q_cont, r_mul2_i, r_mul2_l, r_mul2_s, r_le2_i, r_le2_s, r_lt2_i, r_lt2_s, r_sum, r_max2, r_min2, r_rst, r_spl, r_six, q_callX, q_callKX, q_raise, e_d1, q_try, q_tryW, q_xf, q_isX, e_cau, r_add2_i, r_add2_s, r_add2_t, r_add2_l, r_add2_rl, r_add2_lr, q_sliM, r_slM, q_kdef, q_mix21, q_mix03, at0, at1, at2, w2, ifF]
    refine lc_nums (ns := ns) hM (fun m hm => by rw [List.length_map]; exact vn m hm) (by omega) (fun G g => by simp only [q_v, q_c, q_tup, q_lst, q_op, q_nil, q_cons, q_tst, q_tru, q_andT, q_orT, q_notT, q_andV, q_orV, q_notV, q_ifE, q_next, q_seq, q_asg, q_drop, q_ret, q_retN, q_ifS, q_par, q_isi, q_blt, q_call, q_callK, q_kid, q_kswap, q_chain, q_neg, q_isN, q_notN, q_noO, q_someO, q_sli, q_rev, q_revM, q_bm, q_bm0, q_m1, q_seqI, q_rng, q_rng2, q_enum, q_zip, q_gnm, q_gtp, q_gs0, q_gs1, q_yes, q_put, e_bl, e_int, e_str, e_lst, e_n_non, e_n_bl, e_n_int, e_n_str, e_n_tup, e_n_lst, e_n_slst, e_n_dic, e_n_ref, e_seq_l, e_seq_s, e_seq_t, e_seq_z, e_rev_l, e_rev_s, e_i1, e_i2, e_l1, e_l1s, e_l2, e_p2, e_sl, e_o, e_ob, e_on, e_ml, e_md, e_c, e_tru_b, e_tru_n, e_tru_i, e_tru_t, e_tru_l, t_str_non, t_tup_non, t_int_non, t_bool_non, t_lst_non, t_dict_non, t_str_bl, t_tup_bl, t_int_bl, t_bool_bl, t_lst_bl, t_dict_bl, t_str_int, t_tup_int, t_int_int, t_bool_int, t_lst_int, t_dict_int, t_str_str, t_tup_str, t_int_str, t_bool_str, t_lst_str, t_dict_str, t_str_tup, t_tup_tup, t_int_tup, t_bool_tup, t_lst_tup, t_dict_tup, t_str_lst, t_tup_lst, t_int_lst, t_bool_lst, t_lst_lst, t_dict_lst, t_str_dic, t_tup_dic, t_int_dic, t_bool_dic, t_lst_dic, t_dict_dic, r_add_i, r_add_s, r_add_t, r_add_l, r_sub, r_mul, r_mul_l, r_fdiv, r_mod, r_pow, r_lt, r_ix_l, r_ix_t, r_ix_s, r_ix_rl, r_ix_rd, r_sl_l, r_sl_sl, r_sl_t, r_sl_s, r_len_l, r_len_sl, r_len_t, r_len_s, r_len_r, r_all, r_any, r_tuple_l, r_tuple_sl, r_tuple_t, r_tuple_r, r_list_l, r_list_sl, r_list_t, r_list_r, r_ord, r_repr, r_pop, r_app, r_ext, r_join, r_join_t, r_isl_r, r_isl_l, r_in, r_put_d, r_put_l, r_eq_i, r_eq_s, r_ne_i, r_ne_s, r_eq_t0, r_ne_t0, r_eq_r0, r_ne_r0, r_eq_l0, r_ne_l0, q_lstM, q_frz, e_fz_r, e_fz_non, e_fz_bl, e_fz_int, e_fz_str, e_fz_tup, e_fz_lst, e_fz_dic, q_drp, q_zs, e_zs_tup_tup, e_zs_tup_lst, e_zs_tup_slst, e_zs_lst_tup, e_zs_lst_lst, e_zs_lst_slst, e_zs_slst_tup, e_zs_slst_lst, e_zs_slst_slst, r_mem_s, r_mem_t, r_mem_l, r_int_i, r_int_b, r_listM_l, r_listM_sl, r_listM_t, r_start, wipeD, br_not, br_true, br_false, br_dec, List.map_cons, List.map_nil, List.length_cons, List.length_nil, List.replicate_succ, List.replicate_zero, List.cons_append, List.nil_append, List.getElem?_cons_zero, List.getElem?_cons_succ, List.getElem?_nil, List.set_cons_zero, List.set_cons_succ, Nat.reduceAdd, Nat.reduceSub, Nat.reduceLeDiff, Nat.zero_add, updM_same, true_and, List.isEmpty_nil, List.isEmpty_cons, Bool.not_true, Bool.not_false, Bool.not_not, q_revA, e_ra_l, e_ra_s, e_ra_t, e_ra_z, q_star, e_st_l, e_st_s, e_st_t, q_par3, e_p3, q_cont, r_mul2_i, r_mul2_l, r_mul2_s, r_le2_i, r_le2_s, r_lt2_i, r_lt2_s, r_sum, r_max2, r_min2, r_rst, r_spl, r_six, q_callX, q_callKX, q_raise, e_d1, q_try, q_tryW, q_xf, q_isX, e_cau, r_add2_i, r_add2_s, r_add2_t, r_add2_l, r_add2_rl, r_add2_lr, q_sliM, r_slM, q_kdef, q_mix21, q_mix03, at2]; exact g) (fun n M' G g => by simp only [q_v, q_c, q_tup, q_lst, q_op, q_nil, q_cons, q_tst, q_tru, q_andT, q_orT, q_notT, q_andV, q_orV, q_notV, q_ifE, q_next, q_seq, q_asg, q_drop, q_ret, q_retN, q_ifS, q_par, q_isi, q_blt, q_call, q_callK, q_kid, q_kswap, q_chain, q_neg, q_isN, q_notN, q_noO, q_someO, q_sli, q_rev, q_revM, q_bm, q_bm0, q_m1, q_seqI, q_rng, q_rng2, q_enum, q_zip, q_gnm, q_gtp, q_gs0, q_gs1, q_yes, q_put, e_bl, e_int, e_str, e_lst, e_n_non, e_n_bl, e_n_int, e_n_str, e_n_tup, e_n_lst, e_n_slst, e_n_dic, e_n_ref, e_seq_l, e_seq_s, e_seq_t, e_seq_z, e_rev_l, e_rev_s, e_i1, e_i2, e_l1, e_l1s, e_l2, e_p2, e_sl, e_o, e_ob, e_on, e_ml, e_md, e_c, e_tru_b, e_tru_n, e_tru_i, e_tru_t, e_tru_l, t_str_non, t_tup_non, t_int_non, t_bool_non, t_lst_non, t_dict_non, t_str_bl, t_tup_bl, t_int_bl, t_bool_bl, t_lst_bl, t_dict_bl, t_str_int, t_tup_int, t_int_int, t_bool_int, t_lst_int, t_dict_int, t_str_str, t_tup_str, t_int_str, t_bool_str, t_lst_str, t_dict_str, t_str_tup, t_tup_tup, t_int_tup, t_bool_tup, t_lst_tup, t_dict_tup, t_str_lst, t_tup_lst, t_int_lst, t_bool_lst, t_lst_lst, t_dict_lst, t_str_dic, t_tup_dic, t_int_dic, t_bool_dic, t_lst_dic, t_dict_dic, r_add_i, r_add_s, r_add_t, r_add_l, r_sub, r_mul, r_mul_l, r_fdiv, r_mod, r_pow, r_lt, r_ix_l, r_ix_t, r_ix_s, r_ix_rl, r_ix_rd, r_sl_l, r_sl_sl, r_sl_t, r_sl_s, r_len_l, r_len_sl, r_len_t, r_len_s, r_len_r, r_all, r_any, r_tuple_l, r_tuple_sl, r_tuple_t, r_tuple_r, r_list_l, r_list_sl, r_list_t, r_list_r, r_ord, r_repr, r_pop, r_app, r_ext, r_join, r_join_t, r_isl_r, r_isl_l, r_in, r_put_d, r_put_l, r_eq_i, r_eq_s, r_ne_i, r_ne_s, r_eq_t0, r_ne_t0, r_eq_r0, r_ne_r0, r_eq_l0, r_ne_l0, q_lstM, q_frz, e_fz_r, e_fz_non, e_fz_bl, e_fz_int, e_fz_str, e_fz_tup, e_fz_lst, e_fz_dic, q_drp, q_zs, e_zs_tup_tup, e_zs_tup_lst, e_zs_tup_slst, e_zs_lst_tup, e_zs_lst_lst, e_zs_lst_slst, e_zs_slst_tup, e_zs_slst_lst, e_zs_slst_slst, r_mem_s, r_mem_t, r_mem_l, r_int_i, r_int_b, r_listM_l, r_listM_sl, r_listM_t, r_start, wipeD, br_not, br_true, br_false, br_dec, List.map_cons, List.map_nil, List.length_cons, List.length_nil, List.replicate_succ, List.replicate_zero, List.cons_append, List.nil_append, List.getElem?_cons_zero, List.getElem?_cons_succ, List.getElem?_nil, List.set_cons_zero, List.set_cons_succ, Nat.reduceAdd, Nat.reduceSub, Nat.reduceLeDiff, Nat.zero_add, updM_same, true_and, List.isEmpty_nil, List.isEmpty_cons, Bool.not_true, Bool.not_false, Bool.not_not, q_revA, e_ra_l, e_ra_s, e_ra_t, e_ra_z, q_star, e_st_l, e_st_s, e_st_t, q_par3, e_p3, q_cont, r_mul2_i, r_mul2_l, r_mul2_s, r_le2_i, r_le2_s, r_lt2_i, r_lt2_s, r_sum, r_max2, r_min2, r_rst, r_spl, r_six, q_callX, q_callKX, q_raise, e_d1, q_try, q_tryW, q_xf, q_isX, e_cau, r_add2_i, r_add2_s, r_add2_t, r_add2_l, r_add2_rl, r_add2_lr, q_sliM, r_slM, q_kdef, q_mix21, q_mix03]; exact g) ?_
    obtain ⟨a1, a2⟩ := sum_nD (ns.map fun n => (fs.map List.length).getD n 0)
    simp only [q_v, q_c, q_tup, q_lst, q_op, q_nil, q_cons, q_tst, q_tru, q_andT, q_orT, q_notT, q_andV, q_orV, q_notV, q_ifE, q_next, q_seq, q_asg, q_drop, q_ret, q_retN, q_ifS, q_par, q_isi, q_blt, q_call, q_callK, q_kid, q_kswap, q_chain, q_neg, q_isN, q_notN, q_noO, q_someO, q_sli, q_rev, q_revM, q_bm, q_bm0, q_m1, q_seqI, q_rng, q_rng2, q_enum, q_zip, q_gnm, q_gtp, q_gs0, q_gs1, q_yes, q_put, e_bl, e_int, e_str, e_lst, e_n_non, e_n_bl, e_n_int, e_n_str, e_n_tup, e_n_lst, e_n_slst, e_n_dic, e_n_ref, e_seq_l, e_seq_s, e_seq_t, e_seq_z, e_rev_l, e_rev_s, e_i1, e_i2, e_l1, e_l1s, e_l2, e_p2, e_sl, e_o, e_ob, e_on, e_ml, e_md, e_c, e_tru_b, e_tru_n, e_tru_i, e_tru_t, e_tru_l, t_str_non, t_tup_non, t_int_non, t_bool_non, t_lst_non, t_dict_non, t_str_bl, t_tup_bl, t_int_bl, t_bool_bl, t_lst_bl, t_dict_bl, t_str_int, t_tup_int, t_int_int, t_bool_int, t_lst_int, t_dict_int, t_str_str, t_tup_str, t_int_str, t_bool_str, t_lst_str, t_dict_str, t_str_tup, t_tup_tup, t_int_tup, t_bool_tup, t_lst_tup, t_dict_tup, t_str_lst, t_tup_lst, t_int_lst, t_bool_lst, t_lst_lst, t_dict_lst, t_str_dic, t_tup_dic, t_int_dic, t_bool_dic, t_lst_dic, t_dict_dic, r_add_i, r_add_s, r_add_t, r_add_l, r_sub, r_mul, r_mul_l, r_fdiv, r_mod, r_pow, r_lt, r_ix_l, r_ix_t, r_ix_s, r_ix_rl, r_ix_rd, r_sl_l, r_sl_sl, r_sl_t, r_sl_s, r_len_l, r_len_sl, r_len_t, r_len_s, r_len_r, r_all, r_any, r_tuple_l, r_tuple_sl, r_tuple_t, r_tuple_r, r_list_l, r_list_sl, r_list_t, r_list_r, r_ord, r_repr, r_pop, r_app, r_ext, r_join, r_join_t, r_isl_r, r_isl_l, r_in, r_put_d, r_put_l, r_eq_i, r_eq_s, r_ne_i, r_ne_s, r_eq_t0, r_ne_t0, r_eq_r0, r_ne_r0, r_eq_l0, r_ne_l0, q_lstM, q_frz, e_fz_r, e_fz_non, e_fz_bl, e_fz_int, e_fz_str, e_fz_tup, e_fz_lst, e_fz_dic, q_drp, q_zs, e_zs_tup_tup, e_zs_tup_lst, e_zs_tup_slst, e_zs_lst_tup, e_zs_lst_lst, e_zs_lst_slst, e_zs_slst_tup, e_zs_slst_lst, e_zs_slst_slst, r_mem_s, r_mem_t, r_mem_l, r_int_i, r_int_b, r_listM_l, r_listM_sl, r_listM_t, r_start, wipeD, br_not, br_true, br_false, br_dec, List.map_cons, List.map_nil, List.length_cons, List.length_nil, List.replicate_succ, List.replicate_zero, List.cons_append, List.nil_append, List.getElem?_cons_zero, List.getElem?_cons_succ, List.getElem?_nil, List.set_cons_zero, List.set_cons_succ, Nat.reduceAdd, Nat.reduceSub, Nat.reduceLeDiff, Nat.zero_add, updM_same, true_and, List.isEmpty_nil, List.isEmpty_cons, Bool.not_true, Bool.not_false, Bool.not_not, q_revA, e_ra_l, e_ra_s, e_ra_t, e_ra_z, q_star, e_st_l, e_st_s, e_st_t, q_par3, e_p3, q_cont, r_mul2_i, r_mul2_l, r_mul2_s, r_le2_i, r_le2_s, r_lt2_i, r_lt2_s, r_sum, r_max2, r_min2, r_rst, r_spl, r_six, q_callX, q_callKX, q_raise, e_d1, q_try, q_tryW, q_xf, q_isX, e_cau, r_add2_i, r_add2_s, r_add2_t, r_add2_l, r_add2_rl, r_add2_lr, q_sliM, r_slM, q_kdef, q_mix21, q_mix03, at0, w11, w5, ifT, ifF, a1, List.length_map]
    refine ⟨a2, ?_⟩
    have : (exI (parts (.call n ns)) fs).length = (ns.map fun n => (fs.map List.length).getD n 0).sum + (2 + max 1 ns.length) := by
      have bl := btw_len (ns.map fun m => fs.getD m [])
      have e : exI (parts (.call n ns)) fs = n :: sO :: (btw (ns.map fun m => fs.getD m []) ++ [sX]) := by
        show exI (.inl n :: .inl sO :: (listed ns ++ [.inl sX])) fs = _
        rw [← ex_listed]
        simp [exI, exP]
      rw [map_getD, e]
      rw [List.length_map] at bl
      simp only [List.length_cons, List.length_append, List.length_nil]
      omega
    rw [this] at h
    have e2 : nD ((ns.map fun n => (fs.map List.length).getD n 0).sum + (2 + max 1 ns.length)) = .int ((((ns.map fun n => (fs.map List.length).getD n 0).sum : Nat) : Int) + (2 + max 1 (ns.length : Int))) := by
      unfold nD
      congr 1
      omega
    rw [e2] at h
    exact h
  | meth n a ns =>
    have h4' : ns.length ≤ 4 := h4
    have va : a < fs.length := hv a (by unfold parts; simp)
    have vn : ∀ m ∈ ns, m < fs.length := fun m hm => hv m (by unfold parts; simp [listed_mem hm])
    simp only [T_l_size, sD, q_v, q_c, q_tup, q_lst, q_op, q_nil, q_cons, q_tst, q_tru, q_andT, q_orT, q_notT, q_andV, q_orV, q_notV, q_ifE, q_next, q_seq, q_asg, q_drop, q_ret, q_retN, q_ifS, q_par, q_isi, q_blt, q_call, q_callK, q_kid, q_kswap, q_chain, q_neg, q_isN, q_notN, q_noO, q_someO, q_sli, q_rev, q_revM, q_bm, q_bm0, q_m1, q_seqI, q_rng, q_rng2, q_enum, q_zip, q_gnm, q_gtp, q_gs0, q_gs1, q_yes, q_put, e_bl, e_int, e_str, e_lst, e_n_non, e_n_bl, e_n_int, e_n_str, e_n_tup, e_n_lst, e_n_slst, e_n_dic, e_n_ref, e_seq_l, e_seq_s, e_seq_t, e_seq_z, e_rev_l, e_rev_s, e_i1, e_i2, e_l1, e_l1s, e_l2, e_p2, e_sl, e_o, e_ob, e_on, e_ml, e_md, e_c, e_tru_b, e_tru_n, e_tru_i, e_tru_t, e_tru_l, t_str_non, t_tup_non, t_int_non, t_bool_non, t_lst_non, t_dict_non, t_str_bl, t_tup_bl, t_int_bl, t_bool_bl, t_lst_bl, t_dict_bl, t_str_int, t_tup_int, t_int_int, t_bool_int, t_lst_int, t_dict_int, t_str_str, t_tup_str, t_int_str, t_bool_str, t_lst_str, t_dict_str, t_str_tup, t_tup_tup, t_int_tup, t_bool_tup, t_lst_tup, t_dict_tup, t_str_lst, t_tup_lst, t_int_lst, t_bool_lst, t_lst_lst, t_dict_lst, t_str_dic, t_tup_dic, t_int_dic, t_bool_dic, t_lst_dic, t_dict_dic, r_add_i, r_add_s, r_add_t, r_add_l, r_sub, r_mul, r_mul_l, r_fdiv, r_mod, r_pow, r_lt, r_ix_l, r_ix_t, r_ix_s, r_ix_rl, r_ix_rd, r_sl_l, r_sl_sl, r_sl_t, r_sl_s, r_len_l, r_len_sl, r_len_t, r_len_s, r_len_r, r_all, r_any, r_tuple_l, r_tuple_sl, r_tuple_t, r_tuple_r, r_list_l, r_list_sl, r_list_t, r_list_r, r_ord, r_repr, r_pop, r_app, r_ext, r_join, r_join_t, r_isl_r, r_isl_l, r_in, r_put_d, r_put_l, r_eq_i, r_eq_s, r_ne_i, r_ne_s, r_eq_t0, r_ne_t0, r_eq_r0, r_ne_r0, r_eq_l0, r_ne_l0, q_lstM, q_frz, e_fz_r, e_fz_non, e_fz_bl, e_fz_int, e_fz_str, e_fz_tup, e_fz_lst, e_fz_dic, q_drp, q_zs, e_zs_tup_tup, e_zs_tup_lst, e_zs_tup_slst, e_zs_lst_tup, e_zs_lst_lst, e_zs_lst_slst, e_zs_slst_tup, e_zs_slst_lst, e_zs_slst_slst, r_mem_s, r_mem_t, r_mem_l, r_int_i, r_int_b, r_listM_l, r_listM_sl, r_listM_t, r_start, wipeD, br_not, br_true, br_false, br_dec, List.map_cons, List.map_nil, List.length_cons, List.length_nil, List.replicate_succ, List.replicate_zero, List.cons_append, List.nil_append, List.getElem?_cons_zero, List.getElem?_cons_succ, List.getElem?_nil, List.set_cons_zero, List.set_cons_succ, Nat.reduceAdd, Nat.reduceSub, Nat.reduceLeDiff, Nat.zero_add, updM_same, true_and, List.isEmpty_nil, List.isEmpty_cons, Bool.not_true, Bool.not_false, Bool.not_not, q_revA, e_ra_l, e_ra_s, e_ra_t, e_ra_z, q_star, e_st_l, e_st_s, e_st_t, q_par3, e_p3, q_cont, r_mul2_i, r_mul2_l, r_mul2_s, r_le2_i, r_le2_s, r_lt2_i, r_lt2_s, r_sum, r_max2, r_min2, r_rst, r_spl, r_six, q_callX, q_callKX, q_raise, e_d1, q_try, q_tryW, q_xf, q_isX, e_cau, r_add2_i, r_add2_s, r_add2_t, r_add2_l, r_add2_rl, r_add2_lr, q_sliM, r_slM, q_kdef, q_mix21, q_mix03, at0, at1, at2, w3, ifF]
    refine lc_nums (ns := a :: ns) hM (fun m hm => ?_) (by rw [List.length_cons]; omega) (fun G g => by simp only [q_v, q_c, q_tup, q_lst, q_op, q_nil, q_cons, q_tst, q_tru, q_andT, q_orT, q_notT, q_andV, q_orV, q_notV, q_ifE, q_next, q_seq, q_asg, q_drop, q_ret, q_retN, q_ifS, q_par, q_isi, q_blt, q_call, q_callK, q_kid, q_kswap, q_chain, q_neg, q_isN, q_notN, q_noO, q_someO, q_sli, q_rev, q_revM, q_bm, q_bm0, q_m1, q_seqI, q_rng, q_rng2, q_enum, q_zip, q_gnm, q_gtp, q_gs0, q_gs1, q_yes, q_put, e_bl, e_int, e_str, e_lst, e_n_non, e_n_bl, e_n_int, e_n_str, e_n_tup, e_n_lst, e_n_slst, e_n_dic, e_n_ref, e_seq_l, e_seq_s, e_seq_t, e_seq_z, e_rev_l, e_rev_s, e_i1, e_i2, e_l1, e_l1s, e_l2, e_p2, e_sl, e_o, e_ob, e_on, e_ml, e_md, e_c, e_tru_b, e_tru_n, e_tru_i, e_tru_t, e_tru_l, t_str_non, t_tup_non, t_int_non, t_bool_non, t_lst_non, t_dict_non, t_str_bl, t_tup_bl, t_int_bl, t_bool_bl, t_lst_bl, t_dict_bl, t_str_int, t_tup_int, t_int_int, t_bool_int, t_lst_int, t_dict_int, t_str_str, t_tup_str, t_int_str, t_bool_str, t_lst_str, t_dict_str, t_str_tup, t_tup_tup, t_int_tup, t_bool_tup, t_lst_tup, t_dict_tup, t_str_lst, t_tup_lst, t_int_lst, t_bool_lst, t_lst_lst, t_dict_lst, t_str_dic, t_tup_dic, t_int_dic, t_bool_dic, t_lst_dic, t_dict_dic, r_add_i, r_add_s, r_add_t, r_add_l, r_sub, r_mul, r_mul_l, r_fdiv, r_mod, r_pow, r_lt, r_ix_l, r_ix_t, r_ix_s, r_ix_rl, r_ix_rd, r_sl_l, r_sl_sl, r_sl_t, r_sl_s, r_len_l, r_len_sl, r_len_t, r_len_s, r_len_r, r_all, r_any, r_tuple_l, r_tuple_sl, r_tuple_t, r_tuple_r, r_list_l, r_list_sl, r_list_t, r_list_r, r_ord, r_repr, r_pop, r_app, r_ext, r_join, r_join_t, r_isl_r, r_isl_l, r_in, r_put_d, r_put_l, r_eq_i, r_eq_s, r_ne_i, r_ne_s, r_eq_t0, r_ne_t0, r_eq_r0, r_ne_r0, r_eq_l0, r_ne_l0, q_lstM, q_frz, e_fz_r, e_fz_non, e_fz_bl, e_fz_int, e_fz_str, e_fz_tup, e_fz_lst, e_fz_dic, q_drp, q_zs, e_zs_tup_tup, e_zs_tup_lst, e_zs_tup_slst, e_zs_lst_tup, e_zs_lst_lst, e_zs_lst_slst, e_zs_slst_tup, e_zs_slst_lst, e_zs_slst_slst, r_mem_s, r_mem_t, r_mem_l, r_int_i, r_int_b, r_listM_l, r_listM_sl, r_listM_t, r_start, wipeD, br_not, br_true, br_false, br_dec, List.map_cons, List.map_nil, List.length_cons, List.length_nil, List.replicate_succ, List.replicate_zero, List.cons_append, List.nil_append, List.getElem?_cons_zero, List.getElem?_cons_succ, List.getElem?_nil, List.set_cons_zero, List.set_cons_succ, Nat.reduceAdd, Nat.reduceSub, Nat.reduceLeDiff, Nat.zero_add, updM_same, true_and, List.isEmpty_nil, List.isEmpty_cons, Bool.not_true, Bool.not_false, Bool.not_not, q_revA, e_ra_l, e_ra_s, e_ra_t, e_ra_z, q_star, e_st_l, e_st_s, e_st_t, q_par3, e_p3, q_cont, r_mul2_i, r_mul2_l, r_mul2_s, r_le2_i, r_le2_s, r_lt2_i, r_lt2_s, r_sum, r_max2, r_min2, r_rst, r_spl, r_six, q_callX, q_callKX, q_raise, e_d1, q_try, q_tryW, q_xf, q_isX, e_cau, r_add2_i, r_add2_s, r_add2_t, r_add2_l, r_add2_rl, r_add2_lr, q_sliM, r_slM, q_kdef, q_mix21, q_mix03, at2]; exact g) (fun n M' G g => by simp only [q_v, q_c, q_tup, q_lst, q_op, q_nil, q_cons, q_tst, q_tru, q_andT, q_orT, q_notT, q_andV, q_orV, q_notV, q_ifE, q_next, q_seq, q_asg, q_drop, q_ret, q_retN, q_ifS, q_par, q_isi, q_blt, q_call, q_callK, q_kid, q_kswap, q_chain, q_neg, q_isN, q_notN, q_noO, q_someO, q_sli, q_rev, q_revM, q_bm, q_bm0, q_m1, q_seqI, q_rng, q_rng2, q_enum, q_zip, q_gnm, q_gtp, q_gs0, q_gs1, q_yes, q_put, e_bl, e_int, e_str, e_lst, e_n_non, e_n_bl, e_n_int, e_n_str, e_n_tup, e_n_lst, e_n_slst, e_n_dic, e_n_ref, e_seq_l, e_seq_s, e_seq_t, e_seq_z, e_rev_l, e_rev_s, e_i1, e_i2, e_l1, e_l1s, e_l2, e_p2, e_sl, e_o, e_ob, e_on, e_ml, e_md, e_c, e_tru_b, e_tru_n, e_tru_i, e_tru_t, e_tru_l, t_str_non, t_tup_non, t_int_non, t_bool_non, t_lst_non, t_dict_non, t_str_bl, t_tup_bl, t_int_bl, t_bool_bl, t_lst_bl, t_dict_bl, t_str_int, t_tup_int, t_int_int, t_bool_int, t_lst_int, t_dict_int, t_str_str, t_tup_str, t_int_str, t_bool_str, t_lst_str, t_dict_str, t_str_tup, t_tup_tup, t_int_tup, t_bool_tup, t_lst_tup, t_dict_tup, t_str_lst, t_tup_lst, t_int_lst, t_bool_lst, t_lst_lst, t_dict_lst, t_str_dic, t_tup_dic, t_int_dic, t_bool_dic, t_lst_dic, t_dict_dic, r_add_i, r_add_s, r_add_t, r_add_l, r_sub, r_mul, r_mul_l, r_fdiv, r_mod, r_pow, r_lt, r_ix_l, r_ix_t, r_ix_s, r_ix_rl, r_ix_rd, r_sl_l, r_sl_sl, r_sl_t, r_sl_s, r_len_l, r_len_sl, r_len_t, r_len_s, r_len_r, r_all, r_any, r_tuple_l, r_tuple_sl, r_tuple_t, r_tuple_r, r_list_l, r_list_sl, r_list_t, r_list_r, r_ord, r_repr, r_pop, r_app, r_ext, r_join, r_join_t, r_isl_r, r_isl_l, r_in, r_put_d, r_put_l, r_eq_i, r_eq_s, r_ne_i, r_ne_s, r_eq_t0, r_ne_t0, r_eq_r0, r_ne_r0, r_eq_l0, r_ne_l0, q_lstM, q_frz, e_fz_r, e_fz_non, e_fz_bl, e_fz_int, e_fz_str, e_fz_tup, e_fz_lst, e_fz_dic, q_drp, q_zs, e_zs_tup_tup, e_zs_tup_lst, e_zs_tup_slst, e_zs_lst_tup, e_zs_lst_lst, e_zs_lst_slst, e_zs_slst_tup, e_zs_slst_lst, e_zs_slst_slst, r_mem_s, r_mem_t, r_mem_l, r_int_i, r_int_b, r_listM_l, r_listM_sl, r_listM_t, r_start, wipeD, br_not, br_true, br_false, br_dec, List.map_cons, List.map_nil, List.length_cons, List.length_nil, List.replicate_succ, List.replicate_zero, List.cons_append, List.nil_append, List.getElem?_cons_zero, List.getElem?_cons_succ, List.getElem?_nil, List.set_cons_zero, List.set_cons_succ, Nat.reduceAdd, Nat.reduceSub, Nat.reduceLeDiff, Nat.zero_add, updM_same, true_and, List.isEmpty_nil, List.isEmpty_cons, Bool.not_true, Bool.not_false, Bool.not_not, q_revA, e_ra_l, e_ra_s, e_ra_t, e_ra_z, q_star, e_st_l, e_st_s, e_st_t, q_par3, e_p3, q_cont, r_mul2_i, r_mul2_l, r_mul2_s, r_le2_i, r_le2_s, r_lt2_i, r_lt2_s, r_sum, r_max2, r_min2, r_rst, r_spl, r_six, q_callX, q_callKX, q_raise, e_d1, q_try, q_tryW, q_xf, q_isX, e_cau, r_add2_i, r_add2_s, r_add2_t, r_add2_l, r_add2_rl, r_add2_lr, q_sliM, r_slM, q_kdef, q_mix21, q_mix03]; exact g) ?_
    · rw [List.length_map]
      rcases List.mem_cons.mp hm with e | hm
      · rw [e]; exact va
      · exact vn m hm
    · obtain ⟨a1, a2⟩ := sum_nD ((a :: ns).map fun n => (fs.map List.length).getD n 0)
      simp only [q_v, q_c, q_tup, q_lst, q_op, q_nil, q_cons, q_tst, q_tru, q_andT, q_orT, q_notT, q_andV, q_orV, q_notV, q_ifE, q_next, q_seq, q_asg, q_drop, q_ret, q_retN, q_ifS, q_par, q_isi, q_blt, q_call, q_callK, q_kid, q_kswap, q_chain, q_neg, q_isN, q_notN, q_noO, q_someO, q_sli, q_rev, q_revM, q_bm, q_bm0, q_m1, q_seqI, q_rng, q_rng2, q_enum, q_zip, q_gnm, q_gtp, q_gs0, q_gs1, q_yes, q_put, e_bl, e_int, e_str, e_lst, e_n_non, e_n_bl, e_n_int, e_n_str, e_n_tup, e_n_lst, e_n_slst, e_n_dic, e_n_ref, e_seq_l, e_seq_s, e_seq_t, e_seq_z, e_rev_l, e_rev_s, e_i1, e_i2, e_l1, e_l1s, e_l2, e_p2, e_sl, e_o, e_ob, e_on, e_ml, e_md, e_c, e_tru_b, e_tru_n, e_tru_i, e_tru_t, e_tru_l, t_str_non, t_tup_non, t_int_non, t_bool_non, t_lst_non, t_dict_non, t_str_bl, t_tup_bl, t_int_bl, t_bool_bl, t_lst_bl, t_dict_bl, t_str_int, t_tup_int, t_int_int, t_bool_int, t_lst_int, t_dict_int, t_str_str, t_tup_str, t_int_str, t_bool_str, t_lst_str, t_dict_str, t_str_tup, t_tup_tup, t_int_tup, t_bool_tup, t_lst_tup, t_dict_tup, t_str_lst, t_tup_lst, t_int_lst, t_bool_lst, t_lst_lst, t_dict_lst, t_str_dic, t_tup_dic, t_int_dic, t_bool_dic, t_lst_dic, t_dict_dic, r_add_i, r_add_s, r_add_t, r_add_l, r_sub, r_mul, r_mul_l, r_fdiv, r_mod, r_pow, r_lt, r_ix_l, r_ix_t, r_ix_s, r_ix_rl, r_ix_rd, r_sl_l, r_sl_sl, r_sl_t, r_sl_s, r_len_l, r_len_sl, r_len_t, r_len_s, r_len_r, r_all, r_any, r_tuple_l, r_tuple_sl, r_tuple_t, r_tuple_r, r_list_l, r_list_sl, r_list_t, r_list_r, r_ord, r_repr, r_pop, r_app, r_ext, r_join, r_join_t, r_isl_r, r_isl_l, r_in, r_put_d, r_put_l, r_eq_i, r_eq_s, r_ne_i, r_ne_s, r_eq_t0, r_ne_t0, r_eq_r0, r_ne_r0, r_eq_l0, r_ne_l0, q_lstM, q_frz, e_fz_r, e_fz_non, e_fz_bl, e_fz_int, e_fz_str, e_fz_tup, e_fz_lst, e_fz_dic, q_drp, q_zs, e_zs_tup_tup, e_zs_tup_lst, e_zs_tup_slst, e_zs_lst_tup, e_zs_lst_lst, e_zs_lst_slst, e_zs_slst_tup, e_zs_slst_lst, e_zs_slst_slst, r_mem_s, r_mem_t, r_mem_l, r_int_i, r_int_b, r_listM_l, r_listM_sl, r_listM_t, r_start, wipeD, br_not, br_true, br_false, br_dec, List.map_cons, List.map_nil, List.length_cons, List.length_nil, List.replicate_succ, List.replicate_zero, List.cons_append, List.nil_append, List.getElem?_cons_zero, List.getElem?_cons_succ, List.getElem?_nil, List.set_cons_zero, List.set_cons_succ, Nat.reduceAdd, Nat.reduceSub, Nat.reduceLeDiff, Nat.zero_add, updM_same, true_and, List.isEmpty_nil, List.isEmpty_cons, Bool.not_true, Bool.not_false, Bool.not_not, q_revA, e_ra_l, e_ra_s, e_ra_t, e_ra_z, q_star, e_st_l, e_st_s, e_st_t, q_par3, e_p3, q_cont, r_mul2_i, r_mul2_l, r_mul2_s, r_le2_i, r_le2_s, r_lt2_i, r_lt2_s, r_sum, r_max2, r_min2, r_rst, r_spl, r_six, q_callX, q_callKX, q_raise, e_d1, q_try, q_tryW, q_xf, q_isX, e_cau, r_add2_i, r_add2_s, r_add2_t, r_add2_l, r_add2_rl, r_add2_lr, q_sliM, r_slM, q_kdef, q_mix21, q_mix03, at0, w12, w6, ifT, ifF, a1, List.length_map]
      refine ⟨a2, ?_⟩
      have : (exI (parts (.meth n a ns)) fs).length = ((a :: ns).map fun n => (fs.map List.length).getD n 0).sum + (3 + max 1 ((a :: ns).length - 1)) := by
        have bl := btw_len (ns.map fun m => fs.getD m [])
        have e : exI (parts (.meth n a ns)) fs = fs.getD a [] ++ sP :: n :: sO :: (btw (ns.map fun m => fs.getD m []) ++ [sX]) := by
          show exI (.inr a :: .inl sP :: .inl n :: .inl sO :: (listed ns ++ [.inl sX])) fs = _
          rw [← ex_listed]
          simp [exI, exP]
        rw [map_getD, e]
        rw [List.length_map] at bl
        simp only [List.length_cons, List.length_append, List.length_nil, List.map_cons, List.sum_cons]
        omega
      rw [this] at h
      have e2 : nD (((a :: ns).map fun n => (fs.map List.length).getD n 0).sum + (3 + max 1 ((a :: ns).length - 1))) = .int (((((a :: ns).map fun n => (fs.map List.length).getD n 0).sum : Nat) : Int) + (3 + max 1 (((a :: ns).length : Int) - 1))) := by
        unfold nD
        congr 1
        rw [List.length_cons]
        omega
      rw [e2] at h
      have e3 : (getInt (nD ((fs.map List.length).getD a 0)) :: List.map getInt (List.map nD (ns.map fun n => (fs.map List.length).getD n 0))).sum = (((((a :: ns).map fun n => (fs.map List.length).getD n 0).sum : Nat) : Int)) := a1
      rw [e3]
      exact h
/-! drawn steps -/
def tOk (t : Str) : Bool := t.cps.toList.all (fun c => decide (c < 1114112)) && decide (t.length ≤ 9)
structure StL (k : Nat) (s : Stp) : Prop where
  val : Val k (parts s)
  f4 : few4 s
  ch : ∀ t, Sum.inl t ∈ parts s → tOk t = true
  few : (match s with | .call _ ns => ns.length ≤ 4 | .meth _ _ ns => ns.length ≤ 3 | _ => True)
theorem listed_inr {ns : List Nat} {n : Nat} (h : Sum.inr n ∈ listed ns) : n ∈ ns := by
  unfold listed at h
  have h := List.mem_of_mem_drop h
  obtain ⟨m, hm, q⟩ := List.mem_flatMap.mp h
  simp only [List.mem_cons, List.not_mem_nil, or_false] at q
  rcases q with q | q
  · cases q
  · cases q
    exact hm
theorem listed_inl {ns : List Nat} {t : Str} (h : Sum.inl t ∈ listed ns) : t = sC := by
  unfold listed at h
  have h := List.mem_of_mem_drop h
  obtain ⟨m, hm, q⟩ := List.mem_flatMap.mp h
  simp only [List.mem_cons, List.not_mem_nil, or_false] at q
  rcases q with q | q
  · cases q
    rfl
  · cases q
theorem tC : tOk sC = true := by decide +kernel
theorem tO : tOk sO = true := by decide +kernel
theorem tX : tOk sX = true := by decide +kernel
theorem tP : tOk sP = true := by decide +kernel
theorem stl_tok {k : Nat} {t : Str} (h : tOk t = true) : StL k (.tok t) := by
  refine ⟨fun n hn => ?_, trivial, fun u hu => ?_, trivial⟩
  · cases List.mem_singleton.mp hn
  · cases List.mem_singleton.mp hu
    exact h
theorem stl_oper {k a b : Nat} {n : Str} (h : tOk n = true) (ha : a < k) (hb : b < k) : StL k (.oper n a b) := by
  refine ⟨fun m hm => ?_, trivial, fun u hu => ?_, trivial⟩
  · unfold parts at hm
    simp only [List.mem_cons, List.not_mem_nil, or_false, reduceCtorEq, false_or, Sum.inr.injEq] at hm
    rcases hm with e | e <;> (rw [e]; assumption)
  · unfold parts at hu
    simp only [List.mem_cons, List.not_mem_nil, or_false, reduceCtorEq, false_or, Sum.inl.injEq] at hu
    rcases hu with e | e | e
    · rw [e]; exact tO
    · rw [e]; exact h
    · rw [e]; exact tX
theorem stl_call {k : Nat} {n : Str} {ns : List Nat} (h : tOk n = true) (hn : ∀ m ∈ ns, m < k) (hl : ns.length ≤ 4) : StL k (.call n ns) := by
  refine ⟨fun m hm => ?_, hl, fun u hu => ?_, hl⟩
  · unfold parts at hm
    simp only [List.mem_cons, List.mem_append, List.not_mem_nil, or_false, reduceCtorEq, false_or] at hm
    exact hn m (listed_inr hm)
  · unfold parts at hu
    simp only [List.mem_cons, List.mem_append, List.not_mem_nil, or_false, Sum.inl.injEq] at hu
    rcases hu with e | e | e | e
    · rw [e]; exact h
    · rw [e]; exact tO
    · rw [listed_inl e]; exact tC
    · rw [e]; exact tX
theorem stl_meth {k a : Nat} {n : Str} {ns : List Nat} (h : tOk n = true) (ha : a < k) (hn : ∀ m ∈ ns, m < k) (hl : ns.length ≤ 3) : StL k (.meth n a ns) := by
  refine ⟨fun m hm => ?_, (show ns.length ≤ 4 by omega), fun u hu => ?_, hl⟩
  · unfold parts at hm
    simp only [List.mem_cons, List.mem_append, List.not_mem_nil, or_false, reduceCtorEq, false_or, Sum.inr.injEq] at hm
    rcases hm with e | e
    · rw [e]; exact ha
    · exact hn m (listed_inr e)
  · unfold parts at hu
    simp only [List.mem_cons, List.mem_append, List.not_mem_nil, or_false, reduceCtorEq, false_or, Sum.inl.injEq] at hu
    rcases hu with e | e | e | e | e
    · rw [e]; exact tP
    · rw [e]; exact h
    · rw [e]; exact tO
    · rw [listed_inl e]; exact tC
    · rw [e]; exact tX
def R_l_step : RD := fun xs M F => ∃ (a c : Addr) (k : Nat), xs = [.ref a, nD k] ∧ HandAt M a c ∧ k ≤ 1000 ∧ ∀ s M', StL k s → HandAt M' a c → Oth a c M M' → F (sD s) M'
theorem ln_l_step : ∀ xs M F, R_l_step xs M F → xs.length = 2 := fun xs M F ⟨p, L, f, e, _⟩ => by rw [e]; rfl
theorem nums_of : ∀ {k : Nat} {ys : List D}, (∀ y ∈ ys, ∃ n : Nat, y = nD n ∧ n < k) → ∃ ns : List Nat, ys = ns.map nD ∧ ∀ m ∈ ns, m < k
  | _, [], _ => ⟨[], rfl, fun _ h => by cases h⟩
  | k, y :: ys, h => by
    obtain ⟨n, rfl, hn⟩ := h y List.mem_cons_self
    obtain ⟨ns, rfl, hns⟩ := nums_of fun z hz => h z (List.mem_cons_of_mem _ hz)
    refine ⟨n :: ns, rfl, fun m hm => ?_⟩
    rcases List.mem_cons.mp hm with rfl | hm
    · exact hn
    · exact hns m hm
theorem rd_l_step : ∀ ds M F, R_l_step ds M F → T_l_step R_pick R_draw { nx := fun _ M' => F .non M', rt := F } (startD 7 ds) M := by
  intro ds M F ⟨a, c, k, e, hd, hk, hF⟩
  subst e
  simp only [T_l_step, nD, q_v, q_c, q_tup, q_lst, q_op, q_nil, q_cons, q_tst, q_tru, q_andT, q_orT, q_notT, q_andV, q_orV, q_notV, q_ifE, q_next, q_seq, q_asg, q_drop, q_ret, q_retN, q_ifS, q_par, q_isi, q_blt, q_call, q_callK, q_kid, q_kswap, q_chain, q_neg, q_isN, q_notN, q_noO, q_someO, q_sli, q_rev, q_revM, q_bm, q_bm0, q_m1, q_seqI, q_rng, q_rng2, q_enum, q_zip, q_gnm, q_gtp, q_gs0, q_gs1, q_yes, q_put, e_bl, e_int, e_str, e_lst, e_n_non, e_n_bl, e_n_int, e_n_str, e_n_tup, e_n_lst, e_n_slst, e_n_dic, e_n_ref, e_seq_l, e_seq_s, e_seq_t, e_seq_z, e_rev_l, e_rev_s, e_i1, e_i2, e_l1, e_l1s, e_l2, e_p2, e_sl, e_o, e_ob, e_on, e_ml, e_md, e_c, e_tru_b, e_tru_n, e_tru_i, e_tru_t, e_tru_l, t_str_non, t_tup_non, t_int_non, t_bool_non, t_lst_non, t_dict_non, t_str_bl, t_tup_bl, t_int_bl, t_bool_bl, t_lst_bl, t_dict_bl, t_str_int, t_tup_int, t_int_int, t_bool_int, t_lst_int, t_dict_int, t_str_str, t_tup_str, t_int_str, t_bool_str, t_lst_str, t_dict_str, t_str_tup, t_tup_tup, t_int_tup, t_bool_tup, t_lst_tup, t_dict_tup, t_str_lst, t_tup_lst, t_int_lst, t_bool_lst, t_lst_lst, t_dict_lst, t_str_dic, t_tup_dic, t_int_dic, t_bool_dic, t_lst_dic, t_dict_dic, r_add_i, r_add_s, r_add_t, r_add_l, r_sub, r_mul, r_mul_l, r_fdiv, r_mod, r_pow, r_lt, r_ix_l, r_ix_t, r_ix_s, r_ix_rl, r_ix_rd, r_sl_l, r_sl_sl, r_sl_t, r_sl_s, r_len_l, r_len_sl, r_len_t, r_len_s, r_len_r, r_all, r_any, r_tuple_l, r_tuple_sl, r_tuple_t, r_tuple_r, r_list_l, r_list_sl, r_list_t, r_list_r, r_ord, r_repr, r_pop, r_app, r_ext, r_join, r_join_t, r_isl_r, r_isl_l, r_in, r_put_d, r_put_l, r_eq_i, r_eq_s, r_ne_i, r_ne_s, r_eq_t0, r_ne_t0, r_eq_r0, r_ne_r0, r_eq_l0, r_ne_l0, q_lstM, q_frz, e_fz_r, e_fz_non, e_fz_bl, e_fz_int, e_fz_str, e_fz_tup, e_fz_lst, e_fz_dic, q_drp, q_zs, e_zs_tup_tup, e_zs_tup_lst, e_zs_tup_slst, e_zs_lst_tup, e_zs_lst_lst, e_zs_lst_slst, e_zs_slst_tup, e_zs_slst_lst, e_zs_slst_slst, r_mem_s, r_mem_t, r_mem_l, r_int_i, r_int_b, r_listM_l, r_listM_sl, r_listM_t, r_start, wipeD, br_not, br_true, br_false, br_dec, List.map_cons, List.map_nil, List.length_cons, List.length_nil, List.replicate_succ, List.replicate_zero, List.cons_append, List.nil_append, List.getElem?_cons_zero, List.getElem?_cons_succ, List.getElem?_nil, List.set_cons_zero, List.set_cons_succ, Nat.reduceAdd, Nat.reduceSub, Nat.reduceLeDiff, Nat.zero_add, updM_same, true_and, List.isEmpty_nil, List.isEmpty_cons, Bool.not_true, Bool.not_false, Bool.not_not, q_revA, e_ra_l, e_ra_s, e_ra_t, e_ra_z, q_star, e_st_l, e_st_s, e_st_t, q_par3, e_p3, q_cont, r_mul2_i, r_mul2_l, r_mul2_s, r_le2_i, r_le2_s, r_lt2_i, r_lt2_s, r_sum, r_max2, r_min2, r_rst, r_spl, r_six, q_callX, q_callKX, q_raise, e_d1, q_try, q_tryW, q_xf, q_isX, e_cau, r_add2_i, r_add2_s, r_add2_t, r_add2_l, r_add2_rl, r_add2_lr, q_sliM, r_slM, q_kdef, q_mix21, q_mix03, q_lc]
  refine ⟨c, hd, by decide, by decide, fun d M1 hm h1 o1 => ?_⟩
  have tok : ∀ (x : D) M', x ∈ [D.str (Str.ofString "x"), D.str (Str.ofString "0"), D.str (Str.ofString "123456789"), D.str (Str.ofString "\"\""), D.str (Str.ofString "\"a  z\""), D.str (Str.ofString "zzzzzzzz"), D.str (Str.ofString "letx")] → HandAt M' a c → Oth a c M M' → F (.tup [.str (Str.ofString "token"), x]) M' := fun x M' hx h2 o2 => by
    simp only [List.mem_cons, List.not_mem_nil, or_false] at hx
    rcases hx with e | e | e | e | e | e | e <;> (rw [e]; exact hF (.tok _) M' (stl_tok (by decide +kernel)) h2 o2)
  have pick5 : ∀ (x : D), x ∈ [D.str (Str.ofString "f"), D.str (Str.ofString "call"), D.str (Str.ofString "token"), D.str (Str.ofString "g"), D.str (Str.ofString "method")] → ∃ n, x = .str n ∧ tOk n = true := fun x hx => by
    simp only [List.mem_cons, List.not_mem_nil, or_false] at hx
    rcases hx with e | e | e | e | e <;> exact ⟨_, e, by decide +kernel⟩
  have pick7 : ∀ (x : D), x ∈ [D.str (Str.ofString "+"), D.str (Str.ofString "-"), D.str (Str.ofString "*"), D.str (Str.ofString "/"), D.str (Str.ofString "&"), D.str (Str.ofString "|"), D.str (Str.ofString "^")] → ∃ n, x = .str n ∧ tOk n = true := fun x hx => by
    simp only [List.mem_cons, List.not_mem_nil, or_false] at hx
    rcases hx with e | e | e | e | e | e | e <;> exact ⟨_, e, by decide +kernel⟩
  simp only [List.mem_cons, List.not_mem_nil, or_false] at hm
  rcases hm with e | e | e | e
  · -- token
    subst e
    simp only [q_v, q_c, q_tup, q_lst, q_op, q_nil, q_cons, q_tst, q_tru, q_andT, q_orT, q_notT, q_andV, q_orV, q_notV, q_ifE, q_next, q_seq, q_asg, q_drop, q_ret, q_retN, q_ifS, q_par, q_isi, q_blt, q_call, q_callK, q_kid, q_kswap, q_chain, q_neg, q_isN, q_notN, q_noO, q_someO, q_sli, q_rev, q_revM, q_bm, q_bm0, q_m1, q_seqI, q_rng, q_rng2, q_enum, q_zip, q_gnm, q_gtp, q_gs0, q_gs1, q_yes, q_put, e_bl, e_int, e_str, e_lst, e_n_non, e_n_bl, e_n_int, e_n_str, e_n_tup, e_n_lst, e_n_slst, e_n_dic, e_n_ref, e_seq_l, e_seq_s, e_seq_t, e_seq_z, e_rev_l, e_rev_s, e_i1, e_i2, e_l1, e_l1s, e_l2, e_p2, e_sl, e_o, e_ob, e_on, e_ml, e_md, e_c, e_tru_b, e_tru_n, e_tru_i, e_tru_t, e_tru_l, t_str_non, t_tup_non, t_int_non, t_bool_non, t_lst_non, t_dict_non, t_str_bl, t_tup_bl, t_int_bl, t_bool_bl, t_lst_bl, t_dict_bl, t_str_int, t_tup_int, t_int_int, t_bool_int, t_lst_int, t_dict_int, t_str_str, t_tup_str, t_int_str, t_bool_str, t_lst_str, t_dict_str, t_str_tup, t_tup_tup, t_int_tup, t_bool_tup, t_lst_tup, t_dict_tup, t_str_lst, t_tup_lst, t_int_lst, t_bool_lst, t_lst_lst, t_dict_lst, t_str_dic, t_tup_dic, t_int_dic, t_bool_dic, t_lst_dic, t_dict_dic, r_add_i, r_add_s, r_add_t, r_add_l, r_sub, r_mul, r_mul_l, r_fdiv, r_mod, r_pow, r_lt, r_ix_l, r_ix_t, r_ix_s, r_ix_rl, r_ix_rd, r_sl_l, r_sl_sl, r_sl_t, r_sl_s, r_len_l, r_len_sl, r_len_t, r_len_s, r_len_r, r_all, r_any, r_tuple_l, r_tuple_sl, r_tuple_t, r_tuple_r, r_list_l, r_list_sl, r_list_t, r_list_r, r_ord, r_repr, r_pop, r_app, r_ext, r_join, r_join_t, r_isl_r, r_isl_l, r_in, r_put_d, r_put_l, r_eq_i, r_eq_s, r_ne_i, r_ne_s, r_eq_t0, r_ne_t0, r_eq_r0, r_ne_r0, r_eq_l0, r_ne_l0, q_lstM, q_frz, e_fz_r, e_fz_non, e_fz_bl, e_fz_int, e_fz_str, e_fz_tup, e_fz_lst, e_fz_dic, q_drp, q_zs, e_zs_tup_tup, e_zs_tup_lst, e_zs_tup_slst, e_zs_lst_tup, e_zs_lst_lst, e_zs_lst_slst, e_zs_slst_tup, e_zs_slst_lst, e_zs_slst_slst, r_mem_s, r_mem_t, r_mem_l, r_int_i, r_int_b, r_listM_l, r_listM_sl, r_listM_t, r_start, wipeD, br_not, br_true, br_false, br_dec, List.map_cons, List.map_nil, List.length_cons, List.length_nil, List.replicate_succ, List.replicate_zero, List.cons_append, List.nil_append, List.getElem?_cons_zero, List.getElem?_cons_succ, List.getElem?_nil, List.set_cons_zero, List.set_cons_succ, Nat.reduceAdd, Nat.reduceSub, Nat.reduceLeDiff, Nat.zero_add, updM_same, true_and, List.isEmpty_nil, List.isEmpty_cons, Bool.not_true, Bool.not_false, Bool.not_not, q_revA, e_ra_l, e_ra_s, e_ra_t, e_ra_z, q_star, e_st_l, e_st_s, e_st_t, q_par3, e_p3, q_cont, r_mul2_i, r_mul2_l, r_mul2_s, r_le2_i, r_le2_s, r_lt2_i, r_lt2_s, r_sum, r_max2, r_min2, r_rst, r_spl, r_six, q_callX, q_callKX, q_raise, e_d1, q_try, q_tryW, q_xf, q_isX, e_cau, r_add2_i, r_add2_s, r_add2_t, r_add2_l, r_add2_rl, r_add2_lr, q_sliM, r_slM, q_kdef, q_mix21, q_mix03, w1, ifT]
    exact ⟨c, h1, by decide, by decide, fun x M2 hx h2 o2 => tok x M2 hx h2 (o1.trans o2)⟩
  · -- call
    subst e
    simp only [q_v, q_c, q_tup, q_lst, q_op, q_nil, q_cons, q_tst, q_tru, q_andT, q_orT, q_notT, q_andV, q_orV, q_notV, q_ifE, q_next, q_seq, q_asg, q_drop, q_ret, q_retN, q_ifS, q_par, q_isi, q_blt, q_call, q_callK, q_kid, q_kswap, q_chain, q_neg, q_isN, q_notN, q_noO, q_someO, q_sli, q_rev, q_revM, q_bm, q_bm0, q_m1, q_seqI, q_rng, q_rng2, q_enum, q_zip, q_gnm, q_gtp, q_gs0, q_gs1, q_yes, q_put, e_bl, e_int, e_str, e_lst, e_n_non, e_n_bl, e_n_int, e_n_str, e_n_tup, e_n_lst, e_n_slst, e_n_dic, e_n_ref, e_seq_l, e_seq_s, e_seq_t, e_seq_z, e_rev_l, e_rev_s, e_i1, e_i2, e_l1, e_l1s, e_l2, e_p2, e_sl, e_o, e_ob, e_on, e_ml, e_md, e_c, e_tru_b, e_tru_n, e_tru_i, e_tru_t, e_tru_l, t_str_non, t_tup_non, t_int_non, t_bool_non, t_lst_non, t_dict_non, t_str_bl, t_tup_bl, t_int_bl, t_bool_bl, t_lst_bl, t_dict_bl, t_str_int, t_tup_int, t_int_int, t_bool_int, t_lst_int, t_dict_int, t_str_str, t_tup_str, t_int_str, t_bool_str, t_lst_str, t_dict_str, t_str_tup, t_tup_tup, t_int_tup, t_bool_tup, t_lst_tup, t_dict_tup, t_str_lst, t_tup_lst, t_int_lst, t_bool_lst, t_lst_lst, t_dict_lst, t_str_dic, t_tup_dic, t_int_dic, t_bool_dic, t_lst_dic, t_dict_dic, r_add_i, r_add_s, r_add_t, r_add_l, r_sub, r_mul, r_mul_l, r_fdiv, r_mod, r_pow, r_lt, r_ix_l, r_ix_t, r_ix_s, r_ix_rl, r_ix_rd, r_sl_l, r_sl_sl, r_sl_t, r_sl_s, r_len_l, r_len_sl, r_len_t, r_len_s, r_len_r, r_all, r_any, r_tuple_l, r_tuple_sl, r_tuple_t, r_tuple_r, r_list_l, r_list_sl, r_list_t, r_list_r, r_ord, r_repr, r_pop, r_app, r_ext, r_join, r_join_t, r_isl_r, r_isl_l, r_in, r_put_d, r_put_l, r_eq_i, r_eq_s, r_ne_i, r_ne_s, r_eq_t0, r_ne_t0, r_eq_r0, r_ne_r0, r_eq_l0, r_ne_l0, q_lstM, q_frz, e_fz_r, e_fz_non, e_fz_bl, e_fz_int, e_fz_str, e_fz_tup, e_fz_lst, e_fz_dic, q_drp, q_zs, e_zs_tup_tup, e_zs_tup_lst, e_zs_tup_slst, e_zs_lst_tup, e_zs_lst_lst, e_zs_lst_slst, e_zs_slst_tup, e_zs_slst_lst, e_zs_slst_slst, r_mem_s, r_mem_t, r_mem_l, r_int_i, r_int_b, r_listM_l, r_listM_sl, r_listM_t, r_start, wipeD, br_not, br_true, br_false, br_dec, List.map_cons, List.map_nil, List.length_cons, List.length_nil, List.replicate_succ, List.replicate_zero, List.cons_append, List.nil_append, List.getElem?_cons_zero, List.getElem?_cons_succ, List.getElem?_nil, List.set_cons_zero, List.set_cons_succ, Nat.reduceAdd, Nat.reduceSub, Nat.reduceLeDiff, Nat.zero_add, updM_same, true_and, List.isEmpty_nil, List.isEmpty_cons, Bool.not_true, Bool.not_false, Bool.not_not, q_revA, e_ra_l, e_ra_s, e_ra_t, e_ra_z, q_star, e_st_l, e_st_s, e_st_t, q_par3, e_p3, q_cont, r_mul2_i, r_mul2_l, r_mul2_s, r_le2_i, r_le2_s, r_lt2_i, r_lt2_s, r_sum, r_max2, r_min2, r_rst, r_spl, r_six, q_callX, q_callKX, q_raise, e_d1, q_try, q_tryW, q_xf, q_isX, e_cau, r_add2_i, r_add2_s, r_add2_t, r_add2_l, r_add2_rl, r_add2_lr, q_sliM, r_slM, q_kdef, q_mix21, q_mix03, w2, w11, w5, ifT, ifF]
    refine ⟨fun k0 => ?_, fun k0 => ?_⟩
    · exact ⟨c, h1, by decide, by decide, fun x M2 hx h2 o2 => tok x M2 hx h2 (o1.trans o2)⟩
    · refine ⟨c, h1, by decide, by decide, fun d M2 hm h2 o2 => ?_⟩
      have hsz : ∃ n : Nat, d = .int n ∧ n ≤ 4 := by
        simp only [List.mem_cons, List.not_mem_nil, or_false] at hm
        rcases hm with e | e | e | e | e
        · exact ⟨0, e, by decide⟩
        · exact ⟨1, e, by decide⟩
        · exact ⟨2, e, by decide⟩
        · exact ⟨3, e, by decide⟩
        · exact ⟨4, e, by decide⟩
      obtain ⟨z, rfl, hz⟩ := hsz
      simp only [q_v, q_c, q_tup, q_lst, q_op, q_nil, q_cons, q_tst, q_tru, q_andT, q_orT, q_notT, q_andV, q_orV, q_notV, q_ifE, q_next, q_seq, q_asg, q_drop, q_ret, q_retN, q_ifS, q_par, q_isi, q_blt, q_call, q_callK, q_kid, q_kswap, q_chain, q_neg, q_isN, q_notN, q_noO, q_someO, q_sli, q_rev, q_revM, q_bm, q_bm0, q_m1, q_seqI, q_rng, q_rng2, q_enum, q_zip, q_gnm, q_gtp, q_gs0, q_gs1, q_yes, q_put, e_bl, e_int, e_str, e_lst, e_n_non, e_n_bl, e_n_int, e_n_str, e_n_tup, e_n_lst, e_n_slst, e_n_dic, e_n_ref, e_seq_l, e_seq_s, e_seq_t, e_seq_z, e_rev_l, e_rev_s, e_i1, e_i2, e_l1, e_l1s, e_l2, e_p2, e_sl, e_o, e_ob, e_on, e_ml, e_md, e_c, e_tru_b, e_tru_n, e_tru_i, e_tru_t, e_tru_l, t_str_non, t_tup_non, t_int_non, t_bool_non, t_lst_non, t_dict_non, t_str_bl, t_tup_bl, t_int_bl, t_bool_bl, t_lst_bl, t_dict_bl, t_str_int, t_tup_int, t_int_int, t_bool_int, t_lst_int, t_dict_int, t_str_str, t_tup_str, t_int_str, t_bool_str, t_lst_str, t_dict_str, t_str_tup, t_tup_tup, t_int_tup, t_bool_tup, t_lst_tup, t_dict_tup, t_str_lst, t_tup_lst, t_int_lst, t_bool_lst, t_lst_lst, t_dict_lst, t_str_dic, t_tup_dic, t_int_dic, t_bool_dic, t_lst_dic, t_dict_dic, r_add_i, r_add_s, r_add_t, r_add_l, r_sub, r_mul, r_mul_l, r_fdiv, r_mod, r_pow, r_lt, r_ix_l, r_ix_t, r_ix_s, r_ix_rl, r_ix_rd, r_sl_l, r_sl_sl, r_sl_t, r_sl_s, r_len_l, r_len_sl, r_len_t, r_len_s, r_len_r, r_all, r_any, r_tuple_l, r_tuple_sl, r_tuple_t, r_tuple_r, r_list_l, r_list_sl, r_list_t, r_list_r, r_ord, r_repr, r_pop, r_app, r_ext, r_join, r_join_t, r_isl_r, r_isl_l, r_in, r_put_d, r_put_l, r_eq_i, r_eq_s, r_ne_i, r_ne_s, r_eq_t0, r_ne_t0, r_eq_r0, r_ne_r0, r_eq_l0, r_ne_l0, q_lstM, q_frz, e_fz_r, e_fz_non, e_fz_bl, e_fz_int, e_fz_str, e_fz_tup, e_fz_lst, e_fz_dic, q_drp, q_zs, e_zs_tup_tup, e_zs_tup_lst, e_zs_tup_slst, e_zs_lst_tup, e_zs_lst_lst, e_zs_lst_slst, e_zs_slst_tup, e_zs_slst_lst, e_zs_slst_slst, r_mem_s, r_mem_t, r_mem_l, r_int_i, r_int_b, r_listM_l, r_listM_sl, r_listM_t, r_start, wipeD, br_not, br_true, br_false, br_dec, List.map_cons, List.map_nil, List.length_cons, List.length_nil, List.replicate_succ, List.replicate_zero, List.cons_append, List.nil_append, List.getElem?_cons_zero, List.getElem?_cons_succ, List.getElem?_nil, List.set_cons_zero, List.set_cons_succ, Nat.reduceAdd, Nat.reduceSub, Nat.reduceLeDiff, Nat.zero_add, updM_same, true_and, List.isEmpty_nil, List.isEmpty_cons, Bool.not_true, Bool.not_false, Bool.not_not, q_revA, e_ra_l, e_ra_s, e_ra_t, e_ra_z, q_star, e_st_l, e_st_s, e_st_t, q_par3, e_p3, q_cont, r_mul2_i, r_mul2_l, r_mul2_s, r_le2_i, r_le2_s, r_lt2_i, r_lt2_s, r_sum, r_max2, r_min2, r_rst, r_spl, r_six, q_callX, q_callKX, q_raise, e_d1, q_try, q_tryW, q_xf, q_isX, e_cau, r_add2_i, r_add2_s, r_add2_t, r_add2_l, r_add2_rl, r_add2_lr, q_sliM, r_slM, q_kdef, q_mix21, q_mix03]
      refine ⟨by omega, lc_draw (fun y => ∃ n : Nat, y = nD n ∧ n < k) h2 (by rw [List.length_map, List.length_range]; omega) (fun d hd' => ?_) fun ys M3 hl hy h3 o3 => ?_⟩
      · simp only [q_v, q_c, q_tup, q_lst, q_op, q_nil, q_cons, q_tst, q_tru, q_andT, q_orT, q_notT, q_andV, q_orV, q_notV, q_ifE, q_next, q_seq, q_asg, q_drop, q_ret, q_retN, q_ifS, q_par, q_isi, q_blt, q_call, q_callK, q_kid, q_kswap, q_chain, q_neg, q_isN, q_notN, q_noO, q_someO, q_sli, q_rev, q_revM, q_bm, q_bm0, q_m1, q_seqI, q_rng, q_rng2, q_enum, q_zip, q_gnm, q_gtp, q_gs0, q_gs1, q_yes, q_put, e_bl, e_int, e_str, e_lst, e_n_non, e_n_bl, e_n_int, e_n_str, e_n_tup, e_n_lst, e_n_slst, e_n_dic, e_n_ref, e_seq_l, e_seq_s, e_seq_t, e_seq_z, e_rev_l, e_rev_s, e_i1, e_i2, e_l1, e_l1s, e_l2, e_p2, e_sl, e_o, e_ob, e_on, e_ml, e_md, e_c, e_tru_b, e_tru_n, e_tru_i, e_tru_t, e_tru_l, t_str_non, t_tup_non, t_int_non, t_bool_non, t_lst_non, t_dict_non, t_str_bl, t_tup_bl, t_int_bl, t_bool_bl, t_lst_bl, t_dict_bl, t_str_int, t_tup_int, t_int_int, t_bool_int, t_lst_int, t_dict_int, t_str_str, t_tup_str, t_int_str, t_bool_str, t_lst_str, t_dict_str, t_str_tup, t_tup_tup, t_int_tup, t_bool_tup, t_lst_tup, t_dict_tup, t_str_lst, t_tup_lst, t_int_lst, t_bool_lst, t_lst_lst, t_dict_lst, t_str_dic, t_tup_dic, t_int_dic, t_bool_dic, t_lst_dic, t_dict_dic, r_add_i, r_add_s, r_add_t, r_add_l, r_sub, r_mul, r_mul_l, r_fdiv, r_mod, r_pow, r_lt, r_ix_l, r_ix_t, r_ix_s, r_ix_rl, r_ix_rd, r_sl_l, r_sl_sl, r_sl_t, r_sl_s, r_len_l, r_len_sl, r_len_t, r_len_s, r_len_r, r_all, r_any, r_tuple_l, r_tuple_sl, r_tuple_t, r_tuple_r, r_list_l, r_list_sl, r_list_t, r_list_r, r_ord, r_repr, r_pop, r_app, r_ext, r_join, r_join_t, r_isl_r, r_isl_l, r_in, r_put_d, r_put_l, r_eq_i, r_eq_s, r_ne_i, r_ne_s, r_eq_t0, r_ne_t0, r_eq_r0, r_ne_r0, r_eq_l0, r_ne_l0, q_lstM, q_frz, e_fz_r, e_fz_non, e_fz_bl, e_fz_int, e_fz_str, e_fz_tup, e_fz_lst, e_fz_dic, q_drp, q_zs, e_zs_tup_tup, e_zs_tup_lst, e_zs_tup_slst, e_zs_lst_tup, e_zs_lst_lst, e_zs_lst_slst, e_zs_slst_tup, e_zs_slst_lst, e_zs_slst_slst, r_mem_s, r_mem_t, r_mem_l, r_int_i, r_int_b, r_listM_l, r_listM_sl, r_listM_t, r_start, wipeD, br_not, br_true, br_false, br_dec, List.map_cons, List.map_nil, List.length_cons, List.length_nil, List.replicate_succ, List.replicate_zero, List.cons_append, List.nil_append, List.getElem?_cons_zero, List.getElem?_cons_succ, List.getElem?_nil, List.set_cons_zero, List.set_cons_succ, Nat.reduceAdd, Nat.reduceSub, Nat.reduceLeDiff, Nat.zero_add, updM_same, true_and, List.isEmpty_nil, List.isEmpty_cons, Bool.not_true, Bool.not_false, Bool.not_not, q_revA, e_ra_l, e_ra_s, e_ra_t, e_ra_z, q_star, e_st_l, e_st_s, e_st_t, q_par3, e_p3, q_cont, r_mul2_i, r_mul2_l, r_mul2_s, r_le2_i, r_le2_s, r_lt2_i, r_lt2_s, r_sum, r_max2, r_min2, r_rst, r_spl, r_six, q_callX, q_callKX, q_raise, e_d1, q_try, q_tryW, q_xf, q_isX, e_cau, r_add2_i, r_add2_s, r_add2_t, r_add2_l, r_add2_rl, r_add2_lr, q_sliM, r_slM, q_kdef, q_mix21, q_mix03]
        intro M' G h4 hG
        refine ⟨c, h4, by omega, by omega, fun r M5 r0 r1 h5 o5 => ?_⟩
        refine ⟨c, h5, by simp, by simp, fun y M6 hy h6 o6 => hG y M6 ?_ h6 (o5.trans o6)⟩
        simp only [List.mem_cons, List.not_mem_nil, or_false] at hy
        rcases hy with e | e
        · exact ⟨k - 1, by rw [e]; unfold nD; congr 1; omega, by omega⟩
        · exact ⟨r.toNat, by rw [e]; unfold nD; congr 1; omega, by omega⟩
      · obtain ⟨ns, rfl, hns⟩ := nums_of hy
        rw [List.length_map, List.length_map, List.length_range] at hl
        simp only [q_v, q_c, q_tup, q_lst, q_op, q_nil, q_cons, q_tst, q_tru, q_andT, q_orT, q_notT, q_andV, q_orV, q_notV, q_ifE, q_next, q_seq, q_asg, q_drop, q_ret, q_retN, q_ifS, q_par, q_isi, q_blt, q_call, q_callK, q_kid, q_kswap, q_chain, q_neg, q_isN, q_notN, q_noO, q_someO, q_sli, q_rev, q_revM, q_bm, q_bm0, q_m1, q_seqI, q_rng, q_rng2, q_enum, q_zip, q_gnm, q_gtp, q_gs0, q_gs1, q_yes, q_put, e_bl, e_int, e_str, e_lst, e_n_non, e_n_bl, e_n_int, e_n_str, e_n_tup, e_n_lst, e_n_slst, e_n_dic, e_n_ref, e_seq_l, e_seq_s, e_seq_t, e_seq_z, e_rev_l, e_rev_s, e_i1, e_i2, e_l1, e_l1s, e_l2, e_p2, e_sl, e_o, e_ob, e_on, e_ml, e_md, e_c, e_tru_b, e_tru_n, e_tru_i, e_tru_t, e_tru_l, t_str_non, t_tup_non, t_int_non, t_bool_non, t_lst_non, t_dict_non, t_str_bl, t_tup_bl, t_int_bl, t_bool_bl, t_lst_bl, t_dict_bl, t_str_int, t_tup_int, t_int_int, t_bool_int, t_lst_int, t_dict_int, t_str_str, t_tup_str, t_int_str, t_bool_str, t_lst_str, t_dict_str, t_str_tup, t_tup_tup, t_int_tup, t_bool_tup, t_lst_tup, t_dict_tup, t_str_lst, t_tup_lst, t_int_lst, t_bool_lst, t_lst_lst, t_dict_lst, t_str_dic, t_tup_dic, t_int_dic, t_bool_dic, t_lst_dic, t_dict_dic, r_add_i, r_add_s, r_add_t, r_add_l, r_sub, r_mul, r_mul_l, r_fdiv, r_mod, r_pow, r_lt, r_ix_l, r_ix_t, r_ix_s, r_ix_rl, r_ix_rd, r_sl_l, r_sl_sl, r_sl_t, r_sl_s, r_len_l, r_len_sl, r_len_t, r_len_s, r_len_r, r_all, r_any, r_tuple_l, r_tuple_sl, r_tuple_t, r_tuple_r, r_list_l, r_list_sl, r_list_t, r_list_r, r_ord, r_repr, r_pop, r_app, r_ext, r_join, r_join_t, r_isl_r, r_isl_l, r_in, r_put_d, r_put_l, r_eq_i, r_eq_s, r_ne_i, r_ne_s, r_eq_t0, r_ne_t0, r_eq_r0, r_ne_r0, r_eq_l0, r_ne_l0, q_lstM, q_frz, e_fz_r, e_fz_non, e_fz_bl, e_fz_int, e_fz_str, e_fz_tup, e_fz_lst, e_fz_dic, q_drp, q_zs, e_zs_tup_tup, e_zs_tup_lst, e_zs_tup_slst, e_zs_lst_tup, e_zs_lst_lst, e_zs_lst_slst, e_zs_slst_tup, e_zs_slst_lst, e_zs_slst_slst, r_mem_s, r_mem_t, r_mem_l, r_int_i, r_int_b, r_listM_l, r_listM_sl, r_listM_t, r_start, wipeD, br_not, br_true, br_false, br_dec, List.map_cons, List.map_nil, List.length_cons, List.length_nil, List.replicate_succ, List.replicate_zero, List.cons_append, List.nil_append, List.getElem?_cons_zero, List.getElem?_cons_succ, List.getElem?_nil, List.set_cons_zero, List.set_cons_succ, Nat.reduceAdd, Nat.reduceSub, Nat.reduceLeDiff, Nat.zero_add, updM_same, true_and, List.isEmpty_nil, List.isEmpty_cons, Bool.not_true, Bool.not_false, Bool.not_not, q_revA, e_ra_l, e_ra_s, e_ra_t, e_ra_z, q_star, e_st_l, e_st_s, e_st_t, q_par3, e_p3, q_cont, r_mul2_i, r_mul2_l, r_mul2_s, r_le2_i, r_le2_s, r_lt2_i, r_lt2_s, r_sum, r_max2, r_min2, r_rst, r_spl, r_six, q_callX, q_callKX, q_raise, e_d1, q_try, q_tryW, q_xf, q_isX, e_cau, r_add2_i, r_add2_s, r_add2_t, r_add2_l, r_add2_rl, r_add2_lr, q_sliM, r_slM, q_kdef, q_mix21, q_mix03]
        refine ⟨c, h3, by decide, by decide, fun x M4 hx h4 o4 => ?_⟩
        obtain ⟨n, rfl, tn⟩ := pick5 x hx
        exact hF (.call n ns) M4 (stl_call tn hns (by omega)) h4 (((o1.trans o2).trans o3).trans o4)
  · -- method
    subst e
    simp only [q_v, q_c, q_tup, q_lst, q_op, q_nil, q_cons, q_tst, q_tru, q_andT, q_orT, q_notT, q_andV, q_orV, q_notV, q_ifE, q_next, q_seq, q_asg, q_drop, q_ret, q_retN, q_ifS, q_par, q_isi, q_blt, q_call, q_callK, q_kid, q_kswap, q_chain, q_neg, q_isN, q_notN, q_noO, q_someO, q_sli, q_rev, q_revM, q_bm, q_bm0, q_m1, q_seqI, q_rng, q_rng2, q_enum, q_zip, q_gnm, q_gtp, q_gs0, q_gs1, q_yes, q_put, e_bl, e_int, e_str, e_lst, e_n_non, e_n_bl, e_n_int, e_n_str, e_n_tup, e_n_lst, e_n_slst, e_n_dic, e_n_ref, e_seq_l, e_seq_s, e_seq_t, e_seq_z, e_rev_l, e_rev_s, e_i1, e_i2, e_l1, e_l1s, e_l2, e_p2, e_sl, e_o, e_ob, e_on, e_ml, e_md, e_c, e_tru_b, e_tru_n, e_tru_i, e_tru_t, e_tru_l, t_str_non, t_tup_non, t_int_non, t_bool_non, t_lst_non, t_dict_non, t_str_bl, t_tup_bl, t_int_bl, t_bool_bl, t_lst_bl, t_dict_bl, t_str_int, t_tup_int, t_int_int, t_bool_int, t_lst_int, t_dict_int, t_str_str, t_tup_str, t_int_str, t_bool_str, t_lst_str, t_dict_str, t_str_tup, t_tup_tup, t_int_tup, t_bool_tup, t_lst_tup, t_dict_tup, t_str_lst, t_tup_lst, t_int_lst, t_bool_lst, t_lst_lst, t_dict_lst, t_str_dic, t_tup_dic, t_int_dic, t_bool_dic, t_lst_dic, t_dict_dic, r_add_i, r_add_s, r_add_t, r_add_l, r_sub, r_mul, r_mul_l, r_fdiv, r_mod, r_pow, r_lt, r_ix_l, r_ix_t, r_ix_s, r_ix_rl, r_ix_rd, r_sl_l, r_sl_sl, r_sl_t, r_sl_s, r_len_l, r_len_sl, r_len_t, r_len_s, r_len_r, r_all, r_any, r_tuple_l, r_tuple_sl, r_tuple_t, r_tuple_r, r_list_l, r_list_sl, r_list_t, r_list_r, r_ord, r_repr, r_pop, r_app, r_ext, r_join, r_join_t, r_isl_r, r_isl_l, r_in, r_put_d, r_put_l, r_eq_i, r_eq_s, r_ne_i, r_ne_s, r_eq_t0, r_ne_t0, r_eq_r0, r_ne_r0, r_eq_l0, r_ne_l0, q_lstM, q_frz, e_fz_r, e_fz_non, e_fz_bl, e_fz_int, e_fz_str, e_fz_tup, e_fz_lst, e_fz_dic, q_drp, q_zs, e_zs_tup_tup, e_zs_tup_lst, e_zs_tup_slst, e_zs_lst_tup, e_zs_lst_lst, e_zs_lst_slst, e_zs_slst_tup, e_zs_slst_lst, e_zs_slst_slst, r_mem_s, r_mem_t, r_mem_l, r_int_i, r_int_b, r_listM_l, r_listM_sl, r_listM_t, r_start, wipeD, br_not, br_true, br_false, br_dec, List.map_cons, List.map_nil, List.length_cons, List.length_nil, List.replicate_succ, List.replicate_zero, List.cons_append, List.nil_append, List.getElem?_cons_zero, List.getElem?_cons_succ, List.getElem?_nil, List.set_cons_zero, List.set_cons_succ, Nat.reduceAdd, Nat.reduceSub, Nat.reduceLeDiff, Nat.zero_add, updM_same, true_and, List.isEmpty_nil, List.isEmpty_cons, Bool.not_true, Bool.not_false, Bool.not_not, q_revA, e_ra_l, e_ra_s, e_ra_t, e_ra_z, q_star, e_st_l, e_st_s, e_st_t, q_par3, e_p3, q_cont, r_mul2_i, r_mul2_l, r_mul2_s, r_le2_i, r_le2_s, r_lt2_i, r_lt2_s, r_sum, r_max2, r_min2, r_rst, r_spl, r_six, q_callX, q_callKX, q_raise, e_d1, q_try, q_tryW, q_xf, q_isX, e_cau, r_add2_i, r_add2_s, r_add2_t, r_add2_l, r_add2_rl, r_add2_lr, q_sliM, r_slM, q_kdef, q_mix21, q_mix03, w3, w12, w6, ifT, ifF]
    refine ⟨fun k0 => ?_, fun k0 => ?_⟩
    · exact ⟨c, h1, by decide, by decide, fun x M2 hx h2 o2 => tok x M2 hx h2 (o1.trans o2)⟩
    · refine ⟨c, h1, by decide, by decide, fun d M2 hm h2 o2 => ?_⟩
      have hsz : ∃ n : Nat, d = .int n ∧ n ≤ 4 ∧ 1 ≤ n := by
        simp only [List.mem_cons, List.not_mem_nil, or_false] at hm
        rcases hm with e | e | e | e | e
        · exact ⟨1, e, by decide⟩
        · exact ⟨1, e, by decide⟩
        · exact ⟨2, e, by decide⟩
        · exact ⟨3, e, by decide⟩
        · exact ⟨4, e, by decide⟩
      obtain ⟨z, rfl, hz⟩ := hsz
      simp only [q_v, q_c, q_tup, q_lst, q_op, q_nil, q_cons, q_tst, q_tru, q_andT, q_orT, q_notT, q_andV, q_orV, q_notV, q_ifE, q_next, q_seq, q_asg, q_drop, q_ret, q_retN, q_ifS, q_par, q_isi, q_blt, q_call, q_callK, q_kid, q_kswap, q_chain, q_neg, q_isN, q_notN, q_noO, q_someO, q_sli, q_rev, q_revM, q_bm, q_bm0, q_m1, q_seqI, q_rng, q_rng2, q_enum, q_zip, q_gnm, q_gtp, q_gs0, q_gs1, q_yes, q_put, e_bl, e_int, e_str, e_lst, e_n_non, e_n_bl, e_n_int, e_n_str, e_n_tup, e_n_lst, e_n_slst, e_n_dic, e_n_ref, e_seq_l, e_seq_s, e_seq_t, e_seq_z, e_rev_l, e_rev_s, e_i1, e_i2, e_l1, e_l1s, e_l2, e_p2, e_sl, e_o, e_ob, e_on, e_ml, e_md, e_c, e_tru_b, e_tru_n, e_tru_i, e_tru_t, e_tru_l, t_str_non, t_tup_non, t_int_non, t_bool_non, t_lst_non, t_dict_non, t_str_bl, t_tup_bl, t_int_bl, t_bool_bl, t_lst_bl, t_dict_bl, t_str_int, t_tup_int, t_int_int, t_bool_int, t_lst_int, t_dict_int, t_str_str, t_tup_str, t_int_str, t_bool_str, t_lst_str, t_dict_str, t_str_tup, t_tup_tup, t_int_tup, t_bool_tup, t_lst_tup, t_dict_tup, t_str_lst, t_tup_lst, t_int_lst, t_bool_lst, t_lst_lst, t_dict_lst, t_str_dic, t_tup_dic, t_int_dic, t_bool_dic, t_lst_dic, t_dict_dic, r_add_i, r_add_s, r_add_t, r_add_l, r_sub, r_mul, r_mul_l, r_fdiv, r_mod, r_pow, r_lt, r_ix_l, r_ix_t, r_ix_s, r_ix_rl, r_ix_rd, r_sl_l, r_sl_sl, r_sl_t, r_sl_s, r_len_l, r_len_sl, r_len_t, r_len_s, r_len_r, r_all, r_any, r_tuple_l, r_tuple_sl, r_tuple_t, r_tuple_r, r_list_l, r_list_sl, r_list_t, r_list_r, r_ord, r_repr, r_pop, r_app, r_ext, r_join, r_join_t, r_isl_r, r_isl_l, r_in, r_put_d, r_put_l, r_eq_i, r_eq_s, r_ne_i, r_ne_s, r_eq_t0, r_ne_t0, r_eq_r0, r_ne_r0, r_eq_l0, r_ne_l0, q_lstM, q_frz, e_fz_r, e_fz_non, e_fz_bl, e_fz_int, e_fz_str, e_fz_tup, e_fz_lst, e_fz_dic, q_drp, q_zs, e_zs_tup_tup, e_zs_tup_lst, e_zs_tup_slst, e_zs_lst_tup, e_zs_lst_lst, e_zs_lst_slst, e_zs_slst_tup, e_zs_slst_lst, e_zs_slst_slst, r_mem_s, r_mem_t, r_mem_l, r_int_i, r_int_b, r_listM_l, r_listM_sl, r_listM_t, r_start, wipeD, br_not, br_true, br_false, br_dec, List.map_cons, List.map_nil, List.length_cons, List.length_nil, List.replicate_succ, List.replicate_zero, List.cons_append, List.nil_append, List.getElem?_cons_zero, List.getElem?_cons_succ, List.getElem?_nil, List.set_cons_zero, List.set_cons_succ, Nat.reduceAdd, Nat.reduceSub, Nat.reduceLeDiff, Nat.zero_add, updM_same, true_and, List.isEmpty_nil, List.isEmpty_cons, Bool.not_true, Bool.not_false, Bool.not_not, q_revA, e_ra_l, e_ra_s, e_ra_t, e_ra_z, q_star, e_st_l, e_st_s, e_st_t, q_par3, e_p3, q_cont, r_mul2_i, r_mul2_l, r_mul2_s, r_le2_i, r_le2_s, r_lt2_i, r_lt2_s, r_sum, r_max2, r_min2, r_rst, r_spl, r_six, q_callX, q_callKX, q_raise, e_d1, q_try, q_tryW, q_xf, q_isX, e_cau, r_add2_i, r_add2_s, r_add2_t, r_add2_l, r_add2_rl, r_add2_lr, q_sliM, r_slM, q_kdef, q_mix21, q_mix03]
      refine ⟨by omega, lc_draw (fun y => ∃ n : Nat, y = nD n ∧ n < k) h2 (by rw [List.length_map, List.length_range]; omega) (fun d hd' => ?_) fun ys M3 hl hy h3 o3 => ?_⟩
      · simp only [q_v, q_c, q_tup, q_lst, q_op, q_nil, q_cons, q_tst, q_tru, q_andT, q_orT, q_notT, q_andV, q_orV, q_notV, q_ifE, q_next, q_seq, q_asg, q_drop, q_ret, q_retN, q_ifS, q_par, q_isi, q_blt, q_call, q_callK, q_kid, q_kswap, q_chain, q_neg, q_isN, q_notN, q_noO, q_someO, q_sli, q_rev, q_revM, q_bm, q_bm0, q_m1, q_seqI, q_rng, q_rng2, q_enum, q_zip, q_gnm, q_gtp, q_gs0, q_gs1, q_yes, q_put, e_bl, e_int, e_str, e_lst, e_n_non, e_n_bl, e_n_int, e_n_str, e_n_tup, e_n_lst, e_n_slst, e_n_dic, e_n_ref, e_seq_l, e_seq_s, e_seq_t, e_seq_z, e_rev_l, e_rev_s, e_i1, e_i2, e_l1, e_l1s, e_l2, e_p2, e_sl, e_o, e_ob, e_on, e_ml, e_md, e_c, e_tru_b, e_tru_n, e_tru_i, e_tru_t, e_tru_l, t_str_non, t_tup_non, t_int_non, t_bool_non, t_lst_non, t_dict_non, t_str_bl, t_tup_bl, t_int_bl, t_bool_bl, t_lst_bl, t_dict_bl, t_str_int, t_tup_int, t_int_int, t_bool_int, t_lst_int, t_dict_int, t_str_str, t_tup_str, t_int_str, t_bool_str, t_lst_str, t_dict_str, t_str_tup, t_tup_tup, t_int_tup, t_bool_tup, t_lst_tup, t_dict_tup, t_str_lst, t_tup_lst, t_int_lst, t_bool_lst, t_lst_lst, t_dict_lst, t_str_dic, t_tup_dic, t_int_dic, t_bool_dic, t_lst_dic, t_dict_dic, r_add_i, r_add_s, r_add_t, r_add_l, r_sub, r_mul, r_mul_l, r_fdiv, r_mod, r_pow, r_lt, r_ix_l, r_ix_t, r_ix_s, r_ix_rl, r_ix_rd, r_sl_l, r_sl_sl, r_sl_t, r_sl_s, r_len_l, r_len_sl, r_len_t, r_len_s, r_len_r, r_all, r_any, r_tuple_l, r_tuple_sl, r_tuple_t, r_tuple_r, r_list_l, r_list_sl, r_list_t, r_list_r, r_ord, r_repr, r_pop, r_app, r_ext, r_join, r_join_t, r_isl_r, r_isl_l, r_in, r_put_d, r_put_l, r_eq_i, r_eq_s, r_ne_i, r_ne_s, r_eq_t0, r_ne_t0, r_eq_r0, r_ne_r0, r_eq_l0, r_ne_l0, q_lstM, q_frz, e_fz_r, e_fz_non, e_fz_bl, e_fz_int, e_fz_str, e_fz_tup, e_fz_lst, e_fz_dic, q_drp, q_zs, e_zs_tup_tup, e_zs_tup_lst, e_zs_tup_slst, e_zs_lst_tup, e_zs_lst_lst, e_zs_lst_slst, e_zs_slst_tup, e_zs_slst_lst, e_zs_slst_slst, r_mem_s, r_mem_t, r_mem_l, r_int_i, r_int_b, r_listM_l, r_listM_sl, r_listM_t, r_start, wipeD, br_not, br_true, br_false, br_dec, List.map_cons, List.map_nil, List.length_cons, List.length_nil, List.replicate_succ, List.replicate_zero, List.cons_append, List.nil_append, List.getElem?_cons_zero, List.getElem?_cons_succ, List.getElem?_nil, List.set_cons_zero, List.set_cons_succ, Nat.reduceAdd, Nat.reduceSub, Nat.reduceLeDiff, Nat.zero_add, updM_same, true_and, List.isEmpty_nil, List.isEmpty_cons, Bool.not_true, Bool.not_false, Bool.not_not, q_revA, e_ra_l, e_ra_s, e_ra_t, e_ra_z, q_star, e_st_l, e_st_s, e_st_t, q_par3, e_p3, q_cont, r_mul2_i, r_mul2_l, r_mul2_s, r_le2_i, r_le2_s, r_lt2_i, r_lt2_s, r_sum, r_max2, r_min2, r_rst, r_spl, r_six, q_callX, q_callKX, q_raise, e_d1, q_try, q_tryW, q_xf, q_isX, e_cau, r_add2_i, r_add2_s, r_add2_t, r_add2_l, r_add2_rl, r_add2_lr, q_sliM, r_slM, q_kdef, q_mix21, q_mix03]
        intro M' G h4 hG
        refine ⟨c, h4, by omega, by omega, fun r M5 r0 r1 h5 o5 => ?_⟩
        refine ⟨c, h5, by simp, by simp, fun y M6 hy h6 o6 => hG y M6 ?_ h6 (o5.trans o6)⟩
        simp only [List.mem_cons, List.not_mem_nil, or_false] at hy
        rcases hy with e | e
        · exact ⟨k - 1, by rw [e]; unfold nD; congr 1; omega, by omega⟩
        · exact ⟨r.toNat, by rw [e]; unfold nD; congr 1; omega, by omega⟩
      · obtain ⟨ns, rfl, hns⟩ := nums_of hy
        rw [List.length_map, List.length_map, List.length_range] at hl
        simp only [q_v, q_c, q_tup, q_lst, q_op, q_nil, q_cons, q_tst, q_tru, q_andT, q_orT, q_notT, q_andV, q_orV, q_notV, q_ifE, q_next, q_seq, q_asg, q_drop, q_ret, q_retN, q_ifS, q_par, q_isi, q_blt, q_call, q_callK, q_kid, q_kswap, q_chain, q_neg, q_isN, q_notN, q_noO, q_someO, q_sli, q_rev, q_revM, q_bm, q_bm0, q_m1, q_seqI, q_rng, q_rng2, q_enum, q_zip, q_gnm, q_gtp, q_gs0, q_gs1, q_yes, q_put, e_bl, e_int, e_str, e_lst, e_n_non, e_n_bl, e_n_int, e_n_str, e_n_tup, e_n_lst, e_n_slst, e_n_dic, e_n_ref, e_seq_l, e_seq_s, e_seq_t, e_seq_z, e_rev_l, e_rev_s, e_i1, e_i2, e_l1, e_l1s, e_l2, e_p2, e_sl, e_o, e_ob, e_on, e_ml, e_md, e_c, e_tru_b, e_tru_n, e_tru_i, e_tru_t, e_tru_l, t_str_non, t_tup_non, t_int_non, t_bool_non, t_lst_non, t_dict_non, t_str_bl, t_tup_bl, t_int_bl, t_bool_bl, t_lst_bl, t_dict_bl, t_str_int, t_tup_int, t_int_int, t_bool_int, t_lst_int, t_dict_int, t_str_str, t_tup_str, t_int_str, t_bool_str, t_lst_str, t_dict_str, t_str_tup, t_tup_tup, t_int_tup, t_bool_tup, t_lst_tup, t_dict_tup, t_str_lst, t_tup_lst, t_int_lst, t_bool_lst, t_lst_lst, t_dict_lst, t_str_dic, t_tup_dic, t_int_dic, t_bool_dic, t_lst_dic, t_dict_dic, r_add_i, r_add_s, r_add_t, r_add_l, r_sub, r_mul, r_mul_l, r_fdiv, r_mod, r_pow, r_lt, r_ix_l, r_ix_t, r_ix_s, r_ix_rl, r_ix_rd, r_sl_l, r_sl_sl, r_sl_t, r_sl_s, r_len_l, r_len_sl, r_len_t, r_len_s, r_len_r, r_all, r_any, r_tuple_l, r_tuple_sl, r_tuple_t, r_tuple_r, r_list_l, r_list_sl, r_list_t, r_list_r, r_ord, r_repr, r_pop, r_app, r_ext, r_join, r_join_t, r_isl_r, r_isl_l, r_in, r_put_d, r_put_l, r_eq_i, r_eq_s, r_ne_i, r_ne_s, r_eq_t0, r_ne_t0, r_eq_r0, r_ne_r0, r_eq_l0, r_ne_l0, q_lstM, q_frz, e_fz_r, e_fz_non, e_fz_bl, e_fz_int, e_fz_str, e_fz_tup, e_fz_lst, e_fz_dic, q_drp, q_zs, e_zs_tup_tup, e_zs_tup_lst, e_zs_tup_slst, e_zs_lst_tup, e_zs_lst_lst, e_zs_lst_slst, e_zs_slst_tup, e_zs_slst_lst, e_zs_slst_slst, r_mem_s, r_mem_t, r_mem_l, r_int_i, r_int_b, r_listM_l, r_listM_sl, r_listM_t, r_start, wipeD, br_not, br_true, br_false, br_dec, List.map_cons, List.map_nil, List.length_cons, List.length_nil, List.replicate_succ, List.replicate_zero, List.cons_append, List.nil_append, List.getElem?_cons_zero, List.getElem?_cons_succ, List.getElem?_nil, List.set_cons_zero, List.set_cons_succ, Nat.reduceAdd, Nat.reduceSub, Nat.reduceLeDiff, Nat.zero_add, updM_same, true_and, List.isEmpty_nil, List.isEmpty_cons, Bool.not_true, Bool.not_false, Bool.not_not, q_revA, e_ra_l, e_ra_s, e_ra_t, e_ra_z, q_star, e_st_l, e_st_s, e_st_t, q_par3, e_p3, q_cont, r_mul2_i, r_mul2_l, r_mul2_s, r_le2_i, r_le2_s, r_lt2_i, r_lt2_s, r_sum, r_max2, r_min2, r_rst, r_spl, r_six, q_callX, q_callKX, q_raise, e_d1, q_try, q_tryW, q_xf, q_isX, e_cau, r_add2_i, r_add2_s, r_add2_t, r_add2_l, r_add2_rl, r_add2_lr, q_sliM, r_slM, q_kdef, q_mix21, q_mix03]
        refine ⟨c, h3, by decide, by decide, fun x M4 hx h4 o4 => ?_⟩
        obtain ⟨n, rfl, tn⟩ := pick5 x hx
        cases ns with
        | nil => simp only [List.length_nil] at hl; omega
        | cons m ns =>
          rw [List.length_cons] at hl
          exact hF (.meth n m ns) M4 (stl_meth tn (hns m List.mem_cons_self) (fun j hj => hns j (List.mem_cons_of_mem _ hj)) (by omega)) h4 (((o1.trans o2).trans o3).trans o4)
  · -- operator
    subst e
    simp only [q_v, q_c, q_tup, q_lst, q_op, q_nil, q_cons, q_tst, q_tru, q_andT, q_orT, q_notT, q_andV, q_orV, q_notV, q_ifE, q_next, q_seq, q_asg, q_drop, q_ret, q_retN, q_ifS, q_par, q_isi, q_blt, q_call, q_callK, q_kid, q_kswap, q_chain, q_neg, q_isN, q_notN, q_noO, q_someO, q_sli, q_rev, q_revM, q_bm, q_bm0, q_m1, q_seqI, q_rng, q_rng2, q_enum, q_zip, q_gnm, q_gtp, q_gs0, q_gs1, q_yes, q_put, e_bl, e_int, e_str, e_lst, e_n_non, e_n_bl, e_n_int, e_n_str, e_n_tup, e_n_lst, e_n_slst, e_n_dic, e_n_ref, e_seq_l, e_seq_s, e_seq_t, e_seq_z, e_rev_l, e_rev_s, e_i1, e_i2, e_l1, e_l1s, e_l2, e_p2, e_sl, e_o, e_ob, e_on, e_ml, e_md, e_c, e_tru_b, e_tru_n, e_tru_i, e_tru_t, e_tru_l, t_str_non, t_tup_non, t_int_non, t_bool_non, t_lst_non, t_dict_non, t_str_bl, t_tup_bl, t_int_bl, t_bool_bl, t_lst_bl, t_dict_bl, t_str_int, t_tup_int, t_int_int, t_bool_int, t_lst_int, t_dict_int, t_str_str, t_tup_str, t_int_str, t_bool_str, t_lst_str, t_dict_str, t_str_tup, t_tup_tup, t_int_tup, t_bool_tup, t_lst_tup, t_dict_tup, t_str_lst, t_tup_lst, t_int_lst, t_bool_lst, t_lst_lst, t_dict_lst, t_str_dic, t_tup_dic, t_int_dic, t_bool_dic, t_lst_dic, t_dict_dic, r_add_i, r_add_s, r_add_t, r_add_l, r_sub, r_mul, r_mul_l, r_fdiv, r_mod, r_pow, r_lt, r_ix_l, r_ix_t, r_ix_s, r_ix_rl, r_ix_rd, r_sl_l, r_sl_sl, r_sl_t, r_sl_s, r_len_l, r_len_sl, r_len_t, r_len_s, r_len_r, r_all, r_any, r_tuple_l, r_tuple_sl, r_tuple_t, r_tuple_r, r_list_l, r_list_sl, r_list_t, r_list_r, r_ord, r_repr, r_pop, r_app, r_ext, r_join, r_join_t, r_isl_r, r_isl_l, r_in, r_put_d, r_put_l, r_eq_i, r_eq_s, r_ne_i, r_ne_s, r_eq_t0, r_ne_t0, r_eq_r0, r_ne_r0, r_eq_l0, r_ne_l0, q_lstM, q_frz, e_fz_r, e_fz_non, e_fz_bl, e_fz_int, e_fz_str, e_fz_tup, e_fz_lst, e_fz_dic, q_drp, q_zs, e_zs_tup_tup, e_zs_tup_lst, e_zs_tup_slst, e_zs_lst_tup, e_zs_lst_lst, e_zs_lst_slst, e_zs_slst_tup, e_zs_slst_lst, e_zs_slst_slst, r_mem_s, r_mem_t, r_mem_l, r_int_i, r_int_b, r_listM_l, r_listM_sl, r_listM_t, r_start, wipeD, br_not, br_true, br_false, br_dec, List.map_cons, List.map_nil, List.length_cons, List.length_nil, List.replicate_succ, List.replicate_zero, List.cons_append, List.nil_append, List.getElem?_cons_zero, List.getElem?_cons_succ, List.getElem?_nil, List.set_cons_zero, List.set_cons_succ, Nat.reduceAdd, Nat.reduceSub, Nat.reduceLeDiff, Nat.zero_add, updM_same, true_and, List.isEmpty_nil, List.isEmpty_cons, Bool.not_true, Bool.not_false, Bool.not_not, q_revA, e_ra_l, e_ra_s, e_ra_t, e_ra_z, q_star, e_st_l, e_st_s, e_st_t, q_par3, e_p3, q_cont, r_mul2_i, r_mul2_l, r_mul2_s, r_le2_i, r_le2_s, r_lt2_i, r_lt2_s, r_sum, r_max2, r_min2, r_rst, r_spl, r_six, q_callX, q_callKX, q_raise, e_d1, q_try, q_tryW, q_xf, q_isX, e_cau, r_add2_i, r_add2_s, r_add2_t, r_add2_l, r_add2_rl, r_add2_lr, q_sliM, r_slM, q_kdef, q_mix21, q_mix03, w4, w10, ifT, ifF]
    refine ⟨fun k0 => ?_, fun k0 => ?_⟩
    · exact ⟨c, h1, by decide, by decide, fun x M2 hx h2 o2 => tok x M2 hx h2 (o1.trans o2)⟩
    · refine ⟨c, h1, by decide, by decide, fun x M2 hx h2 o2 => ?_⟩
      obtain ⟨n, rfl, tn⟩ := pick7 x hx
      refine ⟨c, h2, by omega, by omega, fun r M3 r0 r1 h3 o3 => ?_⟩
      refine ⟨c, h3, by omega, by omega, fun r' M4 r0' r1' h4 o4 => ?_⟩
      have e1 : D.int r = nD r.toNat := by unfold nD; congr 1; omega
      have e2 : D.int r' = nD r'.toNat := by unfold nD; congr 1; omega
      rw [e1, e2]
      exact hF (.oper n r.toNat r'.toNat) M4 (stl_oper tn (by omega) (by omega)) h4 (((o1.trans o2).trans o3).trans o4)
end K43

namespace K43
open PySem L2 Fx
/-! drawn rows -/
structure RwC (rows : List Stp) : Prop where
  st : ∀ i s, rows[i]? = some s → StL i s
  n12 : rows.length ≤ 12
  sm : ∀ l ∈ exs rows, l.length ≤ 600
theorem RwC.l {rows : List Stp} (h : RwC rows) : RwL rows := ⟨fun i s g => (h.st i s g).val, h.n12, fun s hs => by
  obtain ⟨i, hi, e⟩ := List.getElem_of_mem hs
  exact (h.st i s (by rw [List.getElem?_eq_some_iff]; exact ⟨hi, e⟩)).f4, h.sm⟩
theorem RwC.snoc {rows : List Stp} {s : Stp} (h : RwC rows) (hs : StL rows.length s) (hl : rows.length < 12) (h6 : (exI (parts s) (exs rows)).length ≤ 600) : RwC (rows ++ [s]) := by
  refine ⟨fun i t g => ?_, by rw [List.length_append, List.length_singleton]; omega, fun l hm => ?_⟩
  · rcases Nat.lt_or_ge i rows.length with q | q
    · rw [List.getElem?_append_left q] at g
      exact h.st i t g
    · rw [List.getElem?_append_right q] at g
      have : i - rows.length = 0 := by
        have := (List.getElem?_eq_some_iff.mp g).1
        simp only [List.length_cons, List.length_nil] at this
        omega
      rw [this] at g
      cases g
      have : i = rows.length := by omega
      rw [this]
      exact hs
  · have e : exs (rows ++ [s]) = exs rows ++ [exI (parts s) (exs rows)] := bld_snoc _ rows s
    rw [e] at hm
    rcases List.mem_append.mp hm with q | q
    · exact h.sm l q
    · rw [List.mem_singleton.mp q]
      exact h6
theorem small0 {s : Stp} (h : StL 0 s) : (exI (parts s) (exs [])).length ≤ 3 := by
  cases s with
  | tok t => exact (by decide : 1 ≤ 3)
  | oper n a b => exact absurd (h.val a (by unfold parts; simp)) (by omega)
  | meth n a ns => exact absurd (h.val a (by unfold parts; simp)) (by omega)
  | call n ns =>
    cases ns with
    | nil => exact (by decide : 3 ≤ 3)
    | cons m ns => exact absurd (h.val m (by unfold parts listed; simp)) (by omega)
def R_l_rows : RD := fun xs M F => ∃ a c, xs = [.ref a] ∧ HandAt M a c ∧ ∀ rows M', RwC rows → rows ≠ [] → HandAt M' a c → Oth a c M M' → F (rD rows) M'
theorem ln_l_rows : ∀ xs M F, R_l_rows xs M F → xs.length = 1 := fun xs M F ⟨p, L, e, _⟩ => by rw [e]; rfl
theorem rd_l_rows : ∀ ds M F, R_l_rows ds M F → T_l_rows R_draw R_l_size R_l_step { nx := fun _ M' => F .non M', rt := F } (startD 5 ds) M := by
  intro ds M F ⟨a, c, e, hd, hF⟩
  subst e
  simp only [T_l_rows, q_v, q_c, q_tup, q_lst, q_op, q_nil, q_cons, q_tst, q_tru, q_andT, q_orT, q_notT, q_andV, q_orV, q_notV, q_ifE, q_next, q_seq, q_asg, q_drop, q_ret, q_retN, q_ifS, q_par, q_isi, q_blt, q_call, q_callK, q_kid, q_kswap, q_chain, q_neg, q_isN, q_notN, q_noO, q_someO, q_sli, q_rev, q_revM, q_bm, q_bm0, q_m1, q_seqI, q_rng, q_rng2, q_enum, q_zip, q_gnm, q_gtp, q_gs0, q_gs1, q_yes, q_put, e_bl, e_int, e_str, e_lst, e_n_non, e_n_bl, e_n_int, e_n_str, e_n_tup, e_n_lst, e_n_slst, e_n_dic, e_n_ref, e_seq_l, e_seq_s, e_seq_t, e_seq_z, e_rev_l, e_rev_s, e_i1, e_i2, e_l1, e_l1s, e_l2, e_p2, e_sl, e_o, e_ob, e_on, e_ml, e_md, e_c, e_tru_b, e_tru_n, e_tru_i, e_tru_t, e_tru_l, t_str_non, t_tup_non, t_int_non, t_bool_non, t_lst_non, t_dict_non, t_str_bl, t_tup_bl, t_int_bl, t_bool_bl, t_lst_bl, t_dict_bl, t_str_int, t_tup_int, t_int_int, t_bool_int, t_lst_int, t_dict_int, t_str_str, t_tup_str, t_int_str, t_bool_str, t_lst_str, t_dict_str, t_str_tup, t_tup_tup, t_int_tup, t_bool_tup, t_lst_tup, t_dict_tup, t_str_lst, t_tup_lst, t_int_lst, t_bool_lst, t_lst_lst, t_dict_lst, t_str_dic, t_tup_dic, t_int_dic, t_bool_dic, t_lst_dic, t_dict_dic, r_add_i, r_add_s, r_add_t, r_add_l, r_sub, r_mul, r_mul_l, r_fdiv, r_mod, r_pow, r_lt, r_ix_l, r_ix_t, r_ix_s, r_ix_rl, r_ix_rd, r_sl_l, r_sl_sl, r_sl_t, r_sl_s, r_len_l, r_len_sl, r_len_t, r_len_s, r_len_r, r_all, r_any, r_tuple_l, r_tuple_sl, r_tuple_t, r_tuple_r, r_list_l, r_list_sl, r_list_t, r_list_r, r_ord, r_repr, r_pop, r_app, r_ext, r_join, r_join_t, r_isl_r, r_isl_l, r_in, r_put_d, r_put_l, r_eq_i, r_eq_s, r_ne_i, r_ne_s, r_eq_t0, r_ne_t0, r_eq_r0, r_ne_r0, r_eq_l0, r_ne_l0, q_lstM, q_frz, e_fz_r, e_fz_non, e_fz_bl, e_fz_int, e_fz_str, e_fz_tup, e_fz_lst, e_fz_dic, q_drp, q_zs, e_zs_tup_tup, e_zs_tup_lst, e_zs_tup_slst, e_zs_lst_tup, e_zs_lst_lst, e_zs_lst_slst, e_zs_slst_tup, e_zs_slst_lst, e_zs_slst_slst, r_mem_s, r_mem_t, r_mem_l, r_int_i, r_int_b, r_listM_l, r_listM_sl, r_listM_t, r_start, wipeD, br_not, br_true, br_false, br_dec, List.map_cons, List.map_nil, List.length_cons, List.length_nil, List.replicate_succ, List.replicate_zero, List.cons_append, List.nil_append, List.getElem?_cons_zero, List.getElem?_cons_succ, List.getElem?_nil, List.set_cons_zero, List.set_cons_succ, Nat.reduceAdd, Nat.reduceSub, Nat.reduceLeDiff, Nat.zero_add, updM_same, true_and, List.isEmpty_nil, List.isEmpty_cons, Bool.not_true, Bool.not_false, Bool.not_not, q_revA, e_ra_l, e_ra_s, e_ra_t, e_ra_z, q_star, e_st_l, e_st_s, e_st_t, q_par3, e_p3, q_cont, r_mul2_i, r_mul2_l, r_mul2_s, r_le2_i, r_le2_s, r_lt2_i, r_lt2_s, r_sum, r_max2, r_min2, r_rst, r_spl, r_six, q_callX, q_callKX, q_raise, e_d1, q_try, q_tryW, q_xf, q_isX, e_cau, r_add2_i, r_add2_s, r_add2_t, r_add2_l, r_add2_rl, r_add2_lr, q_sliM, r_slM, q_kdef, q_mix21, q_mix03, q_for]
  intro L1 hL1 L2 hL2
  have n12 : L2 ≠ L1 := fun z => by
    rw [z, updM_same] at hL2
    cases hL2
  have hL2' : M L2 = none := by
    rw [updM_ne n12] at hL2
    exact hL2
  obtain ⟨p1, p2⟩ := hd.off hL1
  obtain ⟨p3, p4⟩ := hd.off hL2'
  refine ⟨c, (hd.upd p1 p2).upd p3 p4, by decide, by decide, fun r M1 r0 r1 h1 o1 => ?_⟩
  simp only [q_v, q_c, q_tup, q_lst, q_op, q_nil, q_cons, q_tst, q_tru, q_andT, q_orT, q_notT, q_andV, q_orV, q_notV, q_ifE, q_next, q_seq, q_asg, q_drop, q_ret, q_retN, q_ifS, q_par, q_isi, q_blt, q_call, q_callK, q_kid, q_kswap, q_chain, q_neg, q_isN, q_notN, q_noO, q_someO, q_sli, q_rev, q_revM, q_bm, q_bm0, q_m1, q_seqI, q_rng, q_rng2, q_enum, q_zip, q_gnm, q_gtp, q_gs0, q_gs1, q_yes, q_put, e_bl, e_int, e_str, e_lst, e_n_non, e_n_bl, e_n_int, e_n_str, e_n_tup, e_n_lst, e_n_slst, e_n_dic, e_n_ref, e_seq_l, e_seq_s, e_seq_t, e_seq_z, e_rev_l, e_rev_s, e_i1, e_i2, e_l1, e_l1s, e_l2, e_p2, e_sl, e_o, e_ob, e_on, e_ml, e_md, e_c, e_tru_b, e_tru_n, e_tru_i, e_tru_t, e_tru_l, t_str_non, t_tup_non, t_int_non, t_bool_non, t_lst_non, t_dict_non, t_str_bl, t_tup_bl, t_int_bl, t_bool_bl, t_lst_bl, t_dict_bl, t_str_int, t_tup_int, t_int_int, t_bool_int, t_lst_int, t_dict_int, t_str_str, t_tup_str, t_int_str, t_bool_str, t_lst_str, t_dict_str, t_str_tup, t_tup_tup, t_int_tup, t_bool_tup, t_lst_tup, t_dict_tup, t_str_lst, t_tup_lst, t_int_lst, t_bool_lst, t_lst_lst, t_dict_lst, t_str_dic, t_tup_dic, t_int_dic, t_bool_dic, t_lst_dic, t_dict_dic, r_add_i, r_add_s, r_add_t, r_add_l, r_sub, r_mul, r_mul_l, r_fdiv, r_mod, r_pow, r_lt, r_ix_l, r_ix_t, r_ix_s, r_ix_rl, r_ix_rd, r_sl_l, r_sl_sl, r_sl_t, r_sl_s, r_len_l, r_len_sl, r_len_t, r_len_s, r_len_r, r_all, r_any, r_tuple_l, r_tuple_sl, r_tuple_t, r_tuple_r, r_list_l, r_list_sl, r_list_t, r_list_r, r_ord, r_repr, r_pop, r_app, r_ext, r_join, r_join_t, r_isl_r, r_isl_l, r_in, r_put_d, r_put_l, r_eq_i, r_eq_s, r_ne_i, r_ne_s, r_eq_t0, r_ne_t0, r_eq_r0, r_ne_r0, r_eq_l0, r_ne_l0, q_lstM, q_frz, e_fz_r, e_fz_non, e_fz_bl, e_fz_int, e_fz_str, e_fz_tup, e_fz_lst, e_fz_dic, q_drp, q_zs, e_zs_tup_tup, e_zs_tup_lst, e_zs_tup_slst, e_zs_lst_tup, e_zs_lst_lst, e_zs_lst_slst, e_zs_slst_tup, e_zs_slst_lst, e_zs_slst_slst, r_mem_s, r_mem_t, r_mem_l, r_int_i, r_int_b, r_listM_l, r_listM_sl, r_listM_t, r_start, wipeD, br_not, br_true, br_false, br_dec, List.map_cons, List.map_nil, List.length_cons, List.length_nil, List.replicate_succ, List.replicate_zero, List.cons_append, List.nil_append, List.getElem?_cons_zero, List.getElem?_cons_succ, List.getElem?_nil, List.set_cons_zero, List.set_cons_succ, Nat.reduceAdd, Nat.reduceSub, Nat.reduceLeDiff, Nat.zero_add, updM_same, true_and, List.isEmpty_nil, List.isEmpty_cons, Bool.not_true, Bool.not_false, Bool.not_not, q_revA, e_ra_l, e_ra_s, e_ra_t, e_ra_z, q_star, e_st_l, e_st_s, e_st_t, q_par3, e_p3, q_cont, r_mul2_i, r_mul2_l, r_mul2_s, r_le2_i, r_le2_s, r_lt2_i, r_lt2_s, r_sum, r_max2, r_min2, r_rst, r_spl, r_six, q_callX, q_callKX, q_raise, e_d1, q_try, q_tryW, q_xf, q_isX, e_cau, r_add2_i, r_add2_s, r_add2_t, r_add2_l, r_add2_rl, r_add2_lr, q_sliM, r_slM, q_kdef, q_mix21, q_mix03]
  refine ⟨⟨by omega, by omega⟩, ?_⟩
  have b1 : M1 L1 = some (.lst []) := by rw [o1 L1 p1 p2, updM_ne n12.symm, updM_same]
  have b2 : M1 L2 = some (.lst []) := by rw [o1 L2 p3 p4, updM_same]
  have b3 : ∀ b, b ≠ a → b ≠ c → b ≠ L1 → b ≠ L2 → M1 b = M b := fun b x1 x2 x3 x4 => by rw [o1 b x1 x2, updM_ne x4, updM_ne x3]
  refine for_inv (fun i ds' M' => ∃ (rows : List Stp) (x y : Option D), ds' = [some (.ref a), some (.ref L1), some (.ref L2), x, y] ∧ RwC rows ∧ rows.length ≤ i ∧ (0 < i → rows ≠ []) ∧ M' L1 = some (.lst (rows.map sD)) ∧ M' L2 = some (.lst (((exs rows).map List.length).map nD)) ∧ HandAt M' a c ∧ ∀ b, b ≠ a → b ≠ c → b ≠ L1 → b ≠ L2 → M' b = M b)
    ⟨[], _, _, rfl, ⟨fun i s g => by simp at g, by decide, fun l hl => by cases hl⟩, Nat.le_refl _, fun z => absurd z (by decide), b1, b2, h1, b3⟩ (fun i d ds' M' hi w => ?_) fun ds' M' w => ?_
  · obtain ⟨rows, x, y, rfl, hr, li, ne, m1, m2, hh, mo⟩ := w
    have hi' : i < 12 := by
      have := (List.getElem?_eq_some_iff.mp hi).1
      rw [List.length_map, List.length_range] at this
      omega
    simp only [q_v, q_c, q_tup, q_lst, q_op, q_nil, q_cons, q_tst, q_tru, q_andT, q_orT, q_notT, q_andV, q_orV, q_notV, q_ifE, q_next, q_seq, q_asg, q_drop, q_ret, q_retN, q_ifS, q_par, q_isi, q_blt, q_call, q_callK, q_kid, q_kswap, q_chain, q_neg, q_isN, q_notN, q_noO, q_someO, q_sli, q_rev, q_revM, q_bm, q_bm0, q_m1, q_seqI, q_rng, q_rng2, q_enum, q_zip, q_gnm, q_gtp, q_gs0, q_gs1, q_yes, q_put, e_bl, e_int, e_str, e_lst, e_n_non, e_n_bl, e_n_int, e_n_str, e_n_tup, e_n_lst, e_n_slst, e_n_dic, e_n_ref, e_seq_l, e_seq_s, e_seq_t, e_seq_z, e_rev_l, e_rev_s, e_i1, e_i2, e_l1, e_l1s, e_l2, e_p2, e_sl, e_o, e_ob, e_on, e_ml, e_md, e_c, e_tru_b, e_tru_n, e_tru_i, e_tru_t, e_tru_l, t_str_non, t_tup_non, t_int_non, t_bool_non, t_lst_non, t_dict_non, t_str_bl, t_tup_bl, t_int_bl, t_bool_bl, t_lst_bl, t_dict_bl, t_str_int, t_tup_int, t_int_int, t_bool_int, t_lst_int, t_dict_int, t_str_str, t_tup_str, t_int_str, t_bool_str, t_lst_str, t_dict_str, t_str_tup, t_tup_tup, t_int_tup, t_bool_tup, t_lst_tup, t_dict_tup, t_str_lst, t_tup_lst, t_int_lst, t_bool_lst, t_lst_lst, t_dict_lst, t_str_dic, t_tup_dic, t_int_dic, t_bool_dic, t_lst_dic, t_dict_dic, r_add_i, r_add_s, r_add_t, r_add_l, r_sub, r_mul, r_mul_l, r_fdiv, r_mod, r_pow, r_lt, r_ix_l, r_ix_t, r_ix_s, r_ix_rl, r_ix_rd, r_sl_l, r_sl_sl, r_sl_t, r_sl_s, r_len_l, r_len_sl, r_len_t, r_len_s, r_len_r, r_all, r_any, r_tuple_l, r_tuple_sl, r_tuple_t, r_tuple_r, r_list_l, r_list_sl, r_list_t, r_list_r, r_ord, r_repr, r_pop, r_app, r_ext, r_join, r_join_t, r_isl_r, r_isl_l, r_in, r_put_d, r_put_l, r_eq_i, r_eq_s, r_ne_i, r_ne_s, r_eq_t0, r_ne_t0, r_eq_r0, r_ne_r0, r_eq_l0, r_ne_l0, q_lstM, q_frz, e_fz_r, e_fz_non, e_fz_bl, e_fz_int, e_fz_str, e_fz_tup, e_fz_lst, e_fz_dic, q_drp, q_zs, e_zs_tup_tup, e_zs_tup_lst, e_zs_tup_slst, e_zs_lst_tup, e_zs_lst_lst, e_zs_lst_slst, e_zs_slst_tup, e_zs_slst_lst, e_zs_slst_slst, r_mem_s, r_mem_t, r_mem_l, r_int_i, r_int_b, r_listM_l, r_listM_sl, r_listM_t, r_start, wipeD, br_not, br_true, br_false, br_dec, List.map_cons, List.map_nil, List.length_cons, List.length_nil, List.replicate_succ, List.replicate_zero, List.cons_append, List.nil_append, List.getElem?_cons_zero, List.getElem?_cons_succ, List.getElem?_nil, List.set_cons_zero, List.set_cons_succ, Nat.reduceAdd, Nat.reduceSub, Nat.reduceLeDiff, Nat.zero_add, updM_same, true_and, List.isEmpty_nil, List.isEmpty_cons, Bool.not_true, Bool.not_false, Bool.not_not, q_revA, e_ra_l, e_ra_s, e_ra_t, e_ra_z, q_star, e_st_l, e_st_s, e_st_t, q_par3, e_p3, q_cont, r_mul2_i, r_mul2_l, r_mul2_s, r_le2_i, r_le2_s, r_lt2_i, r_lt2_s, r_sum, r_max2, r_min2, r_rst, r_spl, r_six, q_callX, q_callKX, q_raise, e_d1, q_try, q_tryW, q_xf, q_isX, e_cau, r_add2_i, r_add2_s, r_add2_t, r_add2_l, r_add2_rl, r_add2_lr, q_sliM, r_slM, q_kdef, q_mix21, q_mix03, m1, List.length_map]
    refine ⟨a, c, rows.length, rfl, hh, by omega, fun s M2 hs h2 o2 => ?_⟩
    have m1' : M2 L1 = some (.lst (rows.map sD)) := (o2 L1 p1 p2).trans m1
    have m2' : M2 L2 = some (.lst (((exs rows).map List.length).map nD)) := (o2 L2 p3 p4).trans m2
    have mo' : ∀ b, b ≠ a → b ≠ c → b ≠ L1 → b ≠ L2 → M2 b = M b := fun b x1 x2 x3 x4 => (o2 b x1 x2).trans (mo b x1 x2 x3 x4)
    have vs : Val (exs rows).length (parts s) := by rw [exs_len]; exact hs.val
    simp only [q_v, q_c, q_tup, q_lst, q_op, q_nil, q_cons, q_tst, q_tru, q_andT, q_orT, q_notT, q_andV, q_orV, q_notV, q_ifE, q_next, q_seq, q_asg, q_drop, q_ret, q_retN, q_ifS, q_par, q_isi, q_blt, q_call, q_callK, q_kid, q_kswap, q_chain, q_neg, q_isN, q_notN, q_noO, q_someO, q_sli, q_rev, q_revM, q_bm, q_bm0, q_m1, q_seqI, q_rng, q_rng2, q_enum, q_zip, q_gnm, q_gtp, q_gs0, q_gs1, q_yes, q_put, e_bl, e_int, e_str, e_lst, e_n_non, e_n_bl, e_n_int, e_n_str, e_n_tup, e_n_lst, e_n_slst, e_n_dic, e_n_ref, e_seq_l, e_seq_s, e_seq_t, e_seq_z, e_rev_l, e_rev_s, e_i1, e_i2, e_l1, e_l1s, e_l2, e_p2, e_sl, e_o, e_ob, e_on, e_ml, e_md, e_c, e_tru_b, e_tru_n, e_tru_i, e_tru_t, e_tru_l, t_str_non, t_tup_non, t_int_non, t_bool_non, t_lst_non, t_dict_non, t_str_bl, t_tup_bl, t_int_bl, t_bool_bl, t_lst_bl, t_dict_bl, t_str_int, t_tup_int, t_int_int, t_bool_int, t_lst_int, t_dict_int, t_str_str, t_tup_str, t_int_str, t_bool_str, t_lst_str, t_dict_str, t_str_tup, t_tup_tup, t_int_tup, t_bool_tup, t_lst_tup, t_dict_tup, t_str_lst, t_tup_lst, t_int_lst, t_bool_lst, t_lst_lst, t_dict_lst, t_str_dic, t_tup_dic, t_int_dic, t_bool_dic, t_lst_dic, t_dict_dic, r_add_i, r_add_s, r_add_t, r_add_l, r_sub, r_mul, r_mul_l, r_fdiv, r_mod, r_pow, r_lt, r_ix_l, r_ix_t, r_ix_s, r_ix_rl, r_ix_rd, r_sl_l, r_sl_sl, r_sl_t, r_sl_s, r_len_l, r_len_sl, r_len_t, r_len_s, r_len_r, r_all, r_any, r_tuple_l, r_tuple_sl, r_tuple_t, r_tuple_r, r_list_l, r_list_sl, r_list_t, r_list_r, r_ord, r_repr, r_pop, r_app, r_ext, r_join, r_join_t, r_isl_r, r_isl_l, r_in, r_put_d, r_put_l, r_eq_i, r_eq_s, r_ne_i, r_ne_s, r_eq_t0, r_ne_t0, r_eq_r0, r_ne_r0, r_eq_l0, r_ne_l0, q_lstM, q_frz, e_fz_r, e_fz_non, e_fz_bl, e_fz_int, e_fz_str, e_fz_tup, e_fz_lst, e_fz_dic, q_drp, q_zs, e_zs_tup_tup, e_zs_tup_lst, e_zs_tup_slst, e_zs_lst_tup, e_zs_lst_lst, e_zs_lst_slst, e_zs_slst_tup, e_zs_slst_lst, e_zs_slst_slst, r_mem_s, r_mem_t, r_mem_l, r_int_i, r_int_b, r_listM_l, r_listM_sl, r_listM_t, r_start, wipeD, br_not, br_true, br_false, br_dec, List.map_cons, List.map_nil, List.length_cons, List.length_nil, List.replicate_succ, List.replicate_zero, List.cons_append, List.nil_append, List.getElem?_cons_zero, List.getElem?_cons_succ, List.getElem?_nil, List.set_cons_zero, List.set_cons_succ, Nat.reduceAdd, Nat.reduceSub, Nat.reduceLeDiff, Nat.zero_add, updM_same, true_and, List.isEmpty_nil, List.isEmpty_cons, Bool.not_true, Bool.not_false, Bool.not_not, q_revA, e_ra_l, e_ra_s, e_ra_t, e_ra_z, q_star, e_st_l, e_st_s, e_st_t, q_par3, e_p3, q_cont, r_mul2_i, r_mul2_l, r_mul2_s, r_le2_i, r_le2_s, r_lt2_i, r_lt2_s, r_sum, r_max2, r_min2, r_rst, r_spl, r_six, q_callX, q_callKX, q_raise, e_d1, q_try, q_tryW, q_xf, q_isX, e_cau, r_add2_i, r_add2_s, r_add2_t, r_add2_l, r_add2_rl, r_add2_lr, q_sliM, r_slM, q_kdef, q_mix21, q_mix03]
    refine ⟨s, L2, exs rows, rfl, m2', vs, hs.f4, ?_⟩
    simp only [nD, q_v, q_c, q_tup, q_lst, q_op, q_nil, q_cons, q_tst, q_tru, q_andT, q_orT, q_notT, q_andV, q_orV, q_notV, q_ifE, q_next, q_seq, q_asg, q_drop, q_ret, q_retN, q_ifS, q_par, q_isi, q_blt, q_call, q_callK, q_kid, q_kswap, q_chain, q_neg, q_isN, q_notN, q_noO, q_someO, q_sli, q_rev, q_revM, q_bm, q_bm0, q_m1, q_seqI, q_rng, q_rng2, q_enum, q_zip, q_gnm, q_gtp, q_gs0, q_gs1, q_yes, q_put, e_bl, e_int, e_str, e_lst, e_n_non, e_n_bl, e_n_int, e_n_str, e_n_tup, e_n_lst, e_n_slst, e_n_dic, e_n_ref, e_seq_l, e_seq_s, e_seq_t, e_seq_z, e_rev_l, e_rev_s, e_i1, e_i2, e_l1, e_l1s, e_l2, e_p2, e_sl, e_o, e_ob, e_on, e_ml, e_md, e_c, e_tru_b, e_tru_n, e_tru_i, e_tru_t, e_tru_l, t_str_non, t_tup_non, t_int_non, t_bool_non, t_lst_non, t_dict_non, t_str_bl, t_tup_bl, t_int_bl, t_bool_bl, t_lst_bl, t_dict_bl, t_str_int, t_tup_int, t_int_int, t_bool_int, t_lst_int, t_dict_int, t_str_str, t_tup_str, t_int_str, t_bool_str, t_lst_str, t_dict_str, t_str_tup, t_tup_tup, t_int_tup, t_bool_tup, t_lst_tup, t_dict_tup, t_str_lst, t_tup_lst, t_int_lst, t_bool_lst, t_lst_lst, t_dict_lst, t_str_dic, t_tup_dic, t_int_dic, t_bool_dic, t_lst_dic, t_dict_dic, r_add_i, r_add_s, r_add_t, r_add_l, r_sub, r_mul, r_mul_l, r_fdiv, r_mod, r_pow, r_lt, r_ix_l, r_ix_t, r_ix_s, r_ix_rl, r_ix_rd, r_sl_l, r_sl_sl, r_sl_t, r_sl_s, r_len_l, r_len_sl, r_len_t, r_len_s, r_len_r, r_all, r_any, r_tuple_l, r_tuple_sl, r_tuple_t, r_tuple_r, r_list_l, r_list_sl, r_list_t, r_list_r, r_ord, r_repr, r_pop, r_app, r_ext, r_join, r_join_t, r_isl_r, r_isl_l, r_in, r_put_d, r_put_l, r_eq_i, r_eq_s, r_ne_i, r_ne_s, r_eq_t0, r_ne_t0, r_eq_r0, r_ne_r0, r_eq_l0, r_ne_l0, q_lstM, q_frz, e_fz_r, e_fz_non, e_fz_bl, e_fz_int, e_fz_str, e_fz_tup, e_fz_lst, e_fz_dic, q_drp, q_zs, e_zs_tup_tup, e_zs_tup_lst, e_zs_tup_slst, e_zs_lst_tup, e_zs_lst_lst, e_zs_lst_slst, e_zs_slst_tup, e_zs_slst_lst, e_zs_slst_slst, r_mem_s, r_mem_t, r_mem_l, r_int_i, r_int_b, r_listM_l, r_listM_sl, r_listM_t, r_start, wipeD, br_not, br_true, br_false, br_dec, List.map_cons, List.map_nil, List.length_cons, List.length_nil, List.replicate_succ, List.replicate_zero, List.cons_append, List.nil_append, List.getElem?_cons_zero, List.getElem?_cons_succ, List.getElem?_nil, List.set_cons_zero, List.set_cons_succ, Nat.reduceAdd, Nat.reduceSub, Nat.reduceLeDiff, Nat.zero_add, updM_same, true_and, List.isEmpty_nil, List.isEmpty_cons, Bool.not_true, Bool.not_false, Bool.not_not, q_revA, e_ra_l, e_ra_s, e_ra_t, e_ra_z, q_star, e_st_l, e_st_s, e_st_t, q_par3, e_p3, q_cont, r_mul2_i, r_mul2_l, r_mul2_s, r_le2_i, r_le2_s, r_lt2_i, r_lt2_s, r_sum, r_max2, r_min2, r_rst, r_spl, r_six, q_callX, q_callKX, q_raise, e_d1, q_try, q_tryW, q_xf, q_isX, e_cau, r_add2_i, r_add2_s, r_add2_t, r_add2_l, r_add2_rl, r_add2_lr, q_sliM, r_slM, q_kdef, q_mix21, q_mix03, m1', List.length_map]
    refine ⟨fun h6 => ?_, fun h6 => ?_⟩
    · have n12' : rows.length < 12 := by omega
      refine ⟨by omega, by rw [updM_ne n12, m2']; trivial, s, L2, exs rows, rfl, by rw [updM_ne n12]; exact m2', vs, hs.f4, ?_⟩
      simp only [nD, q_v, q_c, q_tup, q_lst, q_op, q_nil, q_cons, q_tst, q_tru, q_andT, q_orT, q_notT, q_andV, q_orV, q_notV, q_ifE, q_next, q_seq, q_asg, q_drop, q_ret, q_retN, q_ifS, q_par, q_isi, q_blt, q_call, q_callK, q_kid, q_kswap, q_chain, q_neg, q_isN, q_notN, q_noO, q_someO, q_sli, q_rev, q_revM, q_bm, q_bm0, q_m1, q_seqI, q_rng, q_rng2, q_enum, q_zip, q_gnm, q_gtp, q_gs0, q_gs1, q_yes, q_put, e_bl, e_int, e_str, e_lst, e_n_non, e_n_bl, e_n_int, e_n_str, e_n_tup, e_n_lst, e_n_slst, e_n_dic, e_n_ref, e_seq_l, e_seq_s, e_seq_t, e_seq_z, e_rev_l, e_rev_s, e_i1, e_i2, e_l1, e_l1s, e_l2, e_p2, e_sl, e_o, e_ob, e_on, e_ml, e_md, e_c, e_tru_b, e_tru_n, e_tru_i, e_tru_t, e_tru_l, t_str_non, t_tup_non, t_int_non, t_bool_non, t_lst_non, t_dict_non, t_str_bl, t_tup_bl, t_int_bl, t_bool_bl, t_lst_bl, t_dict_bl, t_str_int, t_tup_int, t_int_int, t_bool_int, t_lst_int, t_dict_int, t_str_str, t_tup_str, t_int_str, t_bool_str, t_lst_str, t_dict_str, t_str_tup, t_tup_tup, t_int_tup, t_bool_tup, t_lst_tup, t_dict_tup, t_str_lst, t_tup_lst, t_int_lst, t_bool_lst, t_lst_lst, t_dict_lst, t_str_dic, t_tup_dic, t_int_dic, t_bool_dic, t_lst_dic, t_dict_dic, r_add_i, r_add_s, r_add_t, r_add_l, r_sub, r_mul, r_mul_l, r_fdiv, r_mod, r_pow, r_lt, r_ix_l, r_ix_t, r_ix_s, r_ix_rl, r_ix_rd, r_sl_l, r_sl_sl, r_sl_t, r_sl_s, r_len_l, r_len_sl, r_len_t, r_len_s, r_len_r, r_all, r_any, r_tuple_l, r_tuple_sl, r_tuple_t, r_tuple_r, r_list_l, r_list_sl, r_list_t, r_list_r, r_ord, r_repr, r_pop, r_app, r_ext, r_join, r_join_t, r_isl_r, r_isl_l, r_in, r_put_d, r_put_l, r_eq_i, r_eq_s, r_ne_i, r_ne_s, r_eq_t0, r_ne_t0, r_eq_r0, r_ne_r0, r_eq_l0, r_ne_l0, q_lstM, q_frz, e_fz_r, e_fz_non, e_fz_bl, e_fz_int, e_fz_str, e_fz_tup, e_fz_lst, e_fz_dic, q_drp, q_zs, e_zs_tup_tup, e_zs_tup_lst, e_zs_tup_slst, e_zs_lst_tup, e_zs_lst_lst, e_zs_lst_slst, e_zs_slst_tup, e_zs_slst_lst, e_zs_slst_slst, r_mem_s, r_mem_t, r_mem_l, r_int_i, r_int_b, r_listM_l, r_listM_sl, r_listM_t, r_start, wipeD, br_not, br_true, br_false, br_dec, List.map_cons, List.map_nil, List.length_cons, List.length_nil, List.replicate_succ, List.replicate_zero, List.cons_append, List.nil_append, List.getElem?_cons_zero, List.getElem?_cons_succ, List.getElem?_nil, List.set_cons_zero, List.set_cons_succ, Nat.reduceAdd, Nat.reduceSub, Nat.reduceLeDiff, Nat.zero_add, updM_same, true_and, List.isEmpty_nil, List.isEmpty_cons, Bool.not_true, Bool.not_false, Bool.not_not, q_revA, e_ra_l, e_ra_s, e_ra_t, e_ra_z, q_star, e_st_l, e_st_s, e_st_t, q_par3, e_p3, q_cont, r_mul2_i, r_mul2_l, r_mul2_s, r_le2_i, r_le2_s, r_lt2_i, r_lt2_s, r_sum, r_max2, r_min2, r_rst, r_spl, r_six, q_callX, q_callKX, q_raise, e_d1, q_try, q_tryW, q_xf, q_isX, e_cau, r_add2_i, r_add2_s, r_add2_t, r_add2_l, r_add2_rl, r_add2_lr, q_sliM, r_slM, q_kdef, q_mix21, q_mix03, updM_ne n12, m2', List.length_map, exs_len]
      refine ⟨by omega, rows ++ [s], _, _, rfl, hr.snoc hs n12' (by omega), by rw [List.length_append, List.length_singleton]; omega, fun _ => by simp, ?_, ?_, ?_, fun b x1 x2 x3 x4 => ?_⟩
      · rw [updM_ne n12.symm, updM_same, List.map_append]
        rfl
      · have e : exs (rows ++ [s]) = exs rows ++ [exI (parts s) (exs rows)] := bld_snoc _ rows s
        try rw [updM_same]
        rw [e, List.map_append, List.map_append]
        rfl
      · exact (h2.upd p1 p2).upd p3 p4
      · rw [updM_ne x4, updM_ne x3]
        exact mo' b x1 x2 x3 x4
    · refine ⟨rows, _, _, rfl, hr, by omega, fun _ => ?_, by first | exact m1' | rfl, by first | exact m2' | rfl, h2, mo'⟩
      rcases Nat.eq_zero_or_pos i with q | q
      · exfalso
        have e0 : rows = [] := List.length_eq_zero_iff.mp (by omega)
        subst e0
        have := small0 hs
        omega
      · exact ne q
  · obtain ⟨rows, x, y, rfl, hr, li, ne, m1, m2, hh, mo⟩ := w
    rw [List.length_map, List.length_range] at li ne
    simp only [q_v, q_c, q_tup, q_lst, q_op, q_nil, q_cons, q_tst, q_tru, q_andT, q_orT, q_notT, q_andV, q_orV, q_notV, q_ifE, q_next, q_seq, q_asg, q_drop, q_ret, q_retN, q_ifS, q_par, q_isi, q_blt, q_call, q_callK, q_kid, q_kswap, q_chain, q_neg, q_isN, q_notN, q_noO, q_someO, q_sli, q_rev, q_revM, q_bm, q_bm0, q_m1, q_seqI, q_rng, q_rng2, q_enum, q_zip, q_gnm, q_gtp, q_gs0, q_gs1, q_yes, q_put, e_bl, e_int, e_str, e_lst, e_n_non, e_n_bl, e_n_int, e_n_str, e_n_tup, e_n_lst, e_n_slst, e_n_dic, e_n_ref, e_seq_l, e_seq_s, e_seq_t, e_seq_z, e_rev_l, e_rev_s, e_i1, e_i2, e_l1, e_l1s, e_l2, e_p2, e_sl, e_o, e_ob, e_on, e_ml, e_md, e_c, e_tru_b, e_tru_n, e_tru_i, e_tru_t, e_tru_l, t_str_non, t_tup_non, t_int_non, t_bool_non, t_lst_non, t_dict_non, t_str_bl, t_tup_bl, t_int_bl, t_bool_bl, t_lst_bl, t_dict_bl, t_str_int, t_tup_int, t_int_int, t_bool_int, t_lst_int, t_dict_int, t_str_str, t_tup_str, t_int_str, t_bool_str, t_lst_str, t_dict_str, t_str_tup, t_tup_tup, t_int_tup, t_bool_tup, t_lst_tup, t_dict_tup, t_str_lst, t_tup_lst, t_int_lst, t_bool_lst, t_lst_lst, t_dict_lst, t_str_dic, t_tup_dic, t_int_dic, t_bool_dic, t_lst_dic, t_dict_dic, r_add_i, r_add_s, r_add_t, r_add_l, r_sub, r_mul, r_mul_l, r_fdiv, r_mod, r_pow, r_lt, r_ix_l, r_ix_t, r_ix_s, r_ix_rl, r_ix_rd, r_sl_l, r_sl_sl, r_sl_t, r_sl_s, r_len_l, r_len_sl, r_len_t, r_len_s, r_len_r, r_all, r_any, r_tuple_l, r_tuple_sl, r_tuple_t, r_tuple_r, r_list_l, r_list_sl, r_list_t, r_list_r, r_ord, r_repr, r_pop, r_app, r_ext, r_join, r_join_t, r_isl_r, r_isl_l, r_in, r_put_d, r_put_l, r_eq_i, r_eq_s, r_ne_i, r_ne_s, r_eq_t0, r_ne_t0, r_eq_r0, r_ne_r0, r_eq_l0, r_ne_l0, q_lstM, q_frz, e_fz_r, e_fz_non, e_fz_bl, e_fz_int, e_fz_str, e_fz_tup, e_fz_lst, e_fz_dic, q_drp, q_zs, e_zs_tup_tup, e_zs_tup_lst, e_zs_tup_slst, e_zs_lst_tup, e_zs_lst_lst, e_zs_lst_slst, e_zs_slst_tup, e_zs_slst_lst, e_zs_slst_slst, r_mem_s, r_mem_t, r_mem_l, r_int_i, r_int_b, r_listM_l, r_listM_sl, r_listM_t, r_start, wipeD, br_not, br_true, br_false, br_dec, List.map_cons, List.map_nil, List.length_cons, List.length_nil, List.replicate_succ, List.replicate_zero, List.cons_append, List.nil_append, List.getElem?_cons_zero, List.getElem?_cons_succ, List.getElem?_nil, List.set_cons_zero, List.set_cons_succ, Nat.reduceAdd, Nat.reduceSub, Nat.reduceLeDiff, Nat.zero_add, updM_same, true_and, List.isEmpty_nil, List.isEmpty_cons, Bool.not_true, Bool.not_false, Bool.not_not, q_revA, e_ra_l, e_ra_s, e_ra_t, e_ra_z, q_star, e_st_l, e_st_s, e_st_t, q_par3, e_p3, q_cont, r_mul2_i, r_mul2_l, r_mul2_s, r_le2_i, r_le2_s, r_lt2_i, r_lt2_s, r_sum, r_max2, r_min2, r_rst, r_spl, r_six, q_callX, q_callKX, q_raise, e_d1, q_try, q_tryW, q_xf, q_isX, e_cau, r_add2_i, r_add2_s, r_add2_t, r_add2_l, r_add2_rl, r_add2_lr, q_sliM, r_slM, q_kdef, q_mix21, q_mix03, m1]
    refine ⟨L2, L1, hF rows _ hr (ne (by omega)) ?_ fun b x1 x2 => ?_⟩
    · exact (hh.del p3 p4).del p1 p2
    · unfold delM
      by_cases q1 : b = L1
      · rw [if_pos q1, q1, hL1]
      · rw [if_neg q1]
        by_cases q2 : b = L2
        · rw [if_pos q2, q2, hL2']
        · rw [if_neg q2]
          exact mo b x1 x2 q1 q2
end K43

namespace K43
open PySem L2 Fx
/-! what is heard -/
def limD : D → Nat
  | .int i => i.toNat
  | _ => 2000
def hear (E : List Str) (m : Nat) : D := if E.length ≤ m then .tup (E.map .str) else .lst [nD E.length]
def R_l_heard : RD := fun xs M F => ∃ rows ps t, xs = [rD rows, psD ps, t] ∧ (t = .non ∨ ∃ m, t = nD m) ∧ RwOk rows ∧ Val rows.length ps ∧ ps.length ≤ 1000 ∧ (exI ps (exs rows)).length ≤ 100000 ∧ F (hear (exI ps (exs rows)) (limD t)) M
theorem ln_l_heard : ∀ xs M F, R_l_heard xs M F → xs.length = 3 := fun xs M F ⟨p, b, t, e, _⟩ => by rw [e]; rfl
theorem sub_tt : subN "TooLong" "TooLong" = true := by decide +kernel
theorem sub_tg : subN "TooLong" "GapError" = true := by decide +kernel
theorem look_length {v : D} : List.lookup ("length" : Str) ((["length"] : List Str).zip [v]) = some v := by
  rw [List.zip_cons_cons, List.lookup_cons]
  have : (("length" : Str) == ("length" : Str)) = true := beq_self_eq_true _
  rw [this]
theorem rd_l_heard : ∀ ds M F, R_l_heard ds M F → T_l_heard R_tokens_of { nx := fun _ M' => F .non M', rt := F } (startD 5 ds) M := by
  intro ds M F ⟨rows, ps, t, e, ht, hr, hv, hl, hb, h⟩
  subst e
  have key : ∀ (m : Nat) (G : DK) (W : XD), ((exI ps (exs rows)).length ≤ m → G (.tup ((exI ps (exs rows)).map .str)) M) → (¬ (exI ps (exs rows)).length ≤ m → W "TooLong" ["length"] [nD (exI ps (exs rows)).length] M) → R_tokens_of [rD rows, psD ps, nD m] M G W := by
    intro m G W h1 h2
    refine ⟨rows, ps, m, rfl, hr, hv, hl, hb, ?_⟩
    by_cases c : (exI ps (exs rows)).length ≤ m
    · rw [if_pos c]; exact h1 c
    · rw [if_neg c]; exact h2 c
  rcases ht with rfl | ⟨m, rfl⟩
  · have em : limD .non = 2000 := rfl
    rw [em] at h
    simp only [T_l_heard, q_v, q_c, q_tup, q_lst, q_op, q_nil, q_cons, q_tst, q_tru, q_andT, q_orT, q_notT, q_andV, q_orV, q_notV, q_ifE, q_next, q_seq, q_asg, q_drop, q_ret, q_retN, q_ifS, q_par, q_isi, q_blt, q_call, q_callK, q_kid, q_kswap, q_chain, q_neg, q_isN, q_notN, q_noO, q_someO, q_sli, q_rev, q_revM, q_bm, q_bm0, q_m1, q_seqI, q_rng, q_rng2, q_enum, q_zip, q_gnm, q_gtp, q_gs0, q_gs1, q_yes, q_put, e_bl, e_int, e_str, e_lst, e_n_non, e_n_bl, e_n_int, e_n_str, e_n_tup, e_n_lst, e_n_slst, e_n_dic, e_n_ref, e_seq_l, e_seq_s, e_seq_t, e_seq_z, e_rev_l, e_rev_s, e_i1, e_i2, e_l1, e_l1s, e_l2, e_p2, e_sl, e_o, e_ob, e_on, e_ml, e_md, e_c, e_tru_b, e_tru_n, e_tru_i, e_tru_t, e_tru_l, t_str_non, t_tup_non, t_int_non, t_bool_non, t_lst_non, t_dict_non, t_str_bl, t_tup_bl, t_int_bl, t_bool_bl, t_lst_bl, t_dict_bl, t_str_int, t_tup_int, t_int_int, t_bool_int, t_lst_int, t_dict_int, t_str_str, t_tup_str, t_int_str, t_bool_str, t_lst_str, t_dict_str, t_str_tup, t_tup_tup, t_int_tup, t_bool_tup, t_lst_tup, t_dict_tup, t_str_lst, t_tup_lst, t_int_lst, t_bool_lst, t_lst_lst, t_dict_lst, t_str_dic, t_tup_dic, t_int_dic, t_bool_dic, t_lst_dic, t_dict_dic, r_add_i, r_add_s, r_add_t, r_add_l, r_sub, r_mul, r_mul_l, r_fdiv, r_mod, r_pow, r_lt, r_ix_l, r_ix_t, r_ix_s, r_ix_rl, r_ix_rd, r_sl_l, r_sl_sl, r_sl_t, r_sl_s, r_len_l, r_len_sl, r_len_t, r_len_s, r_len_r, r_all, r_any, r_tuple_l, r_tuple_sl, r_tuple_t, r_tuple_r, r_list_l, r_list_sl, r_list_t, r_list_r, r_ord, r_repr, r_pop, r_app, r_ext, r_join, r_join_t, r_isl_r, r_isl_l, r_in, r_put_d, r_put_l, r_eq_i, r_eq_s, r_ne_i, r_ne_s, r_eq_t0, r_ne_t0, r_eq_r0, r_ne_r0, r_eq_l0, r_ne_l0, q_lstM, q_frz, e_fz_r, e_fz_non, e_fz_bl, e_fz_int, e_fz_str, e_fz_tup, e_fz_lst, e_fz_dic, q_drp, q_zs, e_zs_tup_tup, e_zs_tup_lst, e_zs_tup_slst, e_zs_lst_tup, e_zs_lst_lst, e_zs_lst_slst, e_zs_slst_tup, e_zs_slst_lst, e_zs_slst_slst, r_mem_s, r_mem_t, r_mem_l, r_int_i, r_int_b, r_listM_l, r_listM_sl, r_listM_t, r_start, wipeD, br_not, br_true, br_false, br_dec, List.map_cons, List.map_nil, List.length_cons, List.length_nil, List.replicate_succ, List.replicate_zero, List.cons_append, List.nil_append, List.getElem?_cons_zero, List.getElem?_cons_succ, List.getElem?_nil, List.set_cons_zero, List.set_cons_succ, Nat.reduceAdd, Nat.reduceSub, Nat.reduceLeDiff, Nat.zero_add, updM_same, true_and, List.isEmpty_nil, List.isEmpty_cons, Bool.not_true, Bool.not_false, Bool.not_not, q_revA, e_ra_l, e_ra_s, e_ra_t, e_ra_z, q_star, e_st_l, e_st_s, e_st_t, q_par3, e_p3, q_cont, r_mul2_i, r_mul2_l, r_mul2_s, r_le2_i, r_le2_s, r_lt2_i, r_lt2_s, r_sum, r_max2, r_min2, r_rst, r_spl, r_six, q_callX, q_callKX, q_raise, e_d1, q_try, q_tryW, q_xf, q_isX, e_cau, r_add2_i, r_add2_s, r_add2_t, r_add2_l, r_add2_rl, r_add2_lr, q_sliM, r_slM, q_kdef, q_mix21, q_mix03]
    refine key 2000 _ _ (fun c => ?_) fun c => ?_
    · unfold hear at h
      rw [if_pos c] at h
      exact h
    · unfold hear at h
      rw [if_neg c] at h
      simp only [q_v, q_c, q_tup, q_lst, q_op, q_nil, q_cons, q_tst, q_tru, q_andT, q_orT, q_notT, q_andV, q_orV, q_notV, q_ifE, q_next, q_seq, q_asg, q_drop, q_ret, q_retN, q_ifS, q_par, q_isi, q_blt, q_call, q_callK, q_kid, q_kswap, q_chain, q_neg, q_isN, q_notN, q_noO, q_someO, q_sli, q_rev, q_revM, q_bm, q_bm0, q_m1, q_seqI, q_rng, q_rng2, q_enum, q_zip, q_gnm, q_gtp, q_gs0, q_gs1, q_yes, q_put, e_bl, e_int, e_str, e_lst, e_n_non, e_n_bl, e_n_int, e_n_str, e_n_tup, e_n_lst, e_n_slst, e_n_dic, e_n_ref, e_seq_l, e_seq_s, e_seq_t, e_seq_z, e_rev_l, e_rev_s, e_i1, e_i2, e_l1, e_l1s, e_l2, e_p2, e_sl, e_o, e_ob, e_on, e_ml, e_md, e_c, e_tru_b, e_tru_n, e_tru_i, e_tru_t, e_tru_l, t_str_non, t_tup_non, t_int_non, t_bool_non, t_lst_non, t_dict_non, t_str_bl, t_tup_bl, t_int_bl, t_bool_bl, t_lst_bl, t_dict_bl, t_str_int, t_tup_int, t_int_int, t_bool_int, t_lst_int, t_dict_int, t_str_str, t_tup_str, t_int_str, t_bool_str, t_lst_str, t_dict_str, t_str_tup, t_tup_tup, t_int_tup, t_bool_tup, t_lst_tup, t_dict_tup, t_str_lst, t_tup_lst, t_int_lst, t_bool_lst, t_lst_lst, t_dict_lst, t_str_dic, t_tup_dic, t_int_dic, t_bool_dic, t_lst_dic, t_dict_dic, r_add_i, r_add_s, r_add_t, r_add_l, r_sub, r_mul, r_mul_l, r_fdiv, r_mod, r_pow, r_lt, r_ix_l, r_ix_t, r_ix_s, r_ix_rl, r_ix_rd, r_sl_l, r_sl_sl, r_sl_t, r_sl_s, r_len_l, r_len_sl, r_len_t, r_len_s, r_len_r, r_all, r_any, r_tuple_l, r_tuple_sl, r_tuple_t, r_tuple_r, r_list_l, r_list_sl, r_list_t, r_list_r, r_ord, r_repr, r_pop, r_app, r_ext, r_join, r_join_t, r_isl_r, r_isl_l, r_in, r_put_d, r_put_l, r_eq_i, r_eq_s, r_ne_i, r_ne_s, r_eq_t0, r_ne_t0, r_eq_r0, r_ne_r0, r_eq_l0, r_ne_l0, q_lstM, q_frz, e_fz_r, e_fz_non, e_fz_bl, e_fz_int, e_fz_str, e_fz_tup, e_fz_lst, e_fz_dic, q_drp, q_zs, e_zs_tup_tup, e_zs_tup_lst, e_zs_tup_slst, e_zs_lst_tup, e_zs_lst_lst, e_zs_lst_slst, e_zs_slst_tup, e_zs_slst_lst, e_zs_slst_slst, r_mem_s, r_mem_t, r_mem_l, r_int_i, r_int_b, r_listM_l, r_listM_sl, r_listM_t, r_start, wipeD, br_not, br_true, br_false, br_dec, List.map_cons, List.map_nil, List.length_cons, List.length_nil, List.replicate_succ, List.replicate_zero, List.cons_append, List.nil_append, List.getElem?_cons_zero, List.getElem?_cons_succ, List.getElem?_nil, List.set_cons_zero, List.set_cons_succ, Nat.reduceAdd, Nat.reduceSub, Nat.reduceLeDiff, Nat.zero_add, updM_same, true_and, List.isEmpty_nil, List.isEmpty_cons, Bool.not_true, Bool.not_false, Bool.not_not, q_revA, e_ra_l, e_ra_s, e_ra_t, e_ra_z, q_star, e_st_l, e_st_s, e_st_t, q_par3, e_p3, q_cont, r_mul2_i, r_mul2_l, r_mul2_s, r_le2_i, r_le2_s, r_lt2_i, r_lt2_s, r_sum, r_max2, r_min2, r_rst, r_spl, r_six, q_callX, q_callKX, q_raise, e_d1, q_try, q_tryW, q_xf, q_isX, e_cau, r_add2_i, r_add2_s, r_add2_t, r_add2_l, r_add2_rl, r_add2_lr, q_sliM, r_slM, q_kdef, q_mix21, q_mix03, sub_tt]
      refine ⟨by simp, fun a dd => ?_⟩
      simp only [q_v, q_c, q_tup, q_lst, q_op, q_nil, q_cons, q_tst, q_tru, q_andT, q_orT, q_notT, q_andV, q_orV, q_notV, q_ifE, q_next, q_seq, q_asg, q_drop, q_ret, q_retN, q_ifS, q_par, q_isi, q_blt, q_call, q_callK, q_kid, q_kswap, q_chain, q_neg, q_isN, q_notN, q_noO, q_someO, q_sli, q_rev, q_revM, q_bm, q_bm0, q_m1, q_seqI, q_rng, q_rng2, q_enum, q_zip, q_gnm, q_gtp, q_gs0, q_gs1, q_yes, q_put, e_bl, e_int, e_str, e_lst, e_n_non, e_n_bl, e_n_int, e_n_str, e_n_tup, e_n_lst, e_n_slst, e_n_dic, e_n_ref, e_seq_l, e_seq_s, e_seq_t, e_seq_z, e_rev_l, e_rev_s, e_i1, e_i2, e_l1, e_l1s, e_l2, e_p2, e_sl, e_o, e_ob, e_on, e_ml, e_md, e_c, e_tru_b, e_tru_n, e_tru_i, e_tru_t, e_tru_l, t_str_non, t_tup_non, t_int_non, t_bool_non, t_lst_non, t_dict_non, t_str_bl, t_tup_bl, t_int_bl, t_bool_bl, t_lst_bl, t_dict_bl, t_str_int, t_tup_int, t_int_int, t_bool_int, t_lst_int, t_dict_int, t_str_str, t_tup_str, t_int_str, t_bool_str, t_lst_str, t_dict_str, t_str_tup, t_tup_tup, t_int_tup, t_bool_tup, t_lst_tup, t_dict_tup, t_str_lst, t_tup_lst, t_int_lst, t_bool_lst, t_lst_lst, t_dict_lst, t_str_dic, t_tup_dic, t_int_dic, t_bool_dic, t_lst_dic, t_dict_dic, r_add_i, r_add_s, r_add_t, r_add_l, r_sub, r_mul, r_mul_l, r_fdiv, r_mod, r_pow, r_lt, r_ix_l, r_ix_t, r_ix_s, r_ix_rl, r_ix_rd, r_sl_l, r_sl_sl, r_sl_t, r_sl_s, r_len_l, r_len_sl, r_len_t, r_len_s, r_len_r, r_all, r_any, r_tuple_l, r_tuple_sl, r_tuple_t, r_tuple_r, r_list_l, r_list_sl, r_list_t, r_list_r, r_ord, r_repr, r_pop, r_app, r_ext, r_join, r_join_t, r_isl_r, r_isl_l, r_in, r_put_d, r_put_l, r_eq_i, r_eq_s, r_ne_i, r_ne_s, r_eq_t0, r_ne_t0, r_eq_r0, r_ne_r0, r_eq_l0, r_ne_l0, q_lstM, q_frz, e_fz_r, e_fz_non, e_fz_bl, e_fz_int, e_fz_str, e_fz_tup, e_fz_lst, e_fz_dic, q_drp, q_zs, e_zs_tup_tup, e_zs_tup_lst, e_zs_tup_slst, e_zs_lst_tup, e_zs_lst_lst, e_zs_lst_slst, e_zs_slst_tup, e_zs_slst_lst, e_zs_slst_slst, r_mem_s, r_mem_t, r_mem_l, r_int_i, r_int_b, r_listM_l, r_listM_sl, r_listM_t, r_start, wipeD, br_not, br_true, br_false, br_dec, List.map_cons, List.map_nil, List.length_cons, List.length_nil, List.replicate_succ, List.replicate_zero, List.cons_append, List.nil_append, List.getElem?_cons_zero, List.getElem?_cons_succ, List.getElem?_nil, List.set_cons_zero, List.set_cons_succ, Nat.reduceAdd, Nat.reduceSub, Nat.reduceLeDiff, Nat.zero_add, updM_same, true_and, List.isEmpty_nil, List.isEmpty_cons, Bool.not_true, Bool.not_false, Bool.not_not, q_revA, e_ra_l, e_ra_s, e_ra_t, e_ra_z, q_star, e_st_l, e_st_s, e_st_t, q_par3, e_p3, q_cont, r_mul2_i, r_mul2_l, r_mul2_s, r_le2_i, r_le2_s, r_lt2_i, r_lt2_s, r_sum, r_max2, r_min2, r_rst, r_spl, r_six, q_callX, q_callKX, q_raise, e_d1, q_try, q_tryW, q_xf, q_isX, e_cau, r_add2_i, r_add2_s, r_add2_t, r_add2_l, r_add2_rl, r_add2_lr, q_sliM, r_slM, q_kdef, q_mix21, q_mix03, sub_tg, look_length]
      exact ⟨by simp, h⟩
  · have em : limD (nD m) = m := Int.toNat_natCast m
    rw [em] at h
    simp only [T_l_heard, q_v, q_c, q_tup, q_lst, q_op, q_nil, q_cons, q_tst, q_tru, q_andT, q_orT, q_notT, q_andV, q_orV, q_notV, q_ifE, q_next, q_seq, q_asg, q_drop, q_ret, q_retN, q_ifS, q_par, q_isi, q_blt, q_call, q_callK, q_kid, q_kswap, q_chain, q_neg, q_isN, q_notN, q_noO, q_someO, q_sli, q_rev, q_revM, q_bm, q_bm0, q_m1, q_seqI, q_rng, q_rng2, q_enum, q_zip, q_gnm, q_gtp, q_gs0, q_gs1, q_yes, q_put, e_bl, e_int, e_str, e_lst, e_n_non, e_n_bl, e_n_int, e_n_str, e_n_tup, e_n_lst, e_n_slst, e_n_dic, e_n_ref, e_seq_l, e_seq_s, e_seq_t, e_seq_z, e_rev_l, e_rev_s, e_i1, e_i2, e_l1, e_l1s, e_l2, e_p2, e_sl, e_o, e_ob, e_on, e_ml, e_md, e_c, e_tru_b, e_tru_n, e_tru_i, e_tru_t, e_tru_l, t_str_non, t_tup_non, t_int_non, t_bool_non, t_lst_non, t_dict_non, t_str_bl, t_tup_bl, t_int_bl, t_bool_bl, t_lst_bl, t_dict_bl, t_str_int, t_tup_int, t_int_int, t_bool_int, t_lst_int, t_dict_int, t_str_str, t_tup_str, t_int_str, t_bool_str, t_lst_str, t_dict_str, t_str_tup, t_tup_tup, t_int_tup, t_bool_tup, t_lst_tup, t_dict_tup, t_str_lst, t_tup_lst, t_int_lst, t_bool_lst, t_lst_lst, t_dict_lst, t_str_dic, t_tup_dic, t_int_dic, t_bool_dic, t_lst_dic, t_dict_dic, r_add_i, r_add_s, r_add_t, r_add_l, r_sub, r_mul, r_mul_l, r_fdiv, r_mod, r_pow, r_lt, r_ix_l, r_ix_t, r_ix_s, r_ix_rl, r_ix_rd, r_sl_l, r_sl_sl, r_sl_t, r_sl_s, r_len_l, r_len_sl, r_len_t, r_len_s, r_len_r, r_all, r_any, r_tuple_l, r_tuple_sl, r_tuple_t, r_tuple_r, r_list_l, r_list_sl, r_list_t, r_list_r, r_ord, r_repr, r_pop, r_app, r_ext, r_join, r_join_t, r_isl_r, r_isl_l, r_in, r_put_d, r_put_l, r_eq_i, r_eq_s, r_ne_i, r_ne_s, r_eq_t0, r_ne_t0, r_eq_r0, r_ne_r0, r_eq_l0, r_ne_l0, q_lstM, q_frz, e_fz_r, e_fz_non, e_fz_bl, e_fz_int, e_fz_str, e_fz_tup, e_fz_lst, e_fz_dic, q_drp, q_zs, e_zs_tup_tup, e_zs_tup_lst, e_zs_tup_slst, e_zs_lst_tup, e_zs_lst_lst, e_zs_lst_slst, e_zs_slst_tup, e_zs_slst_lst, e_zs_slst_slst, r_mem_s, r_mem_t, r_mem_l, r_int_i, r_int_b, r_listM_l, r_listM_sl, r_listM_t, r_start, wipeD, br_not, br_true, br_false, br_dec, List.map_cons, List.map_nil, List.length_cons, List.length_nil, List.replicate_succ, List.replicate_zero, List.cons_append, List.nil_append, List.getElem?_cons_zero, List.getElem?_cons_succ, List.getElem?_nil, List.set_cons_zero, List.set_cons_succ, Nat.reduceAdd, Nat.reduceSub, Nat.reduceLeDiff, Nat.zero_add, updM_same, true_and, List.isEmpty_nil, List.isEmpty_cons, Bool.not_true, Bool.not_false, Bool.not_not, q_revA, e_ra_l, e_ra_s, e_ra_t, e_ra_z, q_star, e_st_l, e_st_s, e_st_t, q_par3, e_p3, q_cont, r_mul2_i, r_mul2_l, r_mul2_s, r_le2_i, r_le2_s, r_lt2_i, r_lt2_s, r_sum, r_max2, r_min2, r_rst, r_spl, r_six, q_callX, q_callKX, q_raise, e_d1, q_try, q_tryW, q_xf, q_isX, e_cau, r_add2_i, r_add2_s, r_add2_t, r_add2_l, r_add2_rl, r_add2_lr, q_sliM, r_slM, q_kdef, q_mix21, q_mix03, nD]
    refine key m _ _ (fun c => ?_) fun c => ?_
    · unfold hear at h
      rw [if_pos c] at h
      exact h
    · unfold hear at h
      rw [if_neg c] at h
      simp only [q_v, q_c, q_tup, q_lst, q_op, q_nil, q_cons, q_tst, q_tru, q_andT, q_orT, q_notT, q_andV, q_orV, q_notV, q_ifE, q_next, q_seq, q_asg, q_drop, q_ret, q_retN, q_ifS, q_par, q_isi, q_blt, q_call, q_callK, q_kid, q_kswap, q_chain, q_neg, q_isN, q_notN, q_noO, q_someO, q_sli, q_rev, q_revM, q_bm, q_bm0, q_m1, q_seqI, q_rng, q_rng2, q_enum, q_zip, q_gnm, q_gtp, q_gs0, q_gs1, q_yes, q_put, e_bl, e_int, e_str, e_lst, e_n_non, e_n_bl, e_n_int, e_n_str, e_n_tup, e_n_lst, e_n_slst, e_n_dic, e_n_ref, e_seq_l, e_seq_s, e_seq_t, e_seq_z, e_rev_l, e_rev_s, e_i1, e_i2, e_l1, e_l1s, e_l2, e_p2, e_sl, e_o, e_ob, e_on, e_ml, e_md, e_c, e_tru_b, e_tru_n, e_tru_i, e_tru_t, e_tru_l, t_str_non, t_tup_non, t_int_non, t_bool_non, t_lst_non, t_dict_non, t_str_bl, t_tup_bl, t_int_bl, t_bool_bl, t_lst_bl, t_dict_bl, t_str_int, t_tup_int, t_int_int, t_bool_int, t_lst_int, t_dict_int, t_str_str, t_tup_str, t_int_str, t_bool_str, t_lst_str, t_dict_str, t_str_tup, t_tup_tup, t_int_tup, t_bool_tup, t_lst_tup, t_dict_tup, t_str_lst, t_tup_lst, t_int_lst, t_bool_lst, t_lst_lst, t_dict_lst, t_str_dic, t_tup_dic, t_int_dic, t_bool_dic, t_lst_dic, t_dict_dic, r_add_i, r_add_s, r_add_t, r_add_l, r_sub, r_mul, r_mul_l, r_fdiv, r_mod, r_pow, r_lt, r_ix_l, r_ix_t, r_ix_s, r_ix_rl, r_ix_rd, r_sl_l, r_sl_sl, r_sl_t, r_sl_s, r_len_l, r_len_sl, r_len_t, r_len_s, r_len_r, r_all, r_any, r_tuple_l, r_tuple_sl, r_tuple_t, r_tuple_r, r_list_l, r_list_sl, r_list_t, r_list_r, r_ord, r_repr, r_pop, r_app, r_ext, r_join, r_join_t, r_isl_r, r_isl_l, r_in, r_put_d, r_put_l, r_eq_i, r_eq_s, r_ne_i, r_ne_s, r_eq_t0, r_ne_t0, r_eq_r0, r_ne_r0, r_eq_l0, r_ne_l0, q_lstM, q_frz, e_fz_r, e_fz_non, e_fz_bl, e_fz_int, e_fz_str, e_fz_tup, e_fz_lst, e_fz_dic, q_drp, q_zs, e_zs_tup_tup, e_zs_tup_lst, e_zs_tup_slst, e_zs_lst_tup, e_zs_lst_lst, e_zs_lst_slst, e_zs_slst_tup, e_zs_slst_lst, e_zs_slst_slst, r_mem_s, r_mem_t, r_mem_l, r_int_i, r_int_b, r_listM_l, r_listM_sl, r_listM_t, r_start, wipeD, br_not, br_true, br_false, br_dec, List.map_cons, List.map_nil, List.length_cons, List.length_nil, List.replicate_succ, List.replicate_zero, List.cons_append, List.nil_append, List.getElem?_cons_zero, List.getElem?_cons_succ, List.getElem?_nil, List.set_cons_zero, List.set_cons_succ, Nat.reduceAdd, Nat.reduceSub, Nat.reduceLeDiff, Nat.zero_add, updM_same, true_and, List.isEmpty_nil, List.isEmpty_cons, Bool.not_true, Bool.not_false, Bool.not_not, q_revA, e_ra_l, e_ra_s, e_ra_t, e_ra_z, q_star, e_st_l, e_st_s, e_st_t, q_par3, e_p3, q_cont, r_mul2_i, r_mul2_l, r_mul2_s, r_le2_i, r_le2_s, r_lt2_i, r_lt2_s, r_sum, r_max2, r_min2, r_rst, r_spl, r_six, q_callX, q_callKX, q_raise, e_d1, q_try, q_tryW, q_xf, q_isX, e_cau, r_add2_i, r_add2_s, r_add2_t, r_add2_l, r_add2_rl, r_add2_lr, q_sliM, r_slM, q_kdef, q_mix21, q_mix03, sub_tt]
      refine ⟨by simp, fun a dd => ?_⟩
      simp only [q_v, q_c, q_tup, q_lst, q_op, q_nil, q_cons, q_tst, q_tru, q_andT, q_orT, q_notT, q_andV, q_orV, q_notV, q_ifE, q_next, q_seq, q_asg, q_drop, q_ret, q_retN, q_ifS, q_par, q_isi, q_blt, q_call, q_callK, q_kid, q_kswap, q_chain, q_neg, q_isN, q_notN, q_noO, q_someO, q_sli, q_rev, q_revM, q_bm, q_bm0, q_m1, q_seqI, q_rng, q_rng2, q_enum, q_zip, q_gnm, q_gtp, q_gs0, q_gs1, q_yes, q_put, e_bl, e_int, e_str, e_lst, e_n_non, e_n_bl, e_n_int, e_n_str, e_n_tup, e_n_lst, e_n_slst, e_n_dic, e_n_ref, e_seq_l, e_seq_s, e_seq_t, e_seq_z, e_rev_l, e_rev_s, e_i1, e_i2, e_l1, e_l1s, e_l2, e_p2, e_sl, e_o, e_ob, e_on, e_ml, e_md, e_c, e_tru_b, e_tru_n, e_tru_i, e_tru_t, e_tru_l, t_str_non, t_tup_non, t_int_non, t_bool_non, t_lst_non, t_dict_non, t_str_bl, t_tup_bl, t_int_bl, t_bool_bl, t_lst_bl, t_dict_bl, t_str_int, t_tup_int, t_int_int, t_bool_int, t_lst_int, t_dict_int, t_str_str, t_tup_str, t_int_str, t_bool_str, t_lst_str, t_dict_str, t_str_tup, t_tup_tup, t_int_tup, t_bool_tup, t_lst_tup, t_dict_tup, t_str_lst, t_tup_lst, t_int_lst, t_bool_lst, t_lst_lst, t_dict_lst, t_str_dic, t_tup_dic, t_int_dic, t_bool_dic, t_lst_dic, t_dict_dic, r_add_i, r_add_s, r_add_t, r_add_l, r_sub, r_mul, r_mul_l, r_fdiv, r_mod, r_pow, r_lt, r_ix_l, r_ix_t, r_ix_s, r_ix_rl, r_ix_rd, r_sl_l, r_sl_sl, r_sl_t, r_sl_s, r_len_l, r_len_sl, r_len_t, r_len_s, r_len_r, r_all, r_any, r_tuple_l, r_tuple_sl, r_tuple_t, r_tuple_r, r_list_l, r_list_sl, r_list_t, r_list_r, r_ord, r_repr, r_pop, r_app, r_ext, r_join, r_join_t, r_isl_r, r_isl_l, r_in, r_put_d, r_put_l, r_eq_i, r_eq_s, r_ne_i, r_ne_s, r_eq_t0, r_ne_t0, r_eq_r0, r_ne_r0, r_eq_l0, r_ne_l0, q_lstM, q_frz, e_fz_r, e_fz_non, e_fz_bl, e_fz_int, e_fz_str, e_fz_tup, e_fz_lst, e_fz_dic, q_drp, q_zs, e_zs_tup_tup, e_zs_tup_lst, e_zs_tup_slst, e_zs_lst_tup, e_zs_lst_lst, e_zs_lst_slst, e_zs_slst_tup, e_zs_slst_lst, e_zs_slst_slst, r_mem_s, r_mem_t, r_mem_l, r_int_i, r_int_b, r_listM_l, r_listM_sl, r_listM_t, r_start, wipeD, br_not, br_true, br_false, br_dec, List.map_cons, List.map_nil, List.length_cons, List.length_nil, List.replicate_succ, List.replicate_zero, List.cons_append, List.nil_append, List.getElem?_cons_zero, List.getElem?_cons_succ, List.getElem?_nil, List.set_cons_zero, List.set_cons_succ, Nat.reduceAdd, Nat.reduceSub, Nat.reduceLeDiff, Nat.zero_add, updM_same, true_and, List.isEmpty_nil, List.isEmpty_cons, Bool.not_true, Bool.not_false, Bool.not_not, q_revA, e_ra_l, e_ra_s, e_ra_t, e_ra_z, q_star, e_st_l, e_st_s, e_st_t, q_par3, e_p3, q_cont, r_mul2_i, r_mul2_l, r_mul2_s, r_le2_i, r_le2_s, r_lt2_i, r_lt2_s, r_sum, r_max2, r_min2, r_rst, r_spl, r_six, q_callX, q_callKX, q_raise, e_d1, q_try, q_tryW, q_xf, q_isX, e_cau, r_add2_i, r_add2_s, r_add2_t, r_add2_l, r_add2_rl, r_add2_lr, q_sliM, r_slM, q_kdef, q_mix21, q_mix03, sub_tg, look_length]
      exact ⟨by simp, h⟩
theorem nD_itm {n k : Nat} (h : n ≤ 1000000) : Itm 2000 k (nD n) := by
  refine Itm.int ?_
  show (n : Int).natAbs.log2 < 1920
  rw [Int.natAbs_natCast]
  by_cases z : n = 0
  · subst z; decide
  · have : n.log2 < 20 := (Nat.log2_lt z).mpr (by have : (2 : Nat) ^ 20 = 1048576 := by decide
                                                  omega)
    omega
theorem tOk_s {t : Str} (h : tOk t = true) : sOk t ∧ t.length ≤ 9 := by
  unfold tOk at h
  rw [Bool.and_eq_true] at h
  exact ⟨h.1, of_decide_eq_true h.2⟩
theorem tOk_i {t : Str} {k : Nat} (h : tOk t = true) : Itm 94 k (.str t) := (Itm.ofStr (tOk_s h).1).mono (by have := (tOk_s h).2; omega) (Nat.le_refl _)
theorem ns_i {ns : List Nat} {k : Nat} (h : ∀ n ∈ ns, n < k) (hk : k ≤ 12) (hl : ns.length ≤ 4) : Itm 9000 1 (.tup (ns.map nD)) := by
  have : Itl (4 * (2000 + 2)) 0 (ns.map nD) := Itl.all (fun d hd => by
    obtain ⟨n, hn, rfl⟩ := List.mem_map.mp hd
    exact nD_itm (by have := h n hn; omega)) (by rw [List.length_map]; exact hl)
  exact (Itm.tup this).mono (by decide) (by decide)
theorem w_i {w : Str} (h : tOk w = true) {a b : D} (ha : Itm 94 1 a) (hb : Itm 9000 1 b) : Itm 10000 2 (.tup [.str w, a, b]) :=
  (Itm.tup (Itl.cons (tOk_i h) (Itl.cons ha (Itl.cons hb (Itl.nil (c := 0)))))).mono (by decide) (by decide)
theorem mem_listed {ns : List Nat} {n : Nat} (h : n ∈ ns) : Sum.inr n ∈ listed ns := by
  cases ns with
  | nil => cases h
  | cons m ns =>
    unfold listed
    show Sum.inr n ∈ (Sum.inr m :: ns.flatMap fun n => [.inl sC, .inr n])
    rcases List.mem_cons.mp h with e | e
    · rw [e]; exact List.mem_cons_self
    · exact List.mem_cons_of_mem _ (List.mem_flatMap.mpr ⟨n, e, by simp⟩)
theorem st_i {k : Nat} {s : Stp} (h : StL k s) (hk : k ≤ 12) : Itm 10000 2 (sD s) := by
  cases s with
  | tok t =>
    have ht := h.ch t (by unfold parts; simp)
    exact (Itm.tup (Itl.cons (tOk_i (t := "token") (by decide +kernel)) (Itl.cons (tOk_i ht) (Itl.nil (c := 0) (k := 1))))).mono (by decide) (by decide)
  | oper n a b =>
    have ht := h.ch n (by unfold parts; simp)
    refine w_i (w := "operator") (by decide +kernel) (tOk_i ht) (ns_i (ns := [a, b]) (k := k) (fun m hm => ?_) hk (by simp))
    simp only [List.mem_cons, List.not_mem_nil, or_false] at hm
    rcases hm with e | e <;> (rw [e]; exact h.val _ (by unfold parts; simp))
  | call n ns =>
    have ht := h.ch n (by unfold parts; simp)
    exact w_i (w := "call") (by decide +kernel) (tOk_i ht) (ns_i (k := k) (fun m hm => h.val m (by unfold parts; simp [mem_listed hm])) hk h.few)
  | meth n a ns =>
    have ht := h.ch n (by unfold parts; simp)
    have hf : ns.length ≤ 3 := h.few
    refine w_i (w := "method") (by decide +kernel) (tOk_i ht) (ns_i (ns := a :: ns) (k := k) (fun m hm => ?_) hk (by rw [List.length_cons]; omega))
    rcases List.mem_cons.mp hm with e | e
    · rw [e]; exact h.val _ (by unfold parts; simp)
    · exact h.val m (by unfold parts; simp [mem_listed e])
theorem rw_i {rows : List Stp} (h : RwC rows) : Itm 130000 3 (rD rows) := by
  have : Itl (12 * (10000 + 2)) 2 (rows.map sD) := Itl.all (fun d hd => by
    obtain ⟨s, hs, rfl⟩ := List.mem_map.mp hd
    obtain ⟨i, hi, e⟩ := List.getElem_of_mem hs
    exact st_i (h.st i s (by rw [List.getElem?_eq_some_iff]; exact ⟨hi, e⟩)) (by have := h.n12; omega)) (by rw [List.length_map]; exact h.n12)
  exact (Itm.tup this).mono (by decide) (by decide)
theorem ps_i {ps : List Prt} {k : Nat} (hv : Val k ps) (hk : k ≤ 12) (ht : ∀ t, Sum.inl t ∈ ps → tOk t = true) (hl : ps.length ≤ 8) : Itm 20000 3 (psD ps) := by
  have : Itl (8 * (2000 + 2)) 2 (ps.map pD) := Itl.all (fun d hd => by
    obtain ⟨p, hp, rfl⟩ := List.mem_map.mp hd
    cases p with
    | inl t => exact (tOk_i (ht t hp)).mono (by decide) (Nat.le_refl _)
    | inr n => exact nD_itm (by have := hv n hp; omega)) (by rw [List.length_map]; exact hl)
  exact (Itm.tup this).mono (by decide) (by decide)
theorem ex_ok {ps : List Prt} {fs : List (List Str)} (h1 : ∀ t, Sum.inl t ∈ ps → tOk t = true) (h2 : ∀ l ∈ fs, ∀ t ∈ l, tOk t = true) : ∀ t ∈ exI ps fs, tOk t = true := by
  intro t ht
  obtain ⟨p, hp, hm⟩ := List.mem_flatMap.mp ht
  cases p with
  | inl u => rw [List.mem_singleton.mp hm]; exact h1 u hp
  | inr n =>
    have hm : t ∈ fs.getD n [] := hm
    rcases Nat.lt_or_ge n fs.length with q | q
    · exact h2 _ (getD_mem q) t hm
    · rw [List.getD_eq_getElem?_getD, List.getElem?_eq_none q] at hm
      cases hm
theorem exs_ok : ∀ rows : List Stp, (∀ s ∈ rows, ∀ t, Sum.inl t ∈ parts s → tOk t = true) → ∀ l ∈ exs rows, ∀ t ∈ l, tOk t = true := by
  refine snoc_ind (fun _ l hl => by cases hl) fun rows s ih h l hl => ?_
  have e : exs (rows ++ [s]) = exs rows ++ [exI (parts s) (exs rows)] := bld_snoc _ rows s
  rw [e] at hl
  have ih' := ih fun s' hs' => h s' (List.mem_append_left _ hs')
  rcases List.mem_append.mp hl with q | q
  · exact ih' l q
  · rw [List.mem_singleton.mp q]
    exact ex_ok (h s (List.mem_append_right _ List.mem_cons_self)) ih'
theorem ex_le {fs : List (List Str)} {m : Nat} (hm : 1 ≤ m) (hs : ∀ l ∈ fs, l.length ≤ m) : ∀ ps : List Prt, (exI ps fs).length ≤ m * ps.length
  | [] => Nat.zero_le _
  | p :: ps => by
    have ih := ex_le hm hs ps
    have e : exI (p :: ps) fs = exP fs p ++ exI ps fs := rfl
    rw [e, List.length_append, List.length_cons, Nat.mul_succ]
    have : (exP fs p).length ≤ m := by
      cases p with
      | inl t => exact hm
      | inr n =>
        show (fs.getD n []).length ≤ m
        rcases Nat.lt_or_ge n fs.length with q | q
        · exact hs _ (getD_mem q)
        · rw [List.getD_eq_getElem?_getD, List.getElem?_eq_none q]
          exact Nat.zero_le _
    omega
theorem RwC.Ewd {rows : List Stp} {ps : List Prt} (h : RwC rows) (hl : ps.length ≤ 8) (ht : ∀ t, Sum.inl t ∈ ps → tOk t = true) : Wd 4800 9 (exI ps (exs rows)) := by
  refine ⟨?_, fun x hx => ?_⟩
  · have := ex_le (m := 600) (by decide) h.sm ps
    omega
  · refine tOk_s (ex_ok ht (exs_ok rows fun s hs => ?_) x hx)
    obtain ⟨i, hi, e⟩ := List.getElem_of_mem hs
    exact (h.st i s (by rw [List.getElem?_eq_some_iff]; exact ⟨hi, e⟩)).ch
end K43

namespace K43
open PySem L2 Fx
def R_l_right : RD := fun xs M F => ∃ a c rows ps, xs = [.ref a, rD rows, psD ps] ∧ HandAt M a c ∧ RwC rows ∧ Val rows.length ps ∧ ps.length ≤ 8 ∧ (∀ t, Sum.inl t ∈ ps → tOk t = true) ∧ ∀ M', HandAt M' a c → Oth a c M M' → F (.bl true) M'
theorem ln_l_right : ∀ xs M F, R_l_right xs M F → xs.length = 3 := fun xs M F ⟨p, b, t, q, e, _⟩ => by rw [e]; rfl
def limOk (t : D) : Prop := t = .non ∨ ∃ m, t = nD m
theorem hear_i {E : List Str} {m : Nat} (h : Wd 4800 9 E) : Itm 500000 2 (hear E m) := by
  unfold hear
  split
  · exact h.itm.mono (by decide) (by decide)
  · exact (Itm.lst (Itl.cons (nD_itm (k := 1) (by have := h.len; omega)) (Itl.nil (c := 0)))).mono (by decide) (by decide)
theorem rd_l_right : ∀ ds M F, R_l_right ds M F → T_l_right R_tokens_of R_draw R_l_heard R_length_of R_l_written { nx := fun _ M' => F .non M', rt := F } (startD 10 ds) M := by
  intro ds M F ⟨a, c, rows, ps, e, hd, hr, hv, hl, ht, hF⟩
  subst e
  have ew := hr.Ewd hl ht
  have el := ew.len
  have rk := hr.l.ok
  have ti := ew.itm.mono (c' := 500000) (k' := 4) (by decide) (by decide)
  have ni : ∀ {k}, Itm 2000 k (nD (exI ps (exs rows)).length) := fun {k} => nD_itm (by omega)
  have li : Itm 500000 4 (.lst [rD rows, psD ps]) := (Itm.lst (Itl.cons (rw_i hr) (Itl.cons (ps_i hv hr.n12 ht hl) (Itl.nil (c := 0))))).mono (by decide) (by decide)
  have nni : Itm 500000 4 (.lst [nD (exI ps (exs rows)).length, nD (exI ps (exs rows)).length]) := (Itm.lst (Itl.cons ni (Itl.cons ni (Itl.nil (c := 0) (k := 0))))).mono (by decide) (by decide)
  have n1i : Itm 500000 4 (.lst [nD (exI ps (exs rows)).length]) := (Itm.lst (Itl.cons ni (Itl.nil (c := 0) (k := 0)))).mono (by decide) (by decide)
  simp only [T_l_right, q_v, q_c, q_tup, q_lst, q_op, q_nil, q_cons, q_tst, q_tru, q_andT, q_orT, q_notT, q_andV, q_orV, q_notV, q_ifE, q_next, q_seq, q_asg, q_drop, q_ret, q_retN, q_ifS, q_par, q_isi, q_blt, q_call, q_callK, q_kid, q_kswap, q_chain, q_neg, q_isN, q_notN, q_noO, q_someO, q_sli, q_rev, q_revM, q_bm, q_bm0, q_m1, q_seqI, q_rng, q_rng2, q_enum, q_zip, q_gnm, q_gtp, q_gs0, q_gs1, q_yes, q_put, e_bl, e_int, e_str, e_lst, e_n_non, e_n_bl, e_n_int, e_n_str, e_n_tup, e_n_lst, e_n_slst, e_n_dic, e_n_ref, e_seq_l, e_seq_s, e_seq_t, e_seq_z, e_rev_l, e_rev_s, e_i1, e_i2, e_l1, e_l1s, e_l2, e_p2, e_sl, e_o, e_ob, e_on, e_ml, e_md, e_c, e_tru_b, e_tru_n, e_tru_i, e_tru_t, e_tru_l, t_str_non, t_tup_non, t_int_non, t_bool_non, t_lst_non, t_dict_non, t_str_bl, t_tup_bl, t_int_bl, t_bool_bl, t_lst_bl, t_dict_bl, t_str_int, t_tup_int, t_int_int, t_bool_int, t_lst_int, t_dict_int, t_str_str, t_tup_str, t_int_str, t_bool_str, t_lst_str, t_dict_str, t_str_tup, t_tup_tup, t_int_tup, t_bool_tup, t_lst_tup, t_dict_tup, t_str_lst, t_tup_lst, t_int_lst, t_bool_lst, t_lst_lst, t_dict_lst, t_str_dic, t_tup_dic, t_int_dic, t_bool_dic, t_lst_dic, t_dict_dic, r_add_i, r_add_s, r_add_t, r_add_l, r_sub, r_mul, r_mul_l, r_fdiv, r_mod, r_pow, r_lt, r_ix_l, r_ix_t, r_ix_s, r_ix_rl, r_ix_rd, r_sl_l, r_sl_sl, r_sl_t, r_sl_s, r_len_l, r_len_sl, r_len_t, r_len_s, r_len_r, r_all, r_any, r_tuple_l, r_tuple_sl, r_tuple_t, r_tuple_r, r_list_l, r_list_sl, r_list_t, r_list_r, r_ord, r_repr, r_pop, r_app, r_ext, r_join, r_join_t, r_isl_r, r_isl_l, r_in, r_put_d, r_put_l, r_eq_i, r_eq_s, r_ne_i, r_ne_s, r_eq_t0, r_ne_t0, r_eq_r0, r_ne_r0, r_eq_l0, r_ne_l0, q_lstM, q_frz, e_fz_r, e_fz_non, e_fz_bl, e_fz_int, e_fz_str, e_fz_tup, e_fz_lst, e_fz_dic, q_drp, q_zs, e_zs_tup_tup, e_zs_tup_lst, e_zs_tup_slst, e_zs_lst_tup, e_zs_lst_lst, e_zs_lst_slst, e_zs_slst_tup, e_zs_slst_lst, e_zs_slst_slst, r_mem_s, r_mem_t, r_mem_l, r_int_i, r_int_b, r_listM_l, r_listM_sl, r_listM_t, r_start, wipeD, br_not, br_true, br_false, br_dec, List.map_cons, List.map_nil, List.length_cons, List.length_nil, List.replicate_succ, List.replicate_zero, List.cons_append, List.nil_append, List.getElem?_cons_zero, List.getElem?_cons_succ, List.getElem?_nil, List.set_cons_zero, List.set_cons_succ, Nat.reduceAdd, Nat.reduceSub, Nat.reduceLeDiff, Nat.zero_add, updM_same, true_and, List.isEmpty_nil, List.isEmpty_cons, Bool.not_true, Bool.not_false, Bool.not_not, q_revA, e_ra_l, e_ra_s, e_ra_t, e_ra_z, q_star, e_st_l, e_st_s, e_st_t, q_par3, e_p3, q_cont, r_mul2_i, r_mul2_l, r_mul2_s, r_le2_i, r_le2_s, r_lt2_i, r_lt2_s, r_sum, r_max2, r_min2, r_rst, r_spl, r_six, q_callX, q_callKX, q_raise, e_d1, q_try, q_tryW, q_xf, q_isX, e_cau, r_add2_i, r_add2_s, r_add2_t, r_add2_l, r_add2_rl, r_add2_lr, q_sliM, r_slM, q_kdef, q_mix21, q_mix03, q_for]
  refine ⟨rows, rfl, hr.l, li.repr (by decide) (by decide), ?_⟩
  simp only [psD, q_v, q_c, q_tup, q_lst, q_op, q_nil, q_cons, q_tst, q_tru, q_andT, q_orT, q_notT, q_andV, q_orV, q_notV, q_ifE, q_next, q_seq, q_asg, q_drop, q_ret, q_retN, q_ifS, q_par, q_isi, q_blt, q_call, q_callK, q_kid, q_kswap, q_chain, q_neg, q_isN, q_notN, q_noO, q_someO, q_sli, q_rev, q_revM, q_bm, q_bm0, q_m1, q_seqI, q_rng, q_rng2, q_enum, q_zip, q_gnm, q_gtp, q_gs0, q_gs1, q_yes, q_put, e_bl, e_int, e_str, e_lst, e_n_non, e_n_bl, e_n_int, e_n_str, e_n_tup, e_n_lst, e_n_slst, e_n_dic, e_n_ref, e_seq_l, e_seq_s, e_seq_t, e_seq_z, e_rev_l, e_rev_s, e_i1, e_i2, e_l1, e_l1s, e_l2, e_p2, e_sl, e_o, e_ob, e_on, e_ml, e_md, e_c, e_tru_b, e_tru_n, e_tru_i, e_tru_t, e_tru_l, t_str_non, t_tup_non, t_int_non, t_bool_non, t_lst_non, t_dict_non, t_str_bl, t_tup_bl, t_int_bl, t_bool_bl, t_lst_bl, t_dict_bl, t_str_int, t_tup_int, t_int_int, t_bool_int, t_lst_int, t_dict_int, t_str_str, t_tup_str, t_int_str, t_bool_str, t_lst_str, t_dict_str, t_str_tup, t_tup_tup, t_int_tup, t_bool_tup, t_lst_tup, t_dict_tup, t_str_lst, t_tup_lst, t_int_lst, t_bool_lst, t_lst_lst, t_dict_lst, t_str_dic, t_tup_dic, t_int_dic, t_bool_dic, t_lst_dic, t_dict_dic, r_add_i, r_add_s, r_add_t, r_add_l, r_sub, r_mul, r_mul_l, r_fdiv, r_mod, r_pow, r_lt, r_ix_l, r_ix_t, r_ix_s, r_ix_rl, r_ix_rd, r_sl_l, r_sl_sl, r_sl_t, r_sl_s, r_len_l, r_len_sl, r_len_t, r_len_s, r_len_r, r_all, r_any, r_tuple_l, r_tuple_sl, r_tuple_t, r_tuple_r, r_list_l, r_list_sl, r_list_t, r_list_r, r_ord, r_repr, r_pop, r_app, r_ext, r_join, r_join_t, r_isl_r, r_isl_l, r_in, r_put_d, r_put_l, r_eq_i, r_eq_s, r_ne_i, r_ne_s, r_eq_t0, r_ne_t0, r_eq_r0, r_ne_r0, r_eq_l0, r_ne_l0, q_lstM, q_frz, e_fz_r, e_fz_non, e_fz_bl, e_fz_int, e_fz_str, e_fz_tup, e_fz_lst, e_fz_dic, q_drp, q_zs, e_zs_tup_tup, e_zs_tup_lst, e_zs_tup_slst, e_zs_lst_tup, e_zs_lst_lst, e_zs_lst_slst, e_zs_slst_tup, e_zs_slst_lst, e_zs_slst_slst, r_mem_s, r_mem_t, r_mem_l, r_int_i, r_int_b, r_listM_l, r_listM_sl, r_listM_t, r_start, wipeD, br_not, br_true, br_false, br_dec, List.map_cons, List.map_nil, List.length_cons, List.length_nil, List.replicate_succ, List.replicate_zero, List.cons_append, List.nil_append, List.getElem?_cons_zero, List.getElem?_cons_succ, List.getElem?_nil, List.set_cons_zero, List.set_cons_succ, Nat.reduceAdd, Nat.reduceSub, Nat.reduceLeDiff, Nat.zero_add, updM_same, true_and, List.isEmpty_nil, List.isEmpty_cons, Bool.not_true, Bool.not_false, Bool.not_not, q_revA, e_ra_l, e_ra_s, e_ra_t, e_ra_z, q_star, e_st_l, e_st_s, e_st_t, q_par3, e_p3, q_cont, r_mul2_i, r_mul2_l, r_mul2_s, r_le2_i, r_le2_s, r_lt2_i, r_lt2_s, r_sum, r_max2, r_min2, r_rst, r_spl, r_six, q_callX, q_callKX, q_raise, e_d1, q_try, q_tryW, q_xf, q_isX, e_cau, r_add2_i, r_add2_s, r_add2_t, r_add2_l, r_add2_rl, r_add2_lr, q_sliM, r_slM, q_kdef, q_mix21, q_mix03]
  refine for_inv (fun i ds' M' => M' = M ∧ ∃ x, ds' = [some (.ref a), some (rD rows), some (psD ps), some (lsD (exs rows)), some (.lst ((exI (ps.take i) (exs rows)).map .str)), some (.str (shw (.lst [rD rows, psD ps]))), x, none, none, none]) ⟨rfl, none, rfl⟩ (fun i d ds' M' hi w => ?_) fun ds' M' w => ?_
  · obtain ⟨rfl, x, rfl⟩ := w
    rw [List.getElem?_map] at hi
    obtain ⟨p, gp, rfl⟩ := Option.map_eq_some_iff.mp hi
    have hm : p ∈ ps := List.mem_of_getElem? gp
    have et : ps.take (i + 1) = ps.take i ++ [p] := by rw [List.take_add_one, gp]; rfl
    have b1 := ex_le (m := 600) (by decide) hr.sm (ps.take i)
    have b2 : (ps.take i).length ≤ 8 := Nat.le_trans (List.length_take_le' _ _) hl
    have e1 : exI [p] (exs rows) = exP (exs rows) p := by unfold exI; simp
    rw [et, exI_append, e1, List.map_append]
    cases p with
    | inl t =>
      simp only [pD, q_v, q_c, q_tup, q_lst, q_op, q_nil, q_cons, q_tst, q_tru, q_andT, q_orT, q_notT, q_andV, q_orV, q_notV, q_ifE, q_next, q_seq, q_asg, q_drop, q_ret, q_retN, q_ifS, q_par, q_isi, q_blt, q_call, q_callK, q_kid, q_kswap, q_chain, q_neg, q_isN, q_notN, q_noO, q_someO, q_sli, q_rev, q_revM, q_bm, q_bm0, q_m1, q_seqI, q_rng, q_rng2, q_enum, q_zip, q_gnm, q_gtp, q_gs0, q_gs1, q_yes, q_put, e_bl, e_int, e_str, e_lst, e_n_non, e_n_bl, e_n_int, e_n_str, e_n_tup, e_n_lst, e_n_slst, e_n_dic, e_n_ref, e_seq_l, e_seq_s, e_seq_t, e_seq_z, e_rev_l, e_rev_s, e_i1, e_i2, e_l1, e_l1s, e_l2, e_p2, e_sl, e_o, e_ob, e_on, e_ml, e_md, e_c, e_tru_b, e_tru_n, e_tru_i, e_tru_t, e_tru_l, t_str_non, t_tup_non, t_int_non, t_bool_non, t_lst_non, t_dict_non, t_str_bl, t_tup_bl, t_int_bl, t_bool_bl, t_lst_bl, t_dict_bl, t_str_int, t_tup_int, t_int_int, t_bool_int, t_lst_int, t_dict_int, t_str_str, t_tup_str, t_int_str, t_bool_str, t_lst_str, t_dict_str, t_str_tup, t_tup_tup, t_int_tup, t_bool_tup, t_lst_tup, t_dict_tup, t_str_lst, t_tup_lst, t_int_lst, t_bool_lst, t_lst_lst, t_dict_lst, t_str_dic, t_tup_dic, t_int_dic, t_bool_dic, t_lst_dic, t_dict_dic, r_add_i, r_add_s, r_add_t, r_add_l, r_sub, r_mul, r_mul_l, r_fdiv, r_mod, r_pow, r_lt, r_ix_l, r_ix_t, r_ix_s, r_ix_rl, r_ix_rd, r_sl_l, r_sl_sl, r_sl_t, r_sl_s, r_len_l, r_len_sl, r_len_t, r_len_s, r_len_r, r_all, r_any, r_tuple_l, r_tuple_sl, r_tuple_t, r_tuple_r, r_list_l, r_list_sl, r_list_t, r_list_r, r_ord, r_repr, r_pop, r_app, r_ext, r_join, r_join_t, r_isl_r, r_isl_l, r_in, r_put_d, r_put_l, r_eq_i, r_eq_s, r_ne_i, r_ne_s, r_eq_t0, r_ne_t0, r_eq_r0, r_ne_r0, r_eq_l0, r_ne_l0, q_lstM, q_frz, e_fz_r, e_fz_non, e_fz_bl, e_fz_int, e_fz_str, e_fz_tup, e_fz_lst, e_fz_dic, q_drp, q_zs, e_zs_tup_tup, e_zs_tup_lst, e_zs_tup_slst, e_zs_lst_tup, e_zs_lst_lst, e_zs_lst_slst, e_zs_slst_tup, e_zs_slst_lst, e_zs_slst_slst, r_mem_s, r_mem_t, r_mem_l, r_int_i, r_int_b, r_listM_l, r_listM_sl, r_listM_t, r_start, wipeD, br_not, br_true, br_false, br_dec, List.map_cons, List.map_nil, List.length_cons, List.length_nil, List.replicate_succ, List.replicate_zero, List.cons_append, List.nil_append, List.getElem?_cons_zero, List.getElem?_cons_succ, List.getElem?_nil, List.set_cons_zero, List.set_cons_succ, Nat.reduceAdd, Nat.reduceSub, Nat.reduceLeDiff, Nat.zero_add, updM_same, true_and, List.isEmpty_nil, List.isEmpty_cons, Bool.not_true, Bool.not_false, Bool.not_not, q_revA, e_ra_l, e_ra_s, e_ra_t, e_ra_z, q_star, e_st_l, e_st_s, e_st_t, q_par3, e_p3, q_cont, r_mul2_i, r_mul2_l, r_mul2_s, r_le2_i, r_le2_s, r_lt2_i, r_lt2_s, r_sum, r_max2, r_min2, r_rst, r_spl, r_six, q_callX, q_callKX, q_raise, e_d1, q_try, q_tryW, q_xf, q_isX, e_cau, r_add2_i, r_add2_s, r_add2_t, r_add2_l, r_add2_rl, r_add2_lr, q_sliM, r_slM, q_kdef, q_mix21, q_mix03, isT]
      exact ⟨by rw [List.length_map]; omega, _, rfl⟩
    | inr n =>
      have hn : n < (exs rows).length := by rw [exs_len]; exact hv n hm
      have b3 := hr.sm _ (getD_mem hn)
      simp only [pD, nD, q_v, q_c, q_tup, q_lst, q_op, q_nil, q_cons, q_tst, q_tru, q_andT, q_orT, q_notT, q_andV, q_orV, q_notV, q_ifE, q_next, q_seq, q_asg, q_drop, q_ret, q_retN, q_ifS, q_par, q_isi, q_blt, q_call, q_callK, q_kid, q_kswap, q_chain, q_neg, q_isN, q_notN, q_noO, q_someO, q_sli, q_rev, q_revM, q_bm, q_bm0, q_m1, q_seqI, q_rng, q_rng2, q_enum, q_zip, q_gnm, q_gtp, q_gs0, q_gs1, q_yes, q_put, e_bl, e_int, e_str, e_lst, e_n_non, e_n_bl, e_n_int, e_n_str, e_n_tup, e_n_lst, e_n_slst, e_n_dic, e_n_ref, e_seq_l, e_seq_s, e_seq_t, e_seq_z, e_rev_l, e_rev_s, e_i1, e_i2, e_l1, e_l1s, e_l2, e_p2, e_sl, e_o, e_ob, e_on, e_ml, e_md, e_c, e_tru_b, e_tru_n, e_tru_i, e_tru_t, e_tru_l, t_str_non, t_tup_non, t_int_non, t_bool_non, t_lst_non, t_dict_non, t_str_bl, t_tup_bl, t_int_bl, t_bool_bl, t_lst_bl, t_dict_bl, t_str_int, t_tup_int, t_int_int, t_bool_int, t_lst_int, t_dict_int, t_str_str, t_tup_str, t_int_str, t_bool_str, t_lst_str, t_dict_str, t_str_tup, t_tup_tup, t_int_tup, t_bool_tup, t_lst_tup, t_dict_tup, t_str_lst, t_tup_lst, t_int_lst, t_bool_lst, t_lst_lst, t_dict_lst, t_str_dic, t_tup_dic, t_int_dic, t_bool_dic, t_lst_dic, t_dict_dic, r_add_i, r_add_s, r_add_t, r_add_l, r_sub, r_mul, r_mul_l, r_fdiv, r_mod, r_pow, r_lt, r_ix_l, r_ix_t, r_ix_s, r_ix_rl, r_ix_rd, r_sl_l, r_sl_sl, r_sl_t, r_sl_s, r_len_l, r_len_sl, r_len_t, r_len_s, r_len_r, r_all, r_any, r_tuple_l, r_tuple_sl, r_tuple_t, r_tuple_r, r_list_l, r_list_sl, r_list_t, r_list_r, r_ord, r_repr, r_pop, r_app, r_ext, r_join, r_join_t, r_isl_r, r_isl_l, r_in, r_put_d, r_put_l, r_eq_i, r_eq_s, r_ne_i, r_ne_s, r_eq_t0, r_ne_t0, r_eq_r0, r_ne_r0, r_eq_l0, r_ne_l0, q_lstM, q_frz, e_fz_r, e_fz_non, e_fz_bl, e_fz_int, e_fz_str, e_fz_tup, e_fz_lst, e_fz_dic, q_drp, q_zs, e_zs_tup_tup, e_zs_tup_lst, e_zs_tup_slst, e_zs_lst_tup, e_zs_lst_lst, e_zs_lst_slst, e_zs_slst_tup, e_zs_slst_lst, e_zs_slst_slst, r_mem_s, r_mem_t, r_mem_l, r_int_i, r_int_b, r_listM_l, r_listM_sl, r_listM_t, r_start, wipeD, br_not, br_true, br_false, br_dec, List.map_cons, List.map_nil, List.length_cons, List.length_nil, List.replicate_succ, List.replicate_zero, List.cons_append, List.nil_append, List.getElem?_cons_zero, List.getElem?_cons_succ, List.getElem?_nil, List.set_cons_zero, List.set_cons_succ, Nat.reduceAdd, Nat.reduceSub, Nat.reduceLeDiff, Nat.zero_add, updM_same, true_and, List.isEmpty_nil, List.isEmpty_cons, Bool.not_true, Bool.not_false, Bool.not_not, q_revA, e_ra_l, e_ra_s, e_ra_t, e_ra_z, q_star, e_st_l, e_st_s, e_st_t, q_par3, e_p3, q_cont, r_mul2_i, r_mul2_l, r_mul2_s, r_le2_i, r_le2_s, r_lt2_i, r_lt2_s, r_sum, r_max2, r_min2, r_rst, r_spl, r_six, q_callX, q_callKX, q_raise, e_d1, q_try, q_tryW, q_xf, q_isX, e_cau, r_add2_i, r_add2_s, r_add2_t, r_add2_l, r_add2_rl, r_add2_lr, q_sliM, r_slM, q_kdef, q_mix21, q_mix03, isT, lsD, at_lD hn, lD]
      exact ⟨by rw [List.length_map, List.length_map]; omega, _, rfl⟩
  · obtain ⟨rfl, x, rfl⟩ := w
    rw [List.length_map, List.take_length]
    have q1 : ∀ (M : Mp) (G : DK), G (nD (exI ps (exs rows)).length) M → R_length_of [rD rows, psD ps] M G := fun M G g => ⟨rows, ps, rfl, rk, hv, by omega, g⟩
    have q2 : ∀ (m : Nat) (M : Mp) (G : DK) (W : XD), (exI ps (exs rows)).length ≤ m → G (.tup ((exI ps (exs rows)).map .str)) M → R_tokens_of [rD rows, psD ps, nD m] M G W := fun m M G W g0 g => ⟨rows, ps, m, rfl, rk, hv, by omega, by omega, by rw [if_pos g0]; exact g⟩
    have q3 : ∀ (t : D) (M : Mp) (G : DK), limOk t → G (hear (exI ps (exs rows)) (limD t)) M → R_l_heard [rD rows, psD ps, t] M G := fun t M G g0 g => ⟨rows, ps, t, rfl, g0, rk, hv, by omega, by omega, g⟩
    have hi : ∀ m, Itm 500000 2 (hear (exI ps (exs rows)) m) := fun m => hear_i ew
    generalize exI ps (exs rows) = E at *
    simp only [q_v, q_c, q_tup, q_lst, q_op, q_nil, q_cons, q_tst, q_tru, q_andT, q_orT, q_notT, q_andV, q_orV, q_notV, q_ifE, q_next, q_seq, q_asg, q_drop, q_ret, q_retN, q_ifS, q_par, q_isi, q_blt, q_call, q_callK, q_kid, q_kswap, q_chain, q_neg, q_isN, q_notN, q_noO, q_someO, q_sli, q_rev, q_revM, q_bm, q_bm0, q_m1, q_seqI, q_rng, q_rng2, q_enum, q_zip, q_gnm, q_gtp, q_gs0, q_gs1, q_yes, q_put, e_bl, e_int, e_str, e_lst, e_n_non, e_n_bl, e_n_int, e_n_str, e_n_tup, e_n_lst, e_n_slst, e_n_dic, e_n_ref, e_seq_l, e_seq_s, e_seq_t, e_seq_z, e_rev_l, e_rev_s, e_i1, e_i2, e_l1, e_l1s, e_l2, e_p2, e_sl, e_o, e_ob, e_on, e_ml, e_md, e_c, e_tru_b, e_tru_n, e_tru_i, e_tru_t, e_tru_l, t_str_non, t_tup_non, t_int_non, t_bool_non, t_lst_non, t_dict_non, t_str_bl, t_tup_bl, t_int_bl, t_bool_bl, t_lst_bl, t_dict_bl, t_str_int, t_tup_int, t_int_int, t_bool_int, t_lst_int, t_dict_int, t_str_str, t_tup_str, t_int_str, t_bool_str, t_lst_str, t_dict_str, t_str_tup, t_tup_tup, t_int_tup, t_bool_tup, t_lst_tup, t_dict_tup, t_str_lst, t_tup_lst, t_int_lst, t_bool_lst, t_lst_lst, t_dict_lst, t_str_dic, t_tup_dic, t_int_dic, t_bool_dic, t_lst_dic, t_dict_dic, r_add_i, r_add_s, r_add_t, r_add_l, r_sub, r_mul, r_mul_l, r_fdiv, r_mod, r_pow, r_lt, r_ix_l, r_ix_t, r_ix_s, r_ix_rl, r_ix_rd, r_sl_l, r_sl_sl, r_sl_t, r_sl_s, r_len_l, r_len_sl, r_len_t, r_len_s, r_len_r, r_all, r_any, r_tuple_l, r_tuple_sl, r_tuple_t, r_tuple_r, r_list_l, r_list_sl, r_list_t, r_list_r, r_ord, r_repr, r_pop, r_app, r_ext, r_join, r_join_t, r_isl_r, r_isl_l, r_in, r_put_d, r_put_l, r_eq_i, r_eq_s, r_ne_i, r_ne_s, r_eq_t0, r_ne_t0, r_eq_r0, r_ne_r0, r_eq_l0, r_ne_l0, q_lstM, q_frz, e_fz_r, e_fz_non, e_fz_bl, e_fz_int, e_fz_str, e_fz_tup, e_fz_lst, e_fz_dic, q_drp, q_zs, e_zs_tup_tup, e_zs_tup_lst, e_zs_tup_slst, e_zs_lst_tup, e_zs_lst_lst, e_zs_lst_slst, e_zs_slst_tup, e_zs_slst_lst, e_zs_slst_slst, r_mem_s, r_mem_t, r_mem_l, r_int_i, r_int_b, r_listM_l, r_listM_sl, r_listM_t, r_start, wipeD, br_not, br_true, br_false, br_dec, List.map_cons, List.map_nil, List.length_cons, List.length_nil, List.replicate_succ, List.replicate_zero, List.cons_append, List.nil_append, List.getElem?_cons_zero, List.getElem?_cons_succ, List.getElem?_nil, List.set_cons_zero, List.set_cons_succ, Nat.reduceAdd, Nat.reduceSub, Nat.reduceLeDiff, Nat.zero_add, updM_same, true_and, List.isEmpty_nil, List.isEmpty_cons, Bool.not_true, Bool.not_false, Bool.not_not, q_revA, e_ra_l, e_ra_s, e_ra_t, e_ra_z, q_star, e_st_l, e_st_s, e_st_t, q_par3, e_p3, q_cont, r_mul2_i, r_mul2_l, r_mul2_s, r_le2_i, r_le2_s, r_lt2_i, r_lt2_s, r_sum, r_max2, r_min2, r_rst, r_spl, r_six, q_callX, q_callKX, q_raise, e_d1, q_try, q_tryW, q_xf, q_isX, e_cau, r_add2_i, r_add2_s, r_add2_t, r_add2_l, r_add2_rl, r_add2_lr, q_sliM, r_slM, q_kdef, q_mix21, q_mix03, List.length_map]
    refine q1 _ _ ?_
    refine q1 _ _ ?_
    refine ⟨nni.repr (by decide) (by decide), nni.repr (by decide) (by decide), fun _ => ?_, fun z => absurd rfl z⟩
    simp only [q_v, q_c, q_tup, q_lst, q_op, q_nil, q_cons, q_tst, q_tru, q_andT, q_orT, q_notT, q_andV, q_orV, q_notV, q_ifE, q_next, q_seq, q_asg, q_drop, q_ret, q_retN, q_ifS, q_par, q_isi, q_blt, q_call, q_callK, q_kid, q_kswap, q_chain, q_neg, q_isN, q_notN, q_noO, q_someO, q_sli, q_rev, q_revM, q_bm, q_bm0, q_m1, q_seqI, q_rng, q_rng2, q_enum, q_zip, q_gnm, q_gtp, q_gs0, q_gs1, q_yes, q_put, e_bl, e_int, e_str, e_lst, e_n_non, e_n_bl, e_n_int, e_n_str, e_n_tup, e_n_lst, e_n_slst, e_n_dic, e_n_ref, e_seq_l, e_seq_s, e_seq_t, e_seq_z, e_rev_l, e_rev_s, e_i1, e_i2, e_l1, e_l1s, e_l2, e_p2, e_sl, e_o, e_ob, e_on, e_ml, e_md, e_c, e_tru_b, e_tru_n, e_tru_i, e_tru_t, e_tru_l, t_str_non, t_tup_non, t_int_non, t_bool_non, t_lst_non, t_dict_non, t_str_bl, t_tup_bl, t_int_bl, t_bool_bl, t_lst_bl, t_dict_bl, t_str_int, t_tup_int, t_int_int, t_bool_int, t_lst_int, t_dict_int, t_str_str, t_tup_str, t_int_str, t_bool_str, t_lst_str, t_dict_str, t_str_tup, t_tup_tup, t_int_tup, t_bool_tup, t_lst_tup, t_dict_tup, t_str_lst, t_tup_lst, t_int_lst, t_bool_lst, t_lst_lst, t_dict_lst, t_str_dic, t_tup_dic, t_int_dic, t_bool_dic, t_lst_dic, t_dict_dic, r_add_i, r_add_s, r_add_t, r_add_l, r_sub, r_mul, r_mul_l, r_fdiv, r_mod, r_pow, r_lt, r_ix_l, r_ix_t, r_ix_s, r_ix_rl, r_ix_rd, r_sl_l, r_sl_sl, r_sl_t, r_sl_s, r_len_l, r_len_sl, r_len_t, r_len_s, r_len_r, r_all, r_any, r_tuple_l, r_tuple_sl, r_tuple_t, r_tuple_r, r_list_l, r_list_sl, r_list_t, r_list_r, r_ord, r_repr, r_pop, r_app, r_ext, r_join, r_join_t, r_isl_r, r_isl_l, r_in, r_put_d, r_put_l, r_eq_i, r_eq_s, r_ne_i, r_ne_s, r_eq_t0, r_ne_t0, r_eq_r0, r_ne_r0, r_eq_l0, r_ne_l0, q_lstM, q_frz, e_fz_r, e_fz_non, e_fz_bl, e_fz_int, e_fz_str, e_fz_tup, e_fz_lst, e_fz_dic, q_drp, q_zs, e_zs_tup_tup, e_zs_tup_lst, e_zs_tup_slst, e_zs_lst_tup, e_zs_lst_lst, e_zs_lst_slst, e_zs_slst_tup, e_zs_slst_lst, e_zs_slst_slst, r_mem_s, r_mem_t, r_mem_l, r_int_i, r_int_b, r_listM_l, r_listM_sl, r_listM_t, r_start, wipeD, br_not, br_true, br_false, br_dec, List.map_cons, List.map_nil, List.length_cons, List.length_nil, List.replicate_succ, List.replicate_zero, List.cons_append, List.nil_append, List.getElem?_cons_zero, List.getElem?_cons_succ, List.getElem?_nil, List.set_cons_zero, List.set_cons_succ, Nat.reduceAdd, Nat.reduceSub, Nat.reduceLeDiff, Nat.zero_add, updM_same, true_and, List.isEmpty_nil, List.isEmpty_cons, Bool.not_true, Bool.not_false, Bool.not_not, q_revA, e_ra_l, e_ra_s, e_ra_t, e_ra_z, q_star, e_st_l, e_st_s, e_st_t, q_par3, e_p3, q_cont, r_mul2_i, r_mul2_l, r_mul2_s, r_le2_i, r_le2_s, r_lt2_i, r_lt2_s, r_sum, r_max2, r_min2, r_rst, r_spl, r_six, q_callX, q_callKX, q_raise, e_d1, q_try, q_tryW, q_xf, q_isX, e_cau, r_add2_i, r_add2_s, r_add2_t, r_add2_l, r_add2_rl, r_add2_lr, q_sliM, r_slM, q_kdef, q_mix21, q_mix03, q_for]
    refine ⟨c, hd, by decide, by decide, fun r M1 r0 r1 h1 o1 => ?_⟩
    simp only [q_v, q_c, q_tup, q_lst, q_op, q_nil, q_cons, q_tst, q_tru, q_andT, q_orT, q_notT, q_andV, q_orV, q_notV, q_ifE, q_next, q_seq, q_asg, q_drop, q_ret, q_retN, q_ifS, q_par, q_isi, q_blt, q_call, q_callK, q_kid, q_kswap, q_chain, q_neg, q_isN, q_notN, q_noO, q_someO, q_sli, q_rev, q_revM, q_bm, q_bm0, q_m1, q_seqI, q_rng, q_rng2, q_enum, q_zip, q_gnm, q_gtp, q_gs0, q_gs1, q_yes, q_put, e_bl, e_int, e_str, e_lst, e_n_non, e_n_bl, e_n_int, e_n_str, e_n_tup, e_n_lst, e_n_slst, e_n_dic, e_n_ref, e_seq_l, e_seq_s, e_seq_t, e_seq_z, e_rev_l, e_rev_s, e_i1, e_i2, e_l1, e_l1s, e_l2, e_p2, e_sl, e_o, e_ob, e_on, e_ml, e_md, e_c, e_tru_b, e_tru_n, e_tru_i, e_tru_t, e_tru_l, t_str_non, t_tup_non, t_int_non, t_bool_non, t_lst_non, t_dict_non, t_str_bl, t_tup_bl, t_int_bl, t_bool_bl, t_lst_bl, t_dict_bl, t_str_int, t_tup_int, t_int_int, t_bool_int, t_lst_int, t_dict_int, t_str_str, t_tup_str, t_int_str, t_bool_str, t_lst_str, t_dict_str, t_str_tup, t_tup_tup, t_int_tup, t_bool_tup, t_lst_tup, t_dict_tup, t_str_lst, t_tup_lst, t_int_lst, t_bool_lst, t_lst_lst, t_dict_lst, t_str_dic, t_tup_dic, t_int_dic, t_bool_dic, t_lst_dic, t_dict_dic, r_add_i, r_add_s, r_add_t, r_add_l, r_sub, r_mul, r_mul_l, r_fdiv, r_mod, r_pow, r_lt, r_ix_l, r_ix_t, r_ix_s, r_ix_rl, r_ix_rd, r_sl_l, r_sl_sl, r_sl_t, r_sl_s, r_len_l, r_len_sl, r_len_t, r_len_s, r_len_r, r_all, r_any, r_tuple_l, r_tuple_sl, r_tuple_t, r_tuple_r, r_list_l, r_list_sl, r_list_t, r_list_r, r_ord, r_repr, r_pop, r_app, r_ext, r_join, r_join_t, r_isl_r, r_isl_l, r_in, r_put_d, r_put_l, r_eq_i, r_eq_s, r_ne_i, r_ne_s, r_eq_t0, r_ne_t0, r_eq_r0, r_ne_r0, r_eq_l0, r_ne_l0, q_lstM, q_frz, e_fz_r, e_fz_non, e_fz_bl, e_fz_int, e_fz_str, e_fz_tup, e_fz_lst, e_fz_dic, q_drp, q_zs, e_zs_tup_tup, e_zs_tup_lst, e_zs_tup_slst, e_zs_lst_tup, e_zs_lst_lst, e_zs_lst_slst, e_zs_slst_tup, e_zs_slst_lst, e_zs_slst_slst, r_mem_s, r_mem_t, r_mem_l, r_int_i, r_int_b, r_listM_l, r_listM_sl, r_listM_t, r_start, wipeD, br_not, br_true, br_false, br_dec, List.map_cons, List.map_nil, List.length_cons, List.length_nil, List.replicate_succ, List.replicate_zero, List.cons_append, List.nil_append, List.getElem?_cons_zero, List.getElem?_cons_succ, List.getElem?_nil, List.set_cons_zero, List.set_cons_succ, Nat.reduceAdd, Nat.reduceSub, Nat.reduceLeDiff, Nat.zero_add, updM_same, true_and, List.isEmpty_nil, List.isEmpty_cons, Bool.not_true, Bool.not_false, Bool.not_not, q_revA, e_ra_l, e_ra_s, e_ra_t, e_ra_z, q_star, e_st_l, e_st_s, e_st_t, q_par3, e_p3, q_cont, r_mul2_i, r_mul2_l, r_mul2_s, r_le2_i, r_le2_s, r_lt2_i, r_lt2_s, r_sum, r_max2, r_min2, r_rst, r_spl, r_six, q_callX, q_callKX, q_raise, e_d1, q_try, q_tryW, q_xf, q_isX, e_cau, r_add2_i, r_add2_s, r_add2_t, r_add2_l, r_add2_rl, r_add2_lr, q_sliM, r_slM, q_kdef, q_mix21, q_mix03]
    refine ⟨c, h1, by decide, by decide, fun r' M2 r0' r1' h2 o2 => ?_⟩
    have o12 := o1.trans o2
    have hx : ∀ d ∈ [D.int (E.length : Int), D.int ((E.length : Int) + r), D.int (max 0 ((E.length : Int) - 1)), D.int 0, D.int r', D.non], limOk d := by
      intro d hd
      have key : ∀ z : Int, 0 ≤ z → limOk (.int z) := fun z hz => .inr ⟨z.toNat, by unfold nD; congr 1; omega⟩
      simp only [List.mem_cons, List.not_mem_nil, or_false] at hd
      rcases hd with e | e | e | e | e | e
      · rw [e]; exact key _ (by omega)
      · rw [e]; exact key _ (by omega)
      · rw [e]; exact key _ (by omega)
      · rw [e]; exact key _ (by omega)
      · rw [e]; exact key _ (by omega)
      · exact .inl e
    simp only [q_v, q_c, q_tup, q_lst, q_op, q_nil, q_cons, q_tst, q_tru, q_andT, q_orT, q_notT, q_andV, q_orV, q_notV, q_ifE, q_next, q_seq, q_asg, q_drop, q_ret, q_retN, q_ifS, q_par, q_isi, q_blt, q_call, q_callK, q_kid, q_kswap, q_chain, q_neg, q_isN, q_notN, q_noO, q_someO, q_sli, q_rev, q_revM, q_bm, q_bm0, q_m1, q_seqI, q_rng, q_rng2, q_enum, q_zip, q_gnm, q_gtp, q_gs0, q_gs1, q_yes, q_put, e_bl, e_int, e_str, e_lst, e_n_non, e_n_bl, e_n_int, e_n_str, e_n_tup, e_n_lst, e_n_slst, e_n_dic, e_n_ref, e_seq_l, e_seq_s, e_seq_t, e_seq_z, e_rev_l, e_rev_s, e_i1, e_i2, e_l1, e_l1s, e_l2, e_p2, e_sl, e_o, e_ob, e_on, e_ml, e_md, e_c, e_tru_b, e_tru_n, e_tru_i, e_tru_t, e_tru_l, t_str_non, t_tup_non, t_int_non, t_bool_non, t_lst_non, t_dict_non, t_str_bl, t_tup_bl, t_int_bl, t_bool_bl, t_lst_bl, t_dict_bl, t_str_int, t_tup_int, t_int_int, t_bool_int, t_lst_int, t_dict_int, t_str_str, t_tup_str, t_int_str, t_bool_str, t_lst_str, t_dict_str, t_str_tup, t_tup_tup, t_int_tup, t_bool_tup, t_lst_tup, t_dict_tup, t_str_lst, t_tup_lst, t_int_lst, t_bool_lst, t_lst_lst, t_dict_lst, t_str_dic, t_tup_dic, t_int_dic, t_bool_dic, t_lst_dic, t_dict_dic, r_add_i, r_add_s, r_add_t, r_add_l, r_sub, r_mul, r_mul_l, r_fdiv, r_mod, r_pow, r_lt, r_ix_l, r_ix_t, r_ix_s, r_ix_rl, r_ix_rd, r_sl_l, r_sl_sl, r_sl_t, r_sl_s, r_len_l, r_len_sl, r_len_t, r_len_s, r_len_r, r_all, r_any, r_tuple_l, r_tuple_sl, r_tuple_t, r_tuple_r, r_list_l, r_list_sl, r_list_t, r_list_r, r_ord, r_repr, r_pop, r_app, r_ext, r_join, r_join_t, r_isl_r, r_isl_l, r_in, r_put_d, r_put_l, r_eq_i, r_eq_s, r_ne_i, r_ne_s, r_eq_t0, r_ne_t0, r_eq_r0, r_ne_r0, r_eq_l0, r_ne_l0, q_lstM, q_frz, e_fz_r, e_fz_non, e_fz_bl, e_fz_int, e_fz_str, e_fz_tup, e_fz_lst, e_fz_dic, q_drp, q_zs, e_zs_tup_tup, e_zs_tup_lst, e_zs_tup_slst, e_zs_lst_tup, e_zs_lst_lst, e_zs_lst_slst, e_zs_slst_tup, e_zs_slst_lst, e_zs_slst_slst, r_mem_s, r_mem_t, r_mem_l, r_int_i, r_int_b, r_listM_l, r_listM_sl, r_listM_t, r_start, wipeD, br_not, br_true, br_false, br_dec, List.map_cons, List.map_nil, List.length_cons, List.length_nil, List.replicate_succ, List.replicate_zero, List.cons_append, List.nil_append, List.getElem?_cons_zero, List.getElem?_cons_succ, List.getElem?_nil, List.set_cons_zero, List.set_cons_succ, Nat.reduceAdd, Nat.reduceSub, Nat.reduceLeDiff, Nat.zero_add, updM_same, true_and, List.isEmpty_nil, List.isEmpty_cons, Bool.not_true, Bool.not_false, Bool.not_not, q_revA, e_ra_l, e_ra_s, e_ra_t, e_ra_z, q_star, e_st_l, e_st_s, e_st_t, q_par3, e_p3, q_cont, r_mul2_i, r_mul2_l, r_mul2_s, r_le2_i, r_le2_s, r_lt2_i, r_lt2_s, r_sum, r_max2, r_min2, r_rst, r_spl, r_six, q_callX, q_callKX, q_raise, e_d1, q_try, q_tryW, q_xf, q_isX, e_cau, r_add2_i, r_add2_s, r_add2_t, r_add2_l, r_add2_rl, r_add2_lr, q_sliM, r_slM, q_kdef, q_mix21, q_mix03]
    refine for_inv (fun i ds' M2' => HandAt M2' a c ∧ Oth a c M' M2' ∧ ∃ y z, ds' = [some (.ref a), some (rD rows), some (psD ps), some (lsD (exs rows)), some (.lst (E.map .str)), some (.str (shw (.lst [rD rows, psD ps]))), x, some (.int E.length), y, z]) ⟨h2, o12, _, _, rfl⟩ (fun i d ds' M3 hi w => ?_) fun ds' M3 w => ?_
    · obtain ⟨h3, o3, y, z, rfl⟩ := w
      have hm := hx d (List.mem_of_getElem? hi)
      rcases hm with rfl | ⟨m, rfl⟩
      · simp only [q_v, q_c, q_tup, q_lst, q_op, q_nil, q_cons, q_tst, q_tru, q_andT, q_orT, q_notT, q_andV, q_orV, q_notV, q_ifE, q_next, q_seq, q_asg, q_drop, q_ret, q_retN, q_ifS, q_par, q_isi, q_blt, q_call, q_callK, q_kid, q_kswap, q_chain, q_neg, q_isN, q_notN, q_noO, q_someO, q_sli, q_rev, q_revM, q_bm, q_bm0, q_m1, q_seqI, q_rng, q_rng2, q_enum, q_zip, q_gnm, q_gtp, q_gs0, q_gs1, q_yes, q_put, e_bl, e_int, e_str, e_lst, e_n_non, e_n_bl, e_n_int, e_n_str, e_n_tup, e_n_lst, e_n_slst, e_n_dic, e_n_ref, e_seq_l, e_seq_s, e_seq_t, e_seq_z, e_rev_l, e_rev_s, e_i1, e_i2, e_l1, e_l1s, e_l2, e_p2, e_sl, e_o, e_ob, e_on, e_ml, e_md, e_c, e_tru_b, e_tru_n, e_tru_i, e_tru_t, e_tru_l, t_str_non, t_tup_non, t_int_non, t_bool_non, t_lst_non, t_dict_non, t_str_bl, t_tup_bl, t_int_bl, t_bool_bl, t_lst_bl, t_dict_bl, t_str_int, t_tup_int, t_int_int, t_bool_int, t_lst_int, t_dict_int, t_str_str, t_tup_str, t_int_str, t_bool_str, t_lst_str, t_dict_str, t_str_tup, t_tup_tup, t_int_tup, t_bool_tup, t_lst_tup, t_dict_tup, t_str_lst, t_tup_lst, t_int_lst, t_bool_lst, t_lst_lst, t_dict_lst, t_str_dic, t_tup_dic, t_int_dic, t_bool_dic, t_lst_dic, t_dict_dic, r_add_i, r_add_s, r_add_t, r_add_l, r_sub, r_mul, r_mul_l, r_fdiv, r_mod, r_pow, r_lt, r_ix_l, r_ix_t, r_ix_s, r_ix_rl, r_ix_rd, r_sl_l, r_sl_sl, r_sl_t, r_sl_s, r_len_l, r_len_sl, r_len_t, r_len_s, r_len_r, r_all, r_any, r_tuple_l, r_tuple_sl, r_tuple_t, r_tuple_r, r_list_l, r_list_sl, r_list_t, r_list_r, r_ord, r_repr, r_pop, r_app, r_ext, r_join, r_join_t, r_isl_r, r_isl_l, r_in, r_put_d, r_put_l, r_eq_i, r_eq_s, r_ne_i, r_ne_s, r_eq_t0, r_ne_t0, r_eq_r0, r_ne_r0, r_eq_l0, r_ne_l0, q_lstM, q_frz, e_fz_r, e_fz_non, e_fz_bl, e_fz_int, e_fz_str, e_fz_tup, e_fz_lst, e_fz_dic, q_drp, q_zs, e_zs_tup_tup, e_zs_tup_lst, e_zs_tup_slst, e_zs_lst_tup, e_zs_lst_lst, e_zs_lst_slst, e_zs_slst_tup, e_zs_slst_lst, e_zs_slst_slst, r_mem_s, r_mem_t, r_mem_l, r_int_i, r_int_b, r_listM_l, r_listM_sl, r_listM_t, r_start, wipeD, br_not, br_true, br_false, br_dec, List.map_cons, List.map_nil, List.length_cons, List.length_nil, List.replicate_succ, List.replicate_zero, List.cons_append, List.nil_append, List.getElem?_cons_zero, List.getElem?_cons_succ, List.getElem?_nil, List.set_cons_zero, List.set_cons_succ, Nat.reduceAdd, Nat.reduceSub, Nat.reduceLeDiff, Nat.zero_add, updM_same, true_and, List.isEmpty_nil, List.isEmpty_cons, Bool.not_true, Bool.not_false, Bool.not_not, q_revA, e_ra_l, e_ra_s, e_ra_t, e_ra_z, q_star, e_st_l, e_st_s, e_st_t, q_par3, e_p3, q_cont, r_mul2_i, r_mul2_l, r_mul2_s, r_le2_i, r_le2_s, r_lt2_i, r_lt2_s, r_sum, r_max2, r_min2, r_rst, r_spl, r_six, q_callX, q_callKX, q_raise, e_d1, q_try, q_tryW, q_xf, q_isX, e_cau, r_add2_i, r_add2_s, r_add2_t, r_add2_l, r_add2_rl, r_add2_lr, q_sliM, r_slM, q_kdef, q_mix21, q_mix03]
        refine ⟨fun q => ⟨ti.repr (by decide) (by decide), q3 _ _ _ (.inl rfl) ?_⟩, fun q => ⟨n1i.repr (by decide) (by decide), q3 _ _ _ (.inl rfl) ?_⟩⟩
        · rw [show hear E (limD .non) = .tup (E.map .str) from if_pos (by show E.length ≤ 2000; omega)]
          exact ⟨ti.repr (by decide) (by decide), fun _ => ⟨h3, o3, _, _, rfl⟩, fun z => absurd rfl z⟩
        · rw [show hear E (limD .non) = .lst [nD E.length] from if_neg (by show ¬ E.length ≤ 2000; omega)]
          exact ⟨n1i.repr (by decide) (by decide), fun _ => ⟨h3, o3, _, _, rfl⟩, fun z => absurd rfl z⟩
      · have em : limD (D.int (m : Int)) = m := Int.toNat_natCast m
        simp only [nD, q_v, q_c, q_tup, q_lst, q_op, q_nil, q_cons, q_tst, q_tru, q_andT, q_orT, q_notT, q_andV, q_orV, q_notV, q_ifE, q_next, q_seq, q_asg, q_drop, q_ret, q_retN, q_ifS, q_par, q_isi, q_blt, q_call, q_callK, q_kid, q_kswap, q_chain, q_neg, q_isN, q_notN, q_noO, q_someO, q_sli, q_rev, q_revM, q_bm, q_bm0, q_m1, q_seqI, q_rng, q_rng2, q_enum, q_zip, q_gnm, q_gtp, q_gs0, q_gs1, q_yes, q_put, e_bl, e_int, e_str, e_lst, e_n_non, e_n_bl, e_n_int, e_n_str, e_n_tup, e_n_lst, e_n_slst, e_n_dic, e_n_ref, e_seq_l, e_seq_s, e_seq_t, e_seq_z, e_rev_l, e_rev_s, e_i1, e_i2, e_l1, e_l1s, e_l2, e_p2, e_sl, e_o, e_ob, e_on, e_ml, e_md, e_c, e_tru_b, e_tru_n, e_tru_i, e_tru_t, e_tru_l, t_str_non, t_tup_non, t_int_non, t_bool_non, t_lst_non, t_dict_non, t_str_bl, t_tup_bl, t_int_bl, t_bool_bl, t_lst_bl, t_dict_bl, t_str_int, t_tup_int, t_int_int, t_bool_int, t_lst_int, t_dict_int, t_str_str, t_tup_str, t_int_str, t_bool_str, t_lst_str, t_dict_str, t_str_tup, t_tup_tup, t_int_tup, t_bool_tup, t_lst_tup, t_dict_tup, t_str_lst, t_tup_lst, t_int_lst, t_bool_lst, t_lst_lst, t_dict_lst, t_str_dic, t_tup_dic, t_int_dic, t_bool_dic, t_lst_dic, t_dict_dic, r_add_i, r_add_s, r_add_t, r_add_l, r_sub, r_mul, r_mul_l, r_fdiv, r_mod, r_pow, r_lt, r_ix_l, r_ix_t, r_ix_s, r_ix_rl, r_ix_rd, r_sl_l, r_sl_sl, r_sl_t, r_sl_s, r_len_l, r_len_sl, r_len_t, r_len_s, r_len_r, r_all, r_any, r_tuple_l, r_tuple_sl, r_tuple_t, r_tuple_r, r_list_l, r_list_sl, r_list_t, r_list_r, r_ord, r_repr, r_pop, r_app, r_ext, r_join, r_join_t, r_isl_r, r_isl_l, r_in, r_put_d, r_put_l, r_eq_i, r_eq_s, r_ne_i, r_ne_s, r_eq_t0, r_ne_t0, r_eq_r0, r_ne_r0, r_eq_l0, r_ne_l0, q_lstM, q_frz, e_fz_r, e_fz_non, e_fz_bl, e_fz_int, e_fz_str, e_fz_tup, e_fz_lst, e_fz_dic, q_drp, q_zs, e_zs_tup_tup, e_zs_tup_lst, e_zs_tup_slst, e_zs_lst_tup, e_zs_lst_lst, e_zs_lst_slst, e_zs_slst_tup, e_zs_slst_lst, e_zs_slst_slst, r_mem_s, r_mem_t, r_mem_l, r_int_i, r_int_b, r_listM_l, r_listM_sl, r_listM_t, r_start, wipeD, br_not, br_true, br_false, br_dec, List.map_cons, List.map_nil, List.length_cons, List.length_nil, List.replicate_succ, List.replicate_zero, List.cons_append, List.nil_append, List.getElem?_cons_zero, List.getElem?_cons_succ, List.getElem?_nil, List.set_cons_zero, List.set_cons_succ, Nat.reduceAdd, Nat.reduceSub, Nat.reduceLeDiff, Nat.zero_add, updM_same, true_and, List.isEmpty_nil, List.isEmpty_cons, Bool.not_true, Bool.not_false, Bool.not_not, q_revA, e_ra_l, e_ra_s, e_ra_t, e_ra_z, q_star, e_st_l, e_st_s, e_st_t, q_par3, e_p3, q_cont, r_mul2_i, r_mul2_l, r_mul2_s, r_le2_i, r_le2_s, r_lt2_i, r_lt2_s, r_sum, r_max2, r_min2, r_rst, r_spl, r_six, q_callX, q_callKX, q_raise, e_d1, q_try, q_tryW, q_xf, q_isX, e_cau, r_add2_i, r_add2_s, r_add2_t, r_add2_l, r_add2_rl, r_add2_lr, q_sliM, r_slM, q_kdef, q_mix21, q_mix03]
        refine ⟨fun q => ⟨ti.repr (by decide) (by decide), q3 _ _ _ (.inr ⟨m, rfl⟩) ?_⟩, fun q => ⟨n1i.repr (by decide) (by decide), q3 _ _ _ (.inr ⟨m, rfl⟩) ?_⟩⟩
        · rw [em, show hear E m = .tup (E.map .str) from if_pos (by omega)]
          exact ⟨ti.repr (by decide) (by decide), fun _ => ⟨h3, o3, _, _, rfl⟩, fun z => absurd rfl z⟩
        · rw [em, show hear E m = .lst [nD E.length] from if_neg (by omega)]
          exact ⟨n1i.repr (by decide) (by decide), fun _ => ⟨h3, o3, _, _, rfl⟩, fun z => absurd rfl z⟩
    · obtain ⟨h3, o3, y, z, rfl⟩ := w
      simp only [q_v, q_c, q_tup, q_lst, q_op, q_nil, q_cons, q_tst, q_tru, q_andT, q_orT, q_notT, q_andV, q_orV, q_notV, q_ifE, q_next, q_seq, q_asg, q_drop, q_ret, q_retN, q_ifS, q_par, q_isi, q_blt, q_call, q_callK, q_kid, q_kswap, q_chain, q_neg, q_isN, q_notN, q_noO, q_someO, q_sli, q_rev, q_revM, q_bm, q_bm0, q_m1, q_seqI, q_rng, q_rng2, q_enum, q_zip, q_gnm, q_gtp, q_gs0, q_gs1, q_yes, q_put, e_bl, e_int, e_str, e_lst, e_n_non, e_n_bl, e_n_int, e_n_str, e_n_tup, e_n_lst, e_n_slst, e_n_dic, e_n_ref, e_seq_l, e_seq_s, e_seq_t, e_seq_z, e_rev_l, e_rev_s, e_i1, e_i2, e_l1, e_l1s, e_l2, e_p2, e_sl, e_o, e_ob, e_on, e_ml, e_md, e_c, e_tru_b, e_tru_n, e_tru_i, e_tru_t, e_tru_l, t_str_non, t_tup_non, t_int_non, t_bool_non, t_lst_non, t_dict_non, t_str_bl, t_tup_bl, t_int_bl, t_bool_bl, t_lst_bl, t_dict_bl, t_str_int, t_tup_int, t_int_int, t_bool_int, t_lst_int, t_dict_int, t_str_str, t_tup_str, t_int_str, t_bool_str, t_lst_str, t_dict_str, t_str_tup, t_tup_tup, t_int_tup, t_bool_tup, t_lst_tup, t_dict_tup, t_str_lst, t_tup_lst, t_int_lst, t_bool_lst, t_lst_lst, t_dict_lst, t_str_dic, t_tup_dic, t_int_dic, t_bool_dic, t_lst_dic, t_dict_dic, r_add_i, r_add_s, r_add_t, r_add_l, r_sub, r_mul, r_mul_l, r_fdiv, r_mod, r_pow, r_lt, r_ix_l, r_ix_t, r_ix_s, r_ix_rl, r_ix_rd, r_sl_l, r_sl_sl, r_sl_t, r_sl_s, r_len_l, r_len_sl, r_len_t, r_len_s, r_len_r, r_all, r_any, r_tuple_l, r_tuple_sl, r_tuple_t, r_tuple_r, r_list_l, r_list_sl, r_list_t, r_list_r, r_ord, r_repr, r_pop, r_app, r_ext, r_join, r_join_t, r_isl_r, r_isl_l, r_in, r_put_d, r_put_l, r_eq_i, r_eq_s, r_ne_i, r_ne_s, r_eq_t0, r_ne_t0, r_eq_r0, r_ne_r0, r_eq_l0, r_ne_l0, q_lstM, q_frz, e_fz_r, e_fz_non, e_fz_bl, e_fz_int, e_fz_str, e_fz_tup, e_fz_lst, e_fz_dic, q_drp, q_zs, e_zs_tup_tup, e_zs_tup_lst, e_zs_tup_slst, e_zs_lst_tup, e_zs_lst_lst, e_zs_lst_slst, e_zs_slst_tup, e_zs_slst_lst, e_zs_slst_slst, r_mem_s, r_mem_t, r_mem_l, r_int_i, r_int_b, r_listM_l, r_listM_sl, r_listM_t, r_start, wipeD, br_not, br_true, br_false, br_dec, List.map_cons, List.map_nil, List.length_cons, List.length_nil, List.replicate_succ, List.replicate_zero, List.cons_append, List.nil_append, List.getElem?_cons_zero, List.getElem?_cons_succ, List.getElem?_nil, List.set_cons_zero, List.set_cons_succ, Nat.reduceAdd, Nat.reduceSub, Nat.reduceLeDiff, Nat.zero_add, updM_same, true_and, List.isEmpty_nil, List.isEmpty_cons, Bool.not_true, Bool.not_false, Bool.not_not, q_revA, e_ra_l, e_ra_s, e_ra_t, e_ra_z, q_star, e_st_l, e_st_s, e_st_t, q_par3, e_p3, q_cont, r_mul2_i, r_mul2_l, r_mul2_s, r_le2_i, r_le2_s, r_lt2_i, r_lt2_s, r_sum, r_max2, r_min2, r_rst, r_spl, r_six, q_callX, q_callKX, q_raise, e_d1, q_try, q_tryW, q_xf, q_isX, e_cau, r_add2_i, r_add2_s, r_add2_t, r_add2_l, r_add2_rl, r_add2_lr, q_sliM, r_slM, q_kdef, q_mix21, q_mix03]
      refine q2 E.length _ _ _ (Nat.le_refl _) ?_
      exact ⟨ti.repr (by decide) (by decide), ti.repr (by decide) (by decide), fun _ => ⟨li.repr (by decide) (by decide), by rw [decide_eq_true trivial]; exact hF _ h3 o3⟩, fun z => absurd rfl z⟩
def R_law : RD
  | [.slst xs], M, F => ∃ ns : List Int, xs = ns.map D.int ∧ ns.length ≤ 63 ∧ ∀ M', F (.bl true) M'
  | _, _, _ => False
theorem ln_law : ∀ xs M F, R_law xs M F → xs.length = 1 := by
  intro xs M F h
  unfold R_law at h
  split at h
  · rfl
  · exact h.elim
def endL : List D := [.str "give", .str ";", .str "=", .str "if", .str "0", .str ")"]
theorem end_ok {d : D} (h : d ∈ endL) : ∃ t, d = .str t ∧ tOk t = true := by
  simp only [endL, List.mem_cons, List.not_mem_nil, or_false] at h
  rcases h with e | e | e | e | e | e <;> exact ⟨_, e, by decide +kernel⟩
theorem rd_law : ∀ ds M F, R_law ds M F → T_law R_l_right R_pick R_draw R_l_rows R_hand { nx := fun _ M' => F .non M', rt := F } (startD 7 ds) M := by
  intro ds M F h
  unfold R_law at h
  split at h
  · next xs =>
    obtain ⟨ns, rfl, hl, hF⟩ := h
    simp only [T_law, q_v, q_c, q_tup, q_lst, q_op, q_nil, q_cons, q_tst, q_tru, q_andT, q_orT, q_notT, q_andV, q_orV, q_notV, q_ifE, q_next, q_seq, q_asg, q_drop, q_ret, q_retN, q_ifS, q_par, q_isi, q_blt, q_call, q_callK, q_kid, q_kswap, q_chain, q_neg, q_isN, q_notN, q_noO, q_someO, q_sli, q_rev, q_revM, q_bm, q_bm0, q_m1, q_seqI, q_rng, q_rng2, q_enum, q_zip, q_gnm, q_gtp, q_gs0, q_gs1, q_yes, q_put, e_bl, e_int, e_str, e_lst, e_n_non, e_n_bl, e_n_int, e_n_str, e_n_tup, e_n_lst, e_n_slst, e_n_dic, e_n_ref, e_seq_l, e_seq_s, e_seq_t, e_seq_z, e_rev_l, e_rev_s, e_i1, e_i2, e_l1, e_l1s, e_l2, e_p2, e_sl, e_o, e_ob, e_on, e_ml, e_md, e_c, e_tru_b, e_tru_n, e_tru_i, e_tru_t, e_tru_l, t_str_non, t_tup_non, t_int_non, t_bool_non, t_lst_non, t_dict_non, t_str_bl, t_tup_bl, t_int_bl, t_bool_bl, t_lst_bl, t_dict_bl, t_str_int, t_tup_int, t_int_int, t_bool_int, t_lst_int, t_dict_int, t_str_str, t_tup_str, t_int_str, t_bool_str, t_lst_str, t_dict_str, t_str_tup, t_tup_tup, t_int_tup, t_bool_tup, t_lst_tup, t_dict_tup, t_str_lst, t_tup_lst, t_int_lst, t_bool_lst, t_lst_lst, t_dict_lst, t_str_dic, t_tup_dic, t_int_dic, t_bool_dic, t_lst_dic, t_dict_dic, r_add_i, r_add_s, r_add_t, r_add_l, r_sub, r_mul, r_mul_l, r_fdiv, r_mod, r_pow, r_lt, r_ix_l, r_ix_t, r_ix_s, r_ix_rl, r_ix_rd, r_sl_l, r_sl_sl, r_sl_t, r_sl_s, r_len_l, r_len_sl, r_len_t, r_len_s, r_len_r, r_all, r_any, r_tuple_l, r_tuple_sl, r_tuple_t, r_tuple_r, r_list_l, r_list_sl, r_list_t, r_list_r, r_ord, r_repr, r_pop, r_app, r_ext, r_join, r_join_t, r_isl_r, r_isl_l, r_in, r_put_d, r_put_l, r_eq_i, r_eq_s, r_ne_i, r_ne_s, r_eq_t0, r_ne_t0, r_eq_r0, r_ne_r0, r_eq_l0, r_ne_l0, q_lstM, q_frz, e_fz_r, e_fz_non, e_fz_bl, e_fz_int, e_fz_str, e_fz_tup, e_fz_lst, e_fz_dic, q_drp, q_zs, e_zs_tup_tup, e_zs_tup_lst, e_zs_tup_slst, e_zs_lst_tup, e_zs_lst_lst, e_zs_lst_slst, e_zs_slst_tup, e_zs_slst_lst, e_zs_slst_slst, r_mem_s, r_mem_t, r_mem_l, r_int_i, r_int_b, r_listM_l, r_listM_sl, r_listM_t, r_start, wipeD, br_not, br_true, br_false, br_dec, List.map_cons, List.map_nil, List.length_cons, List.length_nil, List.replicate_succ, List.replicate_zero, List.cons_append, List.nil_append, List.getElem?_cons_zero, List.getElem?_cons_succ, List.getElem?_nil, List.set_cons_zero, List.set_cons_succ, Nat.reduceAdd, Nat.reduceSub, Nat.reduceLeDiff, Nat.zero_add, updM_same, true_and, List.isEmpty_nil, List.isEmpty_cons, Bool.not_true, Bool.not_false, Bool.not_not, q_revA, e_ra_l, e_ra_s, e_ra_t, e_ra_z, q_star, e_st_l, e_st_s, e_st_t, q_par3, e_p3, q_cont, r_mul2_i, r_mul2_l, r_mul2_s, r_le2_i, r_le2_s, r_lt2_i, r_lt2_s, r_sum, r_max2, r_min2, r_rst, r_spl, r_six, q_callX, q_callKX, q_raise, e_d1, q_try, q_tryW, q_xf, q_isX, e_cau, r_add2_i, r_add2_s, r_add2_t, r_add2_l, r_add2_rl, r_add2_lr, q_sliM, r_slM, q_kdef, q_mix21, q_mix03]
    refine ⟨ns, rfl, hl, fun a c M1 _ _ h1 _ => ?_⟩
    simp only [q_v, q_c, q_tup, q_lst, q_op, q_nil, q_cons, q_tst, q_tru, q_andT, q_orT, q_notT, q_andV, q_orV, q_notV, q_ifE, q_next, q_seq, q_asg, q_drop, q_ret, q_retN, q_ifS, q_par, q_isi, q_blt, q_call, q_callK, q_kid, q_kswap, q_chain, q_neg, q_isN, q_notN, q_noO, q_someO, q_sli, q_rev, q_revM, q_bm, q_bm0, q_m1, q_seqI, q_rng, q_rng2, q_enum, q_zip, q_gnm, q_gtp, q_gs0, q_gs1, q_yes, q_put, e_bl, e_int, e_str, e_lst, e_n_non, e_n_bl, e_n_int, e_n_str, e_n_tup, e_n_lst, e_n_slst, e_n_dic, e_n_ref, e_seq_l, e_seq_s, e_seq_t, e_seq_z, e_rev_l, e_rev_s, e_i1, e_i2, e_l1, e_l1s, e_l2, e_p2, e_sl, e_o, e_ob, e_on, e_ml, e_md, e_c, e_tru_b, e_tru_n, e_tru_i, e_tru_t, e_tru_l, t_str_non, t_tup_non, t_int_non, t_bool_non, t_lst_non, t_dict_non, t_str_bl, t_tup_bl, t_int_bl, t_bool_bl, t_lst_bl, t_dict_bl, t_str_int, t_tup_int, t_int_int, t_bool_int, t_lst_int, t_dict_int, t_str_str, t_tup_str, t_int_str, t_bool_str, t_lst_str, t_dict_str, t_str_tup, t_tup_tup, t_int_tup, t_bool_tup, t_lst_tup, t_dict_tup, t_str_lst, t_tup_lst, t_int_lst, t_bool_lst, t_lst_lst, t_dict_lst, t_str_dic, t_tup_dic, t_int_dic, t_bool_dic, t_lst_dic, t_dict_dic, r_add_i, r_add_s, r_add_t, r_add_l, r_sub, r_mul, r_mul_l, r_fdiv, r_mod, r_pow, r_lt, r_ix_l, r_ix_t, r_ix_s, r_ix_rl, r_ix_rd, r_sl_l, r_sl_sl, r_sl_t, r_sl_s, r_len_l, r_len_sl, r_len_t, r_len_s, r_len_r, r_all, r_any, r_tuple_l, r_tuple_sl, r_tuple_t, r_tuple_r, r_list_l, r_list_sl, r_list_t, r_list_r, r_ord, r_repr, r_pop, r_app, r_ext, r_join, r_join_t, r_isl_r, r_isl_l, r_in, r_put_d, r_put_l, r_eq_i, r_eq_s, r_ne_i, r_ne_s, r_eq_t0, r_ne_t0, r_eq_r0, r_ne_r0, r_eq_l0, r_ne_l0, q_lstM, q_frz, e_fz_r, e_fz_non, e_fz_bl, e_fz_int, e_fz_str, e_fz_tup, e_fz_lst, e_fz_dic, q_drp, q_zs, e_zs_tup_tup, e_zs_tup_lst, e_zs_tup_slst, e_zs_lst_tup, e_zs_lst_lst, e_zs_lst_slst, e_zs_slst_tup, e_zs_slst_lst, e_zs_slst_slst, r_mem_s, r_mem_t, r_mem_l, r_int_i, r_int_b, r_listM_l, r_listM_sl, r_listM_t, r_start, wipeD, br_not, br_true, br_false, br_dec, List.map_cons, List.map_nil, List.length_cons, List.length_nil, List.replicate_succ, List.replicate_zero, List.cons_append, List.nil_append, List.getElem?_cons_zero, List.getElem?_cons_succ, List.getElem?_nil, List.set_cons_zero, List.set_cons_succ, Nat.reduceAdd, Nat.reduceSub, Nat.reduceLeDiff, Nat.zero_add, updM_same, true_and, List.isEmpty_nil, List.isEmpty_cons, Bool.not_true, Bool.not_false, Bool.not_not, q_revA, e_ra_l, e_ra_s, e_ra_t, e_ra_z, q_star, e_st_l, e_st_s, e_st_t, q_par3, e_p3, q_cont, r_mul2_i, r_mul2_l, r_mul2_s, r_le2_i, r_le2_s, r_lt2_i, r_lt2_s, r_sum, r_max2, r_min2, r_rst, r_spl, r_six, q_callX, q_callKX, q_raise, e_d1, q_try, q_tryW, q_xf, q_isX, e_cau, r_add2_i, r_add2_s, r_add2_t, r_add2_l, r_add2_rl, r_add2_lr, q_sliM, r_slM, q_kdef, q_mix21, q_mix03, q_for]
    refine ⟨by decide, ?_⟩
    refine for_inv (fun i ds' M' => HandAt M' a c ∧ ∃ x2 x3 x4 x5 x6, ds' = [some (.slst (ns.map D.int)), some (.ref a), x2, x3, x4, x5, x6]) ⟨h1, _, _, _, _, _, rfl⟩ (fun i d ds' M' hi w => ?_) fun ds' M' w => ?_
    · obtain ⟨w1, x2, x3, x4, x5, x6, rfl⟩ := w
      simp only [q_v, q_c, q_tup, q_lst, q_op, q_nil, q_cons, q_tst, q_tru, q_andT, q_orT, q_notT, q_andV, q_orV, q_notV, q_ifE, q_next, q_seq, q_asg, q_drop, q_ret, q_retN, q_ifS, q_par, q_isi, q_blt, q_call, q_callK, q_kid, q_kswap, q_chain, q_neg, q_isN, q_notN, q_noO, q_someO, q_sli, q_rev, q_revM, q_bm, q_bm0, q_m1, q_seqI, q_rng, q_rng2, q_enum, q_zip, q_gnm, q_gtp, q_gs0, q_gs1, q_yes, q_put, e_bl, e_int, e_str, e_lst, e_n_non, e_n_bl, e_n_int, e_n_str, e_n_tup, e_n_lst, e_n_slst, e_n_dic, e_n_ref, e_seq_l, e_seq_s, e_seq_t, e_seq_z, e_rev_l, e_rev_s, e_i1, e_i2, e_l1, e_l1s, e_l2, e_p2, e_sl, e_o, e_ob, e_on, e_ml, e_md, e_c, e_tru_b, e_tru_n, e_tru_i, e_tru_t, e_tru_l, t_str_non, t_tup_non, t_int_non, t_bool_non, t_lst_non, t_dict_non, t_str_bl, t_tup_bl, t_int_bl, t_bool_bl, t_lst_bl, t_dict_bl, t_str_int, t_tup_int, t_int_int, t_bool_int, t_lst_int, t_dict_int, t_str_str, t_tup_str, t_int_str, t_bool_str, t_lst_str, t_dict_str, t_str_tup, t_tup_tup, t_int_tup, t_bool_tup, t_lst_tup, t_dict_tup, t_str_lst, t_tup_lst, t_int_lst, t_bool_lst, t_lst_lst, t_dict_lst, t_str_dic, t_tup_dic, t_int_dic, t_bool_dic, t_lst_dic, t_dict_dic, r_add_i, r_add_s, r_add_t, r_add_l, r_sub, r_mul, r_mul_l, r_fdiv, r_mod, r_pow, r_lt, r_ix_l, r_ix_t, r_ix_s, r_ix_rl, r_ix_rd, r_sl_l, r_sl_sl, r_sl_t, r_sl_s, r_len_l, r_len_sl, r_len_t, r_len_s, r_len_r, r_all, r_any, r_tuple_l, r_tuple_sl, r_tuple_t, r_tuple_r, r_list_l, r_list_sl, r_list_t, r_list_r, r_ord, r_repr, r_pop, r_app, r_ext, r_join, r_join_t, r_isl_r, r_isl_l, r_in, r_put_d, r_put_l, r_eq_i, r_eq_s, r_ne_i, r_ne_s, r_eq_t0, r_ne_t0, r_eq_r0, r_ne_r0, r_eq_l0, r_ne_l0, q_lstM, q_frz, e_fz_r, e_fz_non, e_fz_bl, e_fz_int, e_fz_str, e_fz_tup, e_fz_lst, e_fz_dic, q_drp, q_zs, e_zs_tup_tup, e_zs_tup_lst, e_zs_tup_slst, e_zs_lst_tup, e_zs_lst_lst, e_zs_lst_slst, e_zs_slst_tup, e_zs_slst_lst, e_zs_slst_slst, r_mem_s, r_mem_t, r_mem_l, r_int_i, r_int_b, r_listM_l, r_listM_sl, r_listM_t, r_start, wipeD, br_not, br_true, br_false, br_dec, List.map_cons, List.map_nil, List.length_cons, List.length_nil, List.replicate_succ, List.replicate_zero, List.cons_append, List.nil_append, List.getElem?_cons_zero, List.getElem?_cons_succ, List.getElem?_nil, List.set_cons_zero, List.set_cons_succ, Nat.reduceAdd, Nat.reduceSub, Nat.reduceLeDiff, Nat.zero_add, updM_same, true_and, List.isEmpty_nil, List.isEmpty_cons, Bool.not_true, Bool.not_false, Bool.not_not, q_revA, e_ra_l, e_ra_s, e_ra_t, e_ra_z, q_star, e_st_l, e_st_s, e_st_t, q_par3, e_p3, q_cont, r_mul2_i, r_mul2_l, r_mul2_s, r_le2_i, r_le2_s, r_lt2_i, r_lt2_s, r_sum, r_max2, r_min2, r_rst, r_spl, r_six, q_callX, q_callKX, q_raise, e_d1, q_try, q_tryW, q_xf, q_isX, e_cau, r_add2_i, r_add2_s, r_add2_t, r_add2_l, r_add2_rl, r_add2_lr, q_sliM, r_slM, q_kdef, q_mix21, q_mix03, q_for]
      refine ⟨a, c, rfl, w1, fun rows M2 hr rn h2 o2 => ?_⟩
      have rp : 0 < rows.length := List.length_pos_iff.mpr rn
      have r12 := hr.n12
      simp only [q_v, q_c, q_tup, q_lst, q_op, q_nil, q_cons, q_tst, q_tru, q_andT, q_orT, q_notT, q_andV, q_orV, q_notV, q_ifE, q_next, q_seq, q_asg, q_drop, q_ret, q_retN, q_ifS, q_par, q_isi, q_blt, q_call, q_callK, q_kid, q_kswap, q_chain, q_neg, q_isN, q_notN, q_noO, q_someO, q_sli, q_rev, q_revM, q_bm, q_bm0, q_m1, q_seqI, q_rng, q_rng2, q_enum, q_zip, q_gnm, q_gtp, q_gs0, q_gs1, q_yes, q_put, e_bl, e_int, e_str, e_lst, e_n_non, e_n_bl, e_n_int, e_n_str, e_n_tup, e_n_lst, e_n_slst, e_n_dic, e_n_ref, e_seq_l, e_seq_s, e_seq_t, e_seq_z, e_rev_l, e_rev_s, e_i1, e_i2, e_l1, e_l1s, e_l2, e_p2, e_sl, e_o, e_ob, e_on, e_ml, e_md, e_c, e_tru_b, e_tru_n, e_tru_i, e_tru_t, e_tru_l, t_str_non, t_tup_non, t_int_non, t_bool_non, t_lst_non, t_dict_non, t_str_bl, t_tup_bl, t_int_bl, t_bool_bl, t_lst_bl, t_dict_bl, t_str_int, t_tup_int, t_int_int, t_bool_int, t_lst_int, t_dict_int, t_str_str, t_tup_str, t_int_str, t_bool_str, t_lst_str, t_dict_str, t_str_tup, t_tup_tup, t_int_tup, t_bool_tup, t_lst_tup, t_dict_tup, t_str_lst, t_tup_lst, t_int_lst, t_bool_lst, t_lst_lst, t_dict_lst, t_str_dic, t_tup_dic, t_int_dic, t_bool_dic, t_lst_dic, t_dict_dic, r_add_i, r_add_s, r_add_t, r_add_l, r_sub, r_mul, r_mul_l, r_fdiv, r_mod, r_pow, r_lt, r_ix_l, r_ix_t, r_ix_s, r_ix_rl, r_ix_rd, r_sl_l, r_sl_sl, r_sl_t, r_sl_s, r_len_l, r_len_sl, r_len_t, r_len_s, r_len_r, r_all, r_any, r_tuple_l, r_tuple_sl, r_tuple_t, r_tuple_r, r_list_l, r_list_sl, r_list_t, r_list_r, r_ord, r_repr, r_pop, r_app, r_ext, r_join, r_join_t, r_isl_r, r_isl_l, r_in, r_put_d, r_put_l, r_eq_i, r_eq_s, r_ne_i, r_ne_s, r_eq_t0, r_ne_t0, r_eq_r0, r_ne_r0, r_eq_l0, r_ne_l0, q_lstM, q_frz, e_fz_r, e_fz_non, e_fz_bl, e_fz_int, e_fz_str, e_fz_tup, e_fz_lst, e_fz_dic, q_drp, q_zs, e_zs_tup_tup, e_zs_tup_lst, e_zs_tup_slst, e_zs_lst_tup, e_zs_lst_lst, e_zs_lst_slst, e_zs_slst_tup, e_zs_slst_lst, e_zs_slst_slst, r_mem_s, r_mem_t, r_mem_l, r_int_i, r_int_b, r_listM_l, r_listM_sl, r_listM_t, r_start, wipeD, br_not, br_true, br_false, br_dec, List.map_cons, List.map_nil, List.length_cons, List.length_nil, List.replicate_succ, List.replicate_zero, List.cons_append, List.nil_append, List.getElem?_cons_zero, List.getElem?_cons_succ, List.getElem?_nil, List.set_cons_zero, List.set_cons_succ, Nat.reduceAdd, Nat.reduceSub, Nat.reduceLeDiff, Nat.zero_add, updM_same, true_and, List.isEmpty_nil, List.isEmpty_cons, Bool.not_true, Bool.not_false, Bool.not_not, q_revA, e_ra_l, e_ra_s, e_ra_t, e_ra_z, q_star, e_st_l, e_st_s, e_st_t, q_par3, e_p3, q_cont, r_mul2_i, r_mul2_l, r_mul2_s, r_le2_i, r_le2_s, r_lt2_i, r_lt2_s, r_sum, r_max2, r_min2, r_rst, r_spl, r_six, q_callX, q_callKX, q_raise, e_d1, q_try, q_tryW, q_xf, q_isX, e_cau, r_add2_i, r_add2_s, r_add2_t, r_add2_l, r_add2_rl, r_add2_lr, q_sliM, r_slM, q_kdef, q_mix21, q_mix03]
      intro L hL
      obtain ⟨p1, p2⟩ := h2.off hL
      refine ⟨c, h2.upd p1 p2, by decide, by decide, fun q M3 hq h3 o3 => ?_⟩
      have b3 : M3 L = some (.lst []) := by rw [o3 L p1 p2, updM_same]
      obtain ⟨n, rfl, n8⟩ : ∃ n : Nat, q = .int (n : Int) ∧ n ≤ 8 := by
        simp only [List.mem_cons, List.not_mem_nil, or_false] at hq
        rcases hq with e | e | e | e | e
        · exact ⟨0, e, by decide⟩
        · exact ⟨1, e, by decide⟩
        · exact ⟨1, e, by decide⟩
        · exact ⟨3, e, by decide⟩
        · exact ⟨8, e, by decide⟩
      simp only [q_v, q_c, q_tup, q_lst, q_op, q_nil, q_cons, q_tst, q_tru, q_andT, q_orT, q_notT, q_andV, q_orV, q_notV, q_ifE, q_next, q_seq, q_asg, q_drop, q_ret, q_retN, q_ifS, q_par, q_isi, q_blt, q_call, q_callK, q_kid, q_kswap, q_chain, q_neg, q_isN, q_notN, q_noO, q_someO, q_sli, q_rev, q_revM, q_bm, q_bm0, q_m1, q_seqI, q_rng, q_rng2, q_enum, q_zip, q_gnm, q_gtp, q_gs0, q_gs1, q_yes, q_put, e_bl, e_int, e_str, e_lst, e_n_non, e_n_bl, e_n_int, e_n_str, e_n_tup, e_n_lst, e_n_slst, e_n_dic, e_n_ref, e_seq_l, e_seq_s, e_seq_t, e_seq_z, e_rev_l, e_rev_s, e_i1, e_i2, e_l1, e_l1s, e_l2, e_p2, e_sl, e_o, e_ob, e_on, e_ml, e_md, e_c, e_tru_b, e_tru_n, e_tru_i, e_tru_t, e_tru_l, t_str_non, t_tup_non, t_int_non, t_bool_non, t_lst_non, t_dict_non, t_str_bl, t_tup_bl, t_int_bl, t_bool_bl, t_lst_bl, t_dict_bl, t_str_int, t_tup_int, t_int_int, t_bool_int, t_lst_int, t_dict_int, t_str_str, t_tup_str, t_int_str, t_bool_str, t_lst_str, t_dict_str, t_str_tup, t_tup_tup, t_int_tup, t_bool_tup, t_lst_tup, t_dict_tup, t_str_lst, t_tup_lst, t_int_lst, t_bool_lst, t_lst_lst, t_dict_lst, t_str_dic, t_tup_dic, t_int_dic, t_bool_dic, t_lst_dic, t_dict_dic, r_add_i, r_add_s, r_add_t, r_add_l, r_sub, r_mul, r_mul_l, r_fdiv, r_mod, r_pow, r_lt, r_ix_l, r_ix_t, r_ix_s, r_ix_rl, r_ix_rd, r_sl_l, r_sl_sl, r_sl_t, r_sl_s, r_len_l, r_len_sl, r_len_t, r_len_s, r_len_r, r_all, r_any, r_tuple_l, r_tuple_sl, r_tuple_t, r_tuple_r, r_list_l, r_list_sl, r_list_t, r_list_r, r_ord, r_repr, r_pop, r_app, r_ext, r_join, r_join_t, r_isl_r, r_isl_l, r_in, r_put_d, r_put_l, r_eq_i, r_eq_s, r_ne_i, r_ne_s, r_eq_t0, r_ne_t0, r_eq_r0, r_ne_r0, r_eq_l0, r_ne_l0, q_lstM, q_frz, e_fz_r, e_fz_non, e_fz_bl, e_fz_int, e_fz_str, e_fz_tup, e_fz_lst, e_fz_dic, q_drp, q_zs, e_zs_tup_tup, e_zs_tup_lst, e_zs_tup_slst, e_zs_lst_tup, e_zs_lst_lst, e_zs_lst_slst, e_zs_slst_tup, e_zs_slst_lst, e_zs_slst_slst, r_mem_s, r_mem_t, r_mem_l, r_int_i, r_int_b, r_listM_l, r_listM_sl, r_listM_t, r_start, wipeD, br_not, br_true, br_false, br_dec, List.map_cons, List.map_nil, List.length_cons, List.length_nil, List.replicate_succ, List.replicate_zero, List.cons_append, List.nil_append, List.getElem?_cons_zero, List.getElem?_cons_succ, List.getElem?_nil, List.set_cons_zero, List.set_cons_succ, Nat.reduceAdd, Nat.reduceSub, Nat.reduceLeDiff, Nat.zero_add, updM_same, true_and, List.isEmpty_nil, List.isEmpty_cons, Bool.not_true, Bool.not_false, Bool.not_not, q_revA, e_ra_l, e_ra_s, e_ra_t, e_ra_z, q_star, e_st_l, e_st_s, e_st_t, q_par3, e_p3, q_cont, r_mul2_i, r_mul2_l, r_mul2_s, r_le2_i, r_le2_s, r_lt2_i, r_lt2_s, r_sum, r_max2, r_min2, r_rst, r_spl, r_six, q_callX, q_callKX, q_raise, e_d1, q_try, q_tryW, q_xf, q_isX, e_cau, r_add2_i, r_add2_s, r_add2_t, r_add2_l, r_add2_rl, r_add2_lr, q_sliM, r_slM, q_kdef, q_mix21, q_mix03, Int.toNat_natCast]
      refine ⟨by omega, ?_⟩
      refine for_inv (fun i ds' M' => HandAt M' a c ∧ ∃ (ps : List Prt) (x : Option D), M' L = some (.lst (ps.map pD)) ∧ ps.length = i ∧ Val rows.length ps ∧ (∀ t, Sum.inl t ∈ ps → tOk t = true) ∧ ds' = [some (.slst (ns.map D.int)), some (.ref a), some d, some (rD rows), some (.ref L), some (.lst endL), x]) ⟨h3, [], _, b3, rfl, fun n hn => (by cases hn), fun t hn => (by cases hn), rfl⟩ (fun i d ds' M' hi w => ?_) fun ds' M' w => ?_
      · obtain ⟨h4, ps, x, m4, pl, pv, pt, rfl⟩ := w
        have i8 : i < 8 := by
          have := (List.getElem?_eq_some_iff.mp hi).1
          rw [List.length_map, List.length_range] at this
          omega
        simp only [rD, q_v, q_c, q_tup, q_lst, q_op, q_nil, q_cons, q_tst, q_tru, q_andT, q_orT, q_notT, q_andV, q_orV, q_notV, q_ifE, q_next, q_seq, q_asg, q_drop, q_ret, q_retN, q_ifS, q_par, q_isi, q_blt, q_call, q_callK, q_kid, q_kswap, q_chain, q_neg, q_isN, q_notN, q_noO, q_someO, q_sli, q_rev, q_revM, q_bm, q_bm0, q_m1, q_seqI, q_rng, q_rng2, q_enum, q_zip, q_gnm, q_gtp, q_gs0, q_gs1, q_yes, q_put, e_bl, e_int, e_str, e_lst, e_n_non, e_n_bl, e_n_int, e_n_str, e_n_tup, e_n_lst, e_n_slst, e_n_dic, e_n_ref, e_seq_l, e_seq_s, e_seq_t, e_seq_z, e_rev_l, e_rev_s, e_i1, e_i2, e_l1, e_l1s, e_l2, e_p2, e_sl, e_o, e_ob, e_on, e_ml, e_md, e_c, e_tru_b, e_tru_n, e_tru_i, e_tru_t, e_tru_l, t_str_non, t_tup_non, t_int_non, t_bool_non, t_lst_non, t_dict_non, t_str_bl, t_tup_bl, t_int_bl, t_bool_bl, t_lst_bl, t_dict_bl, t_str_int, t_tup_int, t_int_int, t_bool_int, t_lst_int, t_dict_int, t_str_str, t_tup_str, t_int_str, t_bool_str, t_lst_str, t_dict_str, t_str_tup, t_tup_tup, t_int_tup, t_bool_tup, t_lst_tup, t_dict_tup, t_str_lst, t_tup_lst, t_int_lst, t_bool_lst, t_lst_lst, t_dict_lst, t_str_dic, t_tup_dic, t_int_dic, t_bool_dic, t_lst_dic, t_dict_dic, r_add_i, r_add_s, r_add_t, r_add_l, r_sub, r_mul, r_mul_l, r_fdiv, r_mod, r_pow, r_lt, r_ix_l, r_ix_t, r_ix_s, r_ix_rl, r_ix_rd, r_sl_l, r_sl_sl, r_sl_t, r_sl_s, r_len_l, r_len_sl, r_len_t, r_len_s, r_len_r, r_all, r_any, r_tuple_l, r_tuple_sl, r_tuple_t, r_tuple_r, r_list_l, r_list_sl, r_list_t, r_list_r, r_ord, r_repr, r_pop, r_app, r_ext, r_join, r_join_t, r_isl_r, r_isl_l, r_in, r_put_d, r_put_l, r_eq_i, r_eq_s, r_ne_i, r_ne_s, r_eq_t0, r_ne_t0, r_eq_r0, r_ne_r0, r_eq_l0, r_ne_l0, q_lstM, q_frz, e_fz_r, e_fz_non, e_fz_bl, e_fz_int, e_fz_str, e_fz_tup, e_fz_lst, e_fz_dic, q_drp, q_zs, e_zs_tup_tup, e_zs_tup_lst, e_zs_tup_slst, e_zs_lst_tup, e_zs_lst_lst, e_zs_lst_slst, e_zs_slst_tup, e_zs_slst_lst, e_zs_slst_slst, r_mem_s, r_mem_t, r_mem_l, r_int_i, r_int_b, r_listM_l, r_listM_sl, r_listM_t, r_start, wipeD, br_not, br_true, br_false, br_dec, List.map_cons, List.map_nil, List.length_cons, List.length_nil, List.replicate_succ, List.replicate_zero, List.cons_append, List.nil_append, List.getElem?_cons_zero, List.getElem?_cons_succ, List.getElem?_nil, List.set_cons_zero, List.set_cons_succ, Nat.reduceAdd, Nat.reduceSub, Nat.reduceLeDiff, Nat.zero_add, updM_same, true_and, List.isEmpty_nil, List.isEmpty_cons, Bool.not_true, Bool.not_false, Bool.not_not, q_revA, e_ra_l, e_ra_s, e_ra_t, e_ra_z, q_star, e_st_l, e_st_s, e_st_t, q_par3, e_p3, q_cont, r_mul2_i, r_mul2_l, r_mul2_s, r_le2_i, r_le2_s, r_lt2_i, r_lt2_s, r_sum, r_max2, r_min2, r_rst, r_spl, r_six, q_callX, q_callKX, q_raise, e_d1, q_try, q_tryW, q_xf, q_isX, e_cau, r_add2_i, r_add2_s, r_add2_t, r_add2_l, r_add2_rl, r_add2_lr, q_sliM, r_slM, q_kdef, q_mix21, q_mix03, List.length_map]
        refine ⟨by rw [m4]; trivial, c, h4, by omega, by omega, fun r M5 r0 r1 h5 o5 => ?_⟩
        simp only [q_v, q_c, q_tup, q_lst, q_op, q_nil, q_cons, q_tst, q_tru, q_andT, q_orT, q_notT, q_andV, q_orV, q_notV, q_ifE, q_next, q_seq, q_asg, q_drop, q_ret, q_retN, q_ifS, q_par, q_isi, q_blt, q_call, q_callK, q_kid, q_kswap, q_chain, q_neg, q_isN, q_notN, q_noO, q_someO, q_sli, q_rev, q_revM, q_bm, q_bm0, q_m1, q_seqI, q_rng, q_rng2, q_enum, q_zip, q_gnm, q_gtp, q_gs0, q_gs1, q_yes, q_put, e_bl, e_int, e_str, e_lst, e_n_non, e_n_bl, e_n_int, e_n_str, e_n_tup, e_n_lst, e_n_slst, e_n_dic, e_n_ref, e_seq_l, e_seq_s, e_seq_t, e_seq_z, e_rev_l, e_rev_s, e_i1, e_i2, e_l1, e_l1s, e_l2, e_p2, e_sl, e_o, e_ob, e_on, e_ml, e_md, e_c, e_tru_b, e_tru_n, e_tru_i, e_tru_t, e_tru_l, t_str_non, t_tup_non, t_int_non, t_bool_non, t_lst_non, t_dict_non, t_str_bl, t_tup_bl, t_int_bl, t_bool_bl, t_lst_bl, t_dict_bl, t_str_int, t_tup_int, t_int_int, t_bool_int, t_lst_int, t_dict_int, t_str_str, t_tup_str, t_int_str, t_bool_str, t_lst_str, t_dict_str, t_str_tup, t_tup_tup, t_int_tup, t_bool_tup, t_lst_tup, t_dict_tup, t_str_lst, t_tup_lst, t_int_lst, t_bool_lst, t_lst_lst, t_dict_lst, t_str_dic, t_tup_dic, t_int_dic, t_bool_dic, t_lst_dic, t_dict_dic, r_add_i, r_add_s, r_add_t, r_add_l, r_sub, r_mul, r_mul_l, r_fdiv, r_mod, r_pow, r_lt, r_ix_l, r_ix_t, r_ix_s, r_ix_rl, r_ix_rd, r_sl_l, r_sl_sl, r_sl_t, r_sl_s, r_len_l, r_len_sl, r_len_t, r_len_s, r_len_r, r_all, r_any, r_tuple_l, r_tuple_sl, r_tuple_t, r_tuple_r, r_list_l, r_list_sl, r_list_t, r_list_r, r_ord, r_repr, r_pop, r_app, r_ext, r_join, r_join_t, r_isl_r, r_isl_l, r_in, r_put_d, r_put_l, r_eq_i, r_eq_s, r_ne_i, r_ne_s, r_eq_t0, r_ne_t0, r_eq_r0, r_ne_r0, r_eq_l0, r_ne_l0, q_lstM, q_frz, e_fz_r, e_fz_non, e_fz_bl, e_fz_int, e_fz_str, e_fz_tup, e_fz_lst, e_fz_dic, q_drp, q_zs, e_zs_tup_tup, e_zs_tup_lst, e_zs_tup_slst, e_zs_lst_tup, e_zs_lst_lst, e_zs_lst_slst, e_zs_slst_tup, e_zs_slst_lst, e_zs_slst_slst, r_mem_s, r_mem_t, r_mem_l, r_int_i, r_int_b, r_listM_l, r_listM_sl, r_listM_t, r_start, wipeD, br_not, br_true, br_false, br_dec, List.map_cons, List.map_nil, List.length_cons, List.length_nil, List.replicate_succ, List.replicate_zero, List.cons_append, List.nil_append, List.getElem?_cons_zero, List.getElem?_cons_succ, List.getElem?_nil, List.set_cons_zero, List.set_cons_succ, Nat.reduceAdd, Nat.reduceSub, Nat.reduceLeDiff, Nat.zero_add, updM_same, true_and, List.isEmpty_nil, List.isEmpty_cons, Bool.not_true, Bool.not_false, Bool.not_not, q_revA, e_ra_l, e_ra_s, e_ra_t, e_ra_z, q_star, e_st_l, e_st_s, e_st_t, q_par3, e_p3, q_cont, r_mul2_i, r_mul2_l, r_mul2_s, r_le2_i, r_le2_s, r_lt2_i, r_lt2_s, r_sum, r_max2, r_min2, r_rst, r_spl, r_six, q_callX, q_callKX, q_raise, e_d1, q_try, q_tryW, q_xf, q_isX, e_cau, r_add2_i, r_add2_s, r_add2_t, r_add2_l, r_add2_rl, r_add2_lr, q_sliM, r_slM, q_kdef, q_mix21, q_mix03]
        refine ⟨c, h5, by decide, by decide, fun e M6 he h6 o6 => ?_⟩
        simp only [q_v, q_c, q_tup, q_lst, q_op, q_nil, q_cons, q_tst, q_tru, q_andT, q_orT, q_notT, q_andV, q_orV, q_notV, q_ifE, q_next, q_seq, q_asg, q_drop, q_ret, q_retN, q_ifS, q_par, q_isi, q_blt, q_call, q_callK, q_kid, q_kswap, q_chain, q_neg, q_isN, q_notN, q_noO, q_someO, q_sli, q_rev, q_revM, q_bm, q_bm0, q_m1, q_seqI, q_rng, q_rng2, q_enum, q_zip, q_gnm, q_gtp, q_gs0, q_gs1, q_yes, q_put, e_bl, e_int, e_str, e_lst, e_n_non, e_n_bl, e_n_int, e_n_str, e_n_tup, e_n_lst, e_n_slst, e_n_dic, e_n_ref, e_seq_l, e_seq_s, e_seq_t, e_seq_z, e_rev_l, e_rev_s, e_i1, e_i2, e_l1, e_l1s, e_l2, e_p2, e_sl, e_o, e_ob, e_on, e_ml, e_md, e_c, e_tru_b, e_tru_n, e_tru_i, e_tru_t, e_tru_l, t_str_non, t_tup_non, t_int_non, t_bool_non, t_lst_non, t_dict_non, t_str_bl, t_tup_bl, t_int_bl, t_bool_bl, t_lst_bl, t_dict_bl, t_str_int, t_tup_int, t_int_int, t_bool_int, t_lst_int, t_dict_int, t_str_str, t_tup_str, t_int_str, t_bool_str, t_lst_str, t_dict_str, t_str_tup, t_tup_tup, t_int_tup, t_bool_tup, t_lst_tup, t_dict_tup, t_str_lst, t_tup_lst, t_int_lst, t_bool_lst, t_lst_lst, t_dict_lst, t_str_dic, t_tup_dic, t_int_dic, t_bool_dic, t_lst_dic, t_dict_dic, r_add_i, r_add_s, r_add_t, r_add_l, r_sub, r_mul, r_mul_l, r_fdiv, r_mod, r_pow, r_lt, r_ix_l, r_ix_t, r_ix_s, r_ix_rl, r_ix_rd, r_sl_l, r_sl_sl, r_sl_t, r_sl_s, r_len_l, r_len_sl, r_len_t, r_len_s, r_len_r, r_all, r_any, r_tuple_l, r_tuple_sl, r_tuple_t, r_tuple_r, r_list_l, r_list_sl, r_list_t, r_list_r, r_ord, r_repr, r_pop, r_app, r_ext, r_join, r_join_t, r_isl_r, r_isl_l, r_in, r_put_d, r_put_l, r_eq_i, r_eq_s, r_ne_i, r_ne_s, r_eq_t0, r_ne_t0, r_eq_r0, r_ne_r0, r_eq_l0, r_ne_l0, q_lstM, q_frz, e_fz_r, e_fz_non, e_fz_bl, e_fz_int, e_fz_str, e_fz_tup, e_fz_lst, e_fz_dic, q_drp, q_zs, e_zs_tup_tup, e_zs_tup_lst, e_zs_tup_slst, e_zs_lst_tup, e_zs_lst_lst, e_zs_lst_slst, e_zs_slst_tup, e_zs_slst_lst, e_zs_slst_slst, r_mem_s, r_mem_t, r_mem_l, r_int_i, r_int_b, r_listM_l, r_listM_sl, r_listM_t, r_start, wipeD, br_not, br_true, br_false, br_dec, List.map_cons, List.map_nil, List.length_cons, List.length_nil, List.replicate_succ, List.replicate_zero, List.cons_append, List.nil_append, List.getElem?_cons_zero, List.getElem?_cons_succ, List.getElem?_nil, List.set_cons_zero, List.set_cons_succ, Nat.reduceAdd, Nat.reduceSub, Nat.reduceLeDiff, Nat.zero_add, updM_same, true_and, List.isEmpty_nil, List.isEmpty_cons, Bool.not_true, Bool.not_false, Bool.not_not, q_revA, e_ra_l, e_ra_s, e_ra_t, e_ra_z, q_star, e_st_l, e_st_s, e_st_t, q_par3, e_p3, q_cont, r_mul2_i, r_mul2_l, r_mul2_s, r_le2_i, r_le2_s, r_lt2_i, r_lt2_s, r_sum, r_max2, r_min2, r_rst, r_spl, r_six, q_callX, q_callKX, q_raise, e_d1, q_try, q_tryW, q_xf, q_isX, e_cau, r_add2_i, r_add2_s, r_add2_t, r_add2_l, r_add2_rl, r_add2_lr, q_sliM, r_slM, q_kdef, q_mix21, q_mix03]
        refine ⟨c, h6, by simp, by simp, fun g M7 hg h7 o7 => ?_⟩
        have m7 : M7 L = some (.lst (ps.map pD)) := by rw [o7 L p1 p2, o6 L p1 p2, o5 L p1 p2, m4]
        obtain ⟨p, rfl, vp, tp⟩ : ∃ p : Prt, g = pD p ∧ (∀ n, p = Sum.inr n → n < rows.length) ∧ ∀ t, p = Sum.inl t → tOk t = true := by
          simp only [List.mem_cons, List.not_mem_nil, or_false] at hg
          rcases hg with e1 | e1
          · refine ⟨.inr r.toNat, ?_, fun n hn => ?_, fun t ht => ?_⟩
            · rw [e1]
              show D.int r = .int _
              congr 1
              omega
            · cases hn
              omega
            · cases ht
          · obtain ⟨t, et, tt⟩ := end_ok he
            refine ⟨.inl t, ?_, fun n hn => ?_, fun t ht => ?_⟩
            · rw [e1, et]
              rfl
            · cases hn
            · cases ht
              exact tt
        simp only [q_v, q_c, q_tup, q_lst, q_op, q_nil, q_cons, q_tst, q_tru, q_andT, q_orT, q_notT, q_andV, q_orV, q_notV, q_ifE, q_next, q_seq, q_asg, q_drop, q_ret, q_retN, q_ifS, q_par, q_isi, q_blt, q_call, q_callK, q_kid, q_kswap, q_chain, q_neg, q_isN, q_notN, q_noO, q_someO, q_sli, q_rev, q_revM, q_bm, q_bm0, q_m1, q_seqI, q_rng, q_rng2, q_enum, q_zip, q_gnm, q_gtp, q_gs0, q_gs1, q_yes, q_put, e_bl, e_int, e_str, e_lst, e_n_non, e_n_bl, e_n_int, e_n_str, e_n_tup, e_n_lst, e_n_slst, e_n_dic, e_n_ref, e_seq_l, e_seq_s, e_seq_t, e_seq_z, e_rev_l, e_rev_s, e_i1, e_i2, e_l1, e_l1s, e_l2, e_p2, e_sl, e_o, e_ob, e_on, e_ml, e_md, e_c, e_tru_b, e_tru_n, e_tru_i, e_tru_t, e_tru_l, t_str_non, t_tup_non, t_int_non, t_bool_non, t_lst_non, t_dict_non, t_str_bl, t_tup_bl, t_int_bl, t_bool_bl, t_lst_bl, t_dict_bl, t_str_int, t_tup_int, t_int_int, t_bool_int, t_lst_int, t_dict_int, t_str_str, t_tup_str, t_int_str, t_bool_str, t_lst_str, t_dict_str, t_str_tup, t_tup_tup, t_int_tup, t_bool_tup, t_lst_tup, t_dict_tup, t_str_lst, t_tup_lst, t_int_lst, t_bool_lst, t_lst_lst, t_dict_lst, t_str_dic, t_tup_dic, t_int_dic, t_bool_dic, t_lst_dic, t_dict_dic, r_add_i, r_add_s, r_add_t, r_add_l, r_sub, r_mul, r_mul_l, r_fdiv, r_mod, r_pow, r_lt, r_ix_l, r_ix_t, r_ix_s, r_ix_rl, r_ix_rd, r_sl_l, r_sl_sl, r_sl_t, r_sl_s, r_len_l, r_len_sl, r_len_t, r_len_s, r_len_r, r_all, r_any, r_tuple_l, r_tuple_sl, r_tuple_t, r_tuple_r, r_list_l, r_list_sl, r_list_t, r_list_r, r_ord, r_repr, r_pop, r_app, r_ext, r_join, r_join_t, r_isl_r, r_isl_l, r_in, r_put_d, r_put_l, r_eq_i, r_eq_s, r_ne_i, r_ne_s, r_eq_t0, r_ne_t0, r_eq_r0, r_ne_r0, r_eq_l0, r_ne_l0, q_lstM, q_frz, e_fz_r, e_fz_non, e_fz_bl, e_fz_int, e_fz_str, e_fz_tup, e_fz_lst, e_fz_dic, q_drp, q_zs, e_zs_tup_tup, e_zs_tup_lst, e_zs_tup_slst, e_zs_lst_tup, e_zs_lst_lst, e_zs_lst_slst, e_zs_slst_tup, e_zs_slst_lst, e_zs_slst_slst, r_mem_s, r_mem_t, r_mem_l, r_int_i, r_int_b, r_listM_l, r_listM_sl, r_listM_t, r_start, wipeD, br_not, br_true, br_false, br_dec, List.map_cons, List.map_nil, List.length_cons, List.length_nil, List.replicate_succ, List.replicate_zero, List.cons_append, List.nil_append, List.getElem?_cons_zero, List.getElem?_cons_succ, List.getElem?_nil, List.set_cons_zero, List.set_cons_succ, Nat.reduceAdd, Nat.reduceSub, Nat.reduceLeDiff, Nat.zero_add, updM_same, true_and, List.isEmpty_nil, List.isEmpty_cons, Bool.not_true, Bool.not_false, Bool.not_not, q_revA, e_ra_l, e_ra_s, e_ra_t, e_ra_z, q_star, e_st_l, e_st_s, e_st_t, q_par3, e_p3, q_cont, r_mul2_i, r_mul2_l, r_mul2_s, r_le2_i, r_le2_s, r_lt2_i, r_lt2_s, r_sum, r_max2, r_min2, r_rst, r_spl, r_six, q_callX, q_callKX, q_raise, e_d1, q_try, q_tryW, q_xf, q_isX, e_cau, r_add2_i, r_add2_s, r_add2_t, r_add2_l, r_add2_rl, r_add2_lr, q_sliM, r_slM, q_kdef, q_mix21, q_mix03, m7]
        refine ⟨by rw [List.length_map]; omega, h7.upd p1 p2, ps ++ [p], _, ?_, by rw [List.length_append, List.length_singleton, pl], fun n hn => ?_, fun t hn => ?_, rfl⟩
        · try rw [updM_same]
          rw [List.map_append]
          rfl
        · rcases List.mem_append.mp hn with z | z
          · exact pv n z
          · exact vp n (List.mem_singleton.mp z).symm
        · rcases List.mem_append.mp hn with z | z
          · exact pt t z
          · exact tp t (List.mem_singleton.mp z).symm
      · obtain ⟨h4, ps, x, m4, pl, pv, pt, rfl⟩ := w
        rw [List.length_map, List.length_range] at pl
        simp only [q_v, q_c, q_tup, q_lst, q_op, q_nil, q_cons, q_tst, q_tru, q_andT, q_orT, q_notT, q_andV, q_orV, q_notV, q_ifE, q_next, q_seq, q_asg, q_drop, q_ret, q_retN, q_ifS, q_par, q_isi, q_blt, q_call, q_callK, q_kid, q_kswap, q_chain, q_neg, q_isN, q_notN, q_noO, q_someO, q_sli, q_rev, q_revM, q_bm, q_bm0, q_m1, q_seqI, q_rng, q_rng2, q_enum, q_zip, q_gnm, q_gtp, q_gs0, q_gs1, q_yes, q_put, e_bl, e_int, e_str, e_lst, e_n_non, e_n_bl, e_n_int, e_n_str, e_n_tup, e_n_lst, e_n_slst, e_n_dic, e_n_ref, e_seq_l, e_seq_s, e_seq_t, e_seq_z, e_rev_l, e_rev_s, e_i1, e_i2, e_l1, e_l1s, e_l2, e_p2, e_sl, e_o, e_ob, e_on, e_ml, e_md, e_c, e_tru_b, e_tru_n, e_tru_i, e_tru_t, e_tru_l, t_str_non, t_tup_non, t_int_non, t_bool_non, t_lst_non, t_dict_non, t_str_bl, t_tup_bl, t_int_bl, t_bool_bl, t_lst_bl, t_dict_bl, t_str_int, t_tup_int, t_int_int, t_bool_int, t_lst_int, t_dict_int, t_str_str, t_tup_str, t_int_str, t_bool_str, t_lst_str, t_dict_str, t_str_tup, t_tup_tup, t_int_tup, t_bool_tup, t_lst_tup, t_dict_tup, t_str_lst, t_tup_lst, t_int_lst, t_bool_lst, t_lst_lst, t_dict_lst, t_str_dic, t_tup_dic, t_int_dic, t_bool_dic, t_lst_dic, t_dict_dic, r_add_i, r_add_s, r_add_t, r_add_l, r_sub, r_mul, r_mul_l, r_fdiv, r_mod, r_pow, r_lt, r_ix_l, r_ix_t, r_ix_s, r_ix_rl, r_ix_rd, r_sl_l, r_sl_sl, r_sl_t, r_sl_s, r_len_l, r_len_sl, r_len_t, r_len_s, r_len_r, r_all, r_any, r_tuple_l, r_tuple_sl, r_tuple_t, r_tuple_r, r_list_l, r_list_sl, r_list_t, r_list_r, r_ord, r_repr, r_pop, r_app, r_ext, r_join, r_join_t, r_isl_r, r_isl_l, r_in, r_put_d, r_put_l, r_eq_i, r_eq_s, r_ne_i, r_ne_s, r_eq_t0, r_ne_t0, r_eq_r0, r_ne_r0, r_eq_l0, r_ne_l0, q_lstM, q_frz, e_fz_r, e_fz_non, e_fz_bl, e_fz_int, e_fz_str, e_fz_tup, e_fz_lst, e_fz_dic, q_drp, q_zs, e_zs_tup_tup, e_zs_tup_lst, e_zs_tup_slst, e_zs_lst_tup, e_zs_lst_lst, e_zs_lst_slst, e_zs_slst_tup, e_zs_slst_lst, e_zs_slst_slst, r_mem_s, r_mem_t, r_mem_l, r_int_i, r_int_b, r_listM_l, r_listM_sl, r_listM_t, r_start, wipeD, br_not, br_true, br_false, br_dec, List.map_cons, List.map_nil, List.length_cons, List.length_nil, List.replicate_succ, List.replicate_zero, List.cons_append, List.nil_append, List.getElem?_cons_zero, List.getElem?_cons_succ, List.getElem?_nil, List.set_cons_zero, List.set_cons_succ, Nat.reduceAdd, Nat.reduceSub, Nat.reduceLeDiff, Nat.zero_add, updM_same, true_and, List.isEmpty_nil, List.isEmpty_cons, Bool.not_true, Bool.not_false, Bool.not_not, q_revA, e_ra_l, e_ra_s, e_ra_t, e_ra_z, q_star, e_st_l, e_st_s, e_st_t, q_par3, e_p3, q_cont, r_mul2_i, r_mul2_l, r_mul2_s, r_le2_i, r_le2_s, r_lt2_i, r_lt2_s, r_sum, r_max2, r_min2, r_rst, r_spl, r_six, q_callX, q_callKX, q_raise, e_d1, q_try, q_tryW, q_xf, q_isX, e_cau, r_add2_i, r_add2_s, r_add2_t, r_add2_l, r_add2_rl, r_add2_lr, q_sliM, r_slM, q_kdef, q_mix21, q_mix03, m4]
        refine ⟨a, c, rows, ps, rfl, h4, hr, pv, by omega, pt, fun M5 h5 o5 => ?_⟩
        simp only [rD, q_v, q_c, q_tup, q_lst, q_op, q_nil, q_cons, q_tst, q_tru, q_andT, q_orT, q_notT, q_andV, q_orV, q_notV, q_ifE, q_next, q_seq, q_asg, q_drop, q_ret, q_retN, q_ifS, q_par, q_isi, q_blt, q_call, q_callK, q_kid, q_kswap, q_chain, q_neg, q_isN, q_notN, q_noO, q_someO, q_sli, q_rev, q_revM, q_bm, q_bm0, q_m1, q_seqI, q_rng, q_rng2, q_enum, q_zip, q_gnm, q_gtp, q_gs0, q_gs1, q_yes, q_put, e_bl, e_int, e_str, e_lst, e_n_non, e_n_bl, e_n_int, e_n_str, e_n_tup, e_n_lst, e_n_slst, e_n_dic, e_n_ref, e_seq_l, e_seq_s, e_seq_t, e_seq_z, e_rev_l, e_rev_s, e_i1, e_i2, e_l1, e_l1s, e_l2, e_p2, e_sl, e_o, e_ob, e_on, e_ml, e_md, e_c, e_tru_b, e_tru_n, e_tru_i, e_tru_t, e_tru_l, t_str_non, t_tup_non, t_int_non, t_bool_non, t_lst_non, t_dict_non, t_str_bl, t_tup_bl, t_int_bl, t_bool_bl, t_lst_bl, t_dict_bl, t_str_int, t_tup_int, t_int_int, t_bool_int, t_lst_int, t_dict_int, t_str_str, t_tup_str, t_int_str, t_bool_str, t_lst_str, t_dict_str, t_str_tup, t_tup_tup, t_int_tup, t_bool_tup, t_lst_tup, t_dict_tup, t_str_lst, t_tup_lst, t_int_lst, t_bool_lst, t_lst_lst, t_dict_lst, t_str_dic, t_tup_dic, t_int_dic, t_bool_dic, t_lst_dic, t_dict_dic, r_add_i, r_add_s, r_add_t, r_add_l, r_sub, r_mul, r_mul_l, r_fdiv, r_mod, r_pow, r_lt, r_ix_l, r_ix_t, r_ix_s, r_ix_rl, r_ix_rd, r_sl_l, r_sl_sl, r_sl_t, r_sl_s, r_len_l, r_len_sl, r_len_t, r_len_s, r_len_r, r_all, r_any, r_tuple_l, r_tuple_sl, r_tuple_t, r_tuple_r, r_list_l, r_list_sl, r_list_t, r_list_r, r_ord, r_repr, r_pop, r_app, r_ext, r_join, r_join_t, r_isl_r, r_isl_l, r_in, r_put_d, r_put_l, r_eq_i, r_eq_s, r_ne_i, r_ne_s, r_eq_t0, r_ne_t0, r_eq_r0, r_ne_r0, r_eq_l0, r_ne_l0, q_lstM, q_frz, e_fz_r, e_fz_non, e_fz_bl, e_fz_int, e_fz_str, e_fz_tup, e_fz_lst, e_fz_dic, q_drp, q_zs, e_zs_tup_tup, e_zs_tup_lst, e_zs_tup_slst, e_zs_lst_tup, e_zs_lst_lst, e_zs_lst_slst, e_zs_slst_tup, e_zs_slst_lst, e_zs_slst_slst, r_mem_s, r_mem_t, r_mem_l, r_int_i, r_int_b, r_listM_l, r_listM_sl, r_listM_t, r_start, wipeD, br_not, br_true, br_false, br_dec, List.map_cons, List.map_nil, List.length_cons, List.length_nil, List.replicate_succ, List.replicate_zero, List.cons_append, List.nil_append, List.getElem?_cons_zero, List.getElem?_cons_succ, List.getElem?_nil, List.set_cons_zero, List.set_cons_succ, Nat.reduceAdd, Nat.reduceSub, Nat.reduceLeDiff, Nat.zero_add, updM_same, true_and, List.isEmpty_nil, List.isEmpty_cons, Bool.not_true, Bool.not_false, Bool.not_not, q_revA, e_ra_l, e_ra_s, e_ra_t, e_ra_z, q_star, e_st_l, e_st_s, e_st_t, q_par3, e_p3, q_cont, r_mul2_i, r_mul2_l, r_mul2_s, r_le2_i, r_le2_s, r_lt2_i, r_lt2_s, r_sum, r_max2, r_min2, r_rst, r_spl, r_six, q_callX, q_callKX, q_raise, e_d1, q_try, q_tryW, q_xf, q_isX, e_cau, r_add2_i, r_add2_s, r_add2_t, r_add2_l, r_add2_rl, r_add2_lr, q_sliM, r_slM, q_kdef, q_mix21, q_mix03, List.length_map]
        refine ⟨a, c, rows, [.inr (rows.length - 1)], ?_, h5, hr, fun n hn => ?_, by simp, fun t hn => (by cases List.mem_singleton.mp hn), fun M6 h6 o6 => ?_⟩
        · have e : ((rows.length : Int) - 1) = ((rows.length - 1 : Nat) : Int) := by omega
          rw [e]
          rfl
        · cases List.mem_singleton.mp hn
          omega
        · simp only [q_v, q_c, q_tup, q_lst, q_op, q_nil, q_cons, q_tst, q_tru, q_andT, q_orT, q_notT, q_andV, q_orV, q_notV, q_ifE, q_next, q_seq, q_asg, q_drop, q_ret, q_retN, q_ifS, q_par, q_isi, q_blt, q_call, q_callK, q_kid, q_kswap, q_chain, q_neg, q_isN, q_notN, q_noO, q_someO, q_sli, q_rev, q_revM, q_bm, q_bm0, q_m1, q_seqI, q_rng, q_rng2, q_enum, q_zip, q_gnm, q_gtp, q_gs0, q_gs1, q_yes, q_put, e_bl, e_int, e_str, e_lst, e_n_non, e_n_bl, e_n_int, e_n_str, e_n_tup, e_n_lst, e_n_slst, e_n_dic, e_n_ref, e_seq_l, e_seq_s, e_seq_t, e_seq_z, e_rev_l, e_rev_s, e_i1, e_i2, e_l1, e_l1s, e_l2, e_p2, e_sl, e_o, e_ob, e_on, e_ml, e_md, e_c, e_tru_b, e_tru_n, e_tru_i, e_tru_t, e_tru_l, t_str_non, t_tup_non, t_int_non, t_bool_non, t_lst_non, t_dict_non, t_str_bl, t_tup_bl, t_int_bl, t_bool_bl, t_lst_bl, t_dict_bl, t_str_int, t_tup_int, t_int_int, t_bool_int, t_lst_int, t_dict_int, t_str_str, t_tup_str, t_int_str, t_bool_str, t_lst_str, t_dict_str, t_str_tup, t_tup_tup, t_int_tup, t_bool_tup, t_lst_tup, t_dict_tup, t_str_lst, t_tup_lst, t_int_lst, t_bool_lst, t_lst_lst, t_dict_lst, t_str_dic, t_tup_dic, t_int_dic, t_bool_dic, t_lst_dic, t_dict_dic, r_add_i, r_add_s, r_add_t, r_add_l, r_sub, r_mul, r_mul_l, r_fdiv, r_mod, r_pow, r_lt, r_ix_l, r_ix_t, r_ix_s, r_ix_rl, r_ix_rd, r_sl_l, r_sl_sl, r_sl_t, r_sl_s, r_len_l, r_len_sl, r_len_t, r_len_s, r_len_r, r_all, r_any, r_tuple_l, r_tuple_sl, r_tuple_t, r_tuple_r, r_list_l, r_list_sl, r_list_t, r_list_r, r_ord, r_repr, r_pop, r_app, r_ext, r_join, r_join_t, r_isl_r, r_isl_l, r_in, r_put_d, r_put_l, r_eq_i, r_eq_s, r_ne_i, r_ne_s, r_eq_t0, r_ne_t0, r_eq_r0, r_ne_r0, r_eq_l0, r_ne_l0, q_lstM, q_frz, e_fz_r, e_fz_non, e_fz_bl, e_fz_int, e_fz_str, e_fz_tup, e_fz_lst, e_fz_dic, q_drp, q_zs, e_zs_tup_tup, e_zs_tup_lst, e_zs_tup_slst, e_zs_lst_tup, e_zs_lst_lst, e_zs_lst_slst, e_zs_slst_tup, e_zs_slst_lst, e_zs_slst_slst, r_mem_s, r_mem_t, r_mem_l, r_int_i, r_int_b, r_listM_l, r_listM_sl, r_listM_t, r_start, wipeD, br_not, br_true, br_false, br_dec, List.map_cons, List.map_nil, List.length_cons, List.length_nil, List.replicate_succ, List.replicate_zero, List.cons_append, List.nil_append, List.getElem?_cons_zero, List.getElem?_cons_succ, List.getElem?_nil, List.set_cons_zero, List.set_cons_succ, Nat.reduceAdd, Nat.reduceSub, Nat.reduceLeDiff, Nat.zero_add, updM_same, true_and, List.isEmpty_nil, List.isEmpty_cons, Bool.not_true, Bool.not_false, Bool.not_not, q_revA, e_ra_l, e_ra_s, e_ra_t, e_ra_z, q_star, e_st_l, e_st_s, e_st_t, q_par3, e_p3, q_cont, r_mul2_i, r_mul2_l, r_mul2_s, r_le2_i, r_le2_s, r_lt2_i, r_lt2_s, r_sum, r_max2, r_min2, r_rst, r_spl, r_six, q_callX, q_callKX, q_raise, e_d1, q_try, q_tryW, q_xf, q_isX, e_cau, r_add2_i, r_add2_s, r_add2_t, r_add2_l, r_add2_rl, r_add2_lr, q_sliM, r_slM, q_kdef, q_mix21, q_mix03]
          exact ⟨h6, _, _, _, _, _, rfl⟩
    · obtain ⟨w1, x2, x3, x4, x5, x6, rfl⟩ := w
      simp only [q_v, q_c, q_tup, q_lst, q_op, q_nil, q_cons, q_tst, q_tru, q_andT, q_orT, q_notT, q_andV, q_orV, q_notV, q_ifE, q_next, q_seq, q_asg, q_drop, q_ret, q_retN, q_ifS, q_par, q_isi, q_blt, q_call, q_callK, q_kid, q_kswap, q_chain, q_neg, q_isN, q_notN, q_noO, q_someO, q_sli, q_rev, q_revM, q_bm, q_bm0, q_m1, q_seqI, q_rng, q_rng2, q_enum, q_zip, q_gnm, q_gtp, q_gs0, q_gs1, q_yes, q_put, e_bl, e_int, e_str, e_lst, e_n_non, e_n_bl, e_n_int, e_n_str, e_n_tup, e_n_lst, e_n_slst, e_n_dic, e_n_ref, e_seq_l, e_seq_s, e_seq_t, e_seq_z, e_rev_l, e_rev_s, e_i1, e_i2, e_l1, e_l1s, e_l2, e_p2, e_sl, e_o, e_ob, e_on, e_ml, e_md, e_c, e_tru_b, e_tru_n, e_tru_i, e_tru_t, e_tru_l, t_str_non, t_tup_non, t_int_non, t_bool_non, t_lst_non, t_dict_non, t_str_bl, t_tup_bl, t_int_bl, t_bool_bl, t_lst_bl, t_dict_bl, t_str_int, t_tup_int, t_int_int, t_bool_int, t_lst_int, t_dict_int, t_str_str, t_tup_str, t_int_str, t_bool_str, t_lst_str, t_dict_str, t_str_tup, t_tup_tup, t_int_tup, t_bool_tup, t_lst_tup, t_dict_tup, t_str_lst, t_tup_lst, t_int_lst, t_bool_lst, t_lst_lst, t_dict_lst, t_str_dic, t_tup_dic, t_int_dic, t_bool_dic, t_lst_dic, t_dict_dic, r_add_i, r_add_s, r_add_t, r_add_l, r_sub, r_mul, r_mul_l, r_fdiv, r_mod, r_pow, r_lt, r_ix_l, r_ix_t, r_ix_s, r_ix_rl, r_ix_rd, r_sl_l, r_sl_sl, r_sl_t, r_sl_s, r_len_l, r_len_sl, r_len_t, r_len_s, r_len_r, r_all, r_any, r_tuple_l, r_tuple_sl, r_tuple_t, r_tuple_r, r_list_l, r_list_sl, r_list_t, r_list_r, r_ord, r_repr, r_pop, r_app, r_ext, r_join, r_join_t, r_isl_r, r_isl_l, r_in, r_put_d, r_put_l, r_eq_i, r_eq_s, r_ne_i, r_ne_s, r_eq_t0, r_ne_t0, r_eq_r0, r_ne_r0, r_eq_l0, r_ne_l0, q_lstM, q_frz, e_fz_r, e_fz_non, e_fz_bl, e_fz_int, e_fz_str, e_fz_tup, e_fz_lst, e_fz_dic, q_drp, q_zs, e_zs_tup_tup, e_zs_tup_lst, e_zs_tup_slst, e_zs_lst_tup, e_zs_lst_lst, e_zs_lst_slst, e_zs_slst_tup, e_zs_slst_lst, e_zs_slst_slst, r_mem_s, r_mem_t, r_mem_l, r_int_i, r_int_b, r_listM_l, r_listM_sl, r_listM_t, r_start, wipeD, br_not, br_true, br_false, br_dec, List.map_cons, List.map_nil, List.length_cons, List.length_nil, List.replicate_succ, List.replicate_zero, List.cons_append, List.nil_append, List.getElem?_cons_zero, List.getElem?_cons_succ, List.getElem?_nil, List.set_cons_zero, List.set_cons_succ, Nat.reduceAdd, Nat.reduceSub, Nat.reduceLeDiff, Nat.zero_add, updM_same, true_and, List.isEmpty_nil, List.isEmpty_cons, Bool.not_true, Bool.not_false, Bool.not_not, q_revA, e_ra_l, e_ra_s, e_ra_t, e_ra_z, q_star, e_st_l, e_st_s, e_st_t, q_par3, e_p3, q_cont, r_mul2_i, r_mul2_l, r_mul2_s, r_le2_i, r_le2_s, r_lt2_i, r_lt2_s, r_sum, r_max2, r_min2, r_rst, r_spl, r_six, q_callX, q_callKX, q_raise, e_d1, q_try, q_tryW, q_xf, q_isX, e_cau, r_add2_i, r_add2_s, r_add2_t, r_add2_l, r_add2_rl, r_add2_lr, q_sliM, r_slM, q_kdef, q_mix21, q_mix03]
      exact hF _
  · exact h.elim
theorem at_end : ∀ (ns : List Int) (M : Mp), ns.length ≤ 63 → R_law [.slst (ns.map D.int)] M fun d _ => d = .bl true := fun ns M h => ⟨ns, rfl, h, fun _ => rfl⟩
end K43

namespace K43
open PySem PySem.Spec PyProof.Rows L2 Fx
def topS (i : Nat) : Stmt := PySem.Challenge.pw_finishable_k43_lengths_and_tokens_of_pie.main.body.getD i (.Pass ⟨0, 0, 0, 0⟩)
abbrev s_listed : Stmt := topS 7
theorem sc_listed : FnScope ["numbers", "found", "number"] ["numbers"] (defScope s_listed) := ⟨rfl, rfl, rfl, by decide +kernel, rfl, by decide +kernel, by decide +kernel⟩
theorem dr_listed [Grd] {P : Program} {w : World} {K : PySem.W.Frag} {mg : Str → Option Value} {base : Heap} {f : Addr} {cdv : Value} {A : Around} {outer : List PySem.Env} {s : Shared} {H : Hp} {E : XK}
    (gd : (A.deeper (envOfC "listed" (defScope s_listed) s.heap.objs.size f cdv)).guards = some []) (hr : Room 0 (A.deeper (envOfC "listed" (defScope s_listed) s.heap.objs.size f cdv))) :
    DSs (cxOf CX0 P w K mg base ["numbers", "found", "number"] "listed" (defScope s_listed) f cdv A outer s H E).nox (defBody s_listed) (T_listed) :=
  (dss_cons (ds_set 1 sc_listed.nd (de_lstM da_nil))
    (dss_cons (ds_for (t := (.nm 2)) PassesOwn.never rfl (di_seq (dv 0)) (dg_nm 2 sc_listed.nd) (dss_one (ds_expr (de_bmL PySem.F.slot_list_extend PySem.F.type_list_extend dm_extend (dv 1) (da_cons (de_lst (da_cons de_str (da_cons (dv 2) da_nil))) da_nil)))))
    (dss_one (ds_ret (de_drp (de_sliM (dv 1) (do_some de_int) do_none))))))
theorem ok_listed {P : Program} {w : World} {K : PySem.W.Frag} {mg : Str → Option Value} {base : Heap} {f : Addr} {fd : FuncData} {R : RD} (Fu : Fun K "listed" "listed" s_listed f fd) (bi : Binds K fd ["numbers"] []) (gm : mg "listed" = some (.ref f)) (hn : ∀ xs M F, R xs M F → xs.length = 1)
    (hR : ∀ ds M F, R ds M F → T_listed { nx := fun _ M' => F .non M', rt := F } (startD 3 ds) M) : FnH P w K mg base 1 "listed" f fd ["numbers"] R :=
  ⟨fnd Fu sc_listed fun cdv A outer s H E gd hr => ⟨_, dr_listed gd hr, fun ds M F _ h => hR ds M F h⟩, hn, gm, Fu.kp, bi⟩
abbrev s_length_in : Stmt := topS 9
theorem sc_length_in : FnScope ["parts", "lengths", "part"] ["parts", "lengths"] (defScope s_length_in) := ⟨rfl, rfl, rfl, by decide +kernel, rfl, by decide +kernel, by decide +kernel⟩
theorem dr_length_in [Grd] {P : Program} {w : World} {K : PySem.W.Frag} {mg : Str → Option Value} {base : Heap} {f : Addr} {cdv : Value} {A : Around} {outer : List PySem.Env} {s : Shared} {H : Hp} {E : XK} (m_sum : mg "sum" = none) (m_isinstance : mg "isinstance" = none) (m_str : mg "str" = none)
    (gd : (A.deeper (envOfC "length_in" (defScope s_length_in) s.heap.objs.size f cdv)).guards = some []) (hr : Room 0 (A.deeper (envOfC "length_in" (defScope s_length_in) s.heap.objs.size f cdv))) :
    DSs (cxOf CX0 P w K mg base ["parts", "lengths", "part"] "length_in" (defScope s_length_in) f cdv A outer s H E).nox (defBody s_length_in) (T_length_in) :=
  (dss_one (ds_ret (de_blt (cb_sum rfl) (by rfl) m_sum (by decide +kernel) (da_cons (de_lc (t := (.nm 2)) [2] rfl sc_length_in.nd (di_seq (dv 0)) (blkOk_by (own := [("part", 2)]) (N := ["parts", "lengths", "part"]) (sc := defScope s_length_in) (by decide +kernel)) (by simp [slots, slotss]) (fun _ _ _ _ _ => (dg_nm 2 sc_length_in.nd)) (fun _ _ _ _ _ => dts_nil) (fun _ _ _ _ _ => (de_if (dt_val (de_isi .str (dv 2) (by rfl) m_isinstance (by rfl) m_str (by decide +kernel))) de_int (de_ix (or_ix (hu_of hr)) (dv 1) (dv 2) (fun _ _ => rfl))))) da_nil))))
theorem ok_length_in {P : Program} {w : World} {K : PySem.W.Frag} {mg : Str → Option Value} {base : Heap} {f : Addr} {fd : FuncData} {R : RD} (m_sum : mg "sum" = none) (m_isinstance : mg "isinstance" = none) (m_str : mg "str" = none) (Fu : Fun K "length_in" "length_in" s_length_in f fd) (bi : Binds K fd ["parts", "lengths"] []) (gm : mg "length_in" = some (.ref f)) (hn : ∀ xs M F, R xs M F → xs.length = 2)
    (hR : ∀ ds M F, R ds M F → T_length_in { nx := fun _ M' => F .non M', rt := F } (startD 3 ds) M) : FnH P w K mg base 1 "length_in" f fd ["parts", "lengths"] R :=
  ⟨fnd Fu sc_length_in fun cdv A outer s H E gd hr => ⟨_, dr_length_in m_sum m_isinstance m_str gd hr, fun ds M F _ h => hR ds M F h⟩, hn, gm, Fu.kp, bi⟩
abbrev s_l_hand : Stmt := topS 13
theorem sc_l_hand : FnScope ["_law_script", "_law_cells", "_law_mixed", "_law_cell"] ["_law_script"] (defScope s_l_hand) := ⟨rfl, rfl, rfl, by decide +kernel, rfl, by decide +kernel, by decide +kernel⟩
theorem dr_l_hand [Grd] {P : Program} {w : World} {K : PySem.W.Frag} {mg : Str → Option Value} {base : Heap} {f : Addr} {cdv : Value} {A : Around} {outer : List PySem.Env} {s : Shared} {H : Hp} {E : XK} (m_list : mg "list" = none)
    (gd : (A.deeper (envOfC "_law_hand" (defScope s_l_hand) s.heap.objs.size f cdv)).guards = some []) (hr : Room 0 (A.deeper (envOfC "_law_hand" (defScope s_l_hand) s.heap.objs.size f cdv))) :
    DSs (cxOf CX0 P w K mg base ["_law_script", "_law_cells", "_law_mixed", "_law_cell"] "_law_hand" (defScope s_l_hand) f cdv A outer s H E).nox (defBody s_l_hand) (T_l_hand) :=
  (dss_cons (ds_par 1 2 rfl sc_l_hand.nd (by decide) (da_cons (de_bltTy cb_list (by rfl) m_list (by decide +kernel) (da_cons (de_sli (dv 0) do_none (do_some de_int)) da_nil)) (da_cons de_int da_nil)))
    (dss_cons (ds_for (t := (.nm 3)) PassesOwn.never rfl (di_seq (dv 1)) (dg_nm 3 sc_l_hand.nd) (dss_one (ds_set 2 sc_l_hand.nd (de_op or_mod (de_op or_add2 (de_op or_add2 (de_op or_mul2 (dv 2) de_int) (de_op or_mod (dv 3) de_int)) de_int) de_int))))
    (dss_one (ds_ret (de_disp true (zs := ["cells", "mixed", "draws"]) (.cons (de_revM (dv 1)) (.cons (dv 2) (.cons de_int .nil))) (by simp) (by decide) (by decide +kernel))))))
theorem ok_l_hand {P : Program} {w : World} {K : PySem.W.Frag} {mg : Str → Option Value} {base : Heap} {f : Addr} {fd : FuncData} {R : RD} (m_list : mg "list" = none) (Fu : Fun K "_law_hand" "_law_hand" s_l_hand f fd) (bi : Binds K fd ["_law_script"] []) (gm : mg "_law_hand" = some (.ref f)) (hn : ∀ xs M F, R xs M F → xs.length = 1)
    (hR : ∀ ds M F, R ds M F → T_l_hand { nx := fun _ M' => F .non M', rt := F } (startD 4 ds) M) : FnH P w K mg base 1 "_law_hand" f fd ["_law_script"] R :=
  ⟨fnd Fu sc_l_hand fun cdv A outer s H E gd hr => ⟨_, dr_l_hand m_list gd hr, fun ds M F _ h => hR ds M F h⟩, hn, gm, Fu.kp, bi⟩
abbrev s_l_draw : Stmt := topS 14
theorem sc_l_draw : FnScope ["_law_hand_here", "_law_many", "_law_core", "_law_cell"] ["_law_hand_here", "_law_many"] (defScope s_l_draw) := ⟨rfl, rfl, rfl, by decide +kernel, rfl, by decide +kernel, by decide +kernel⟩
theorem dr_l_draw [Grd] {P : Program} {w : World} {K : PySem.W.Frag} {mg : Str → Option Value} {base : Heap} {f : Addr} {cdv : Value} {A : Around} {outer : List PySem.Env} {s : Shared} {H : Hp} {E : XK}
    (gd : (A.deeper (envOfC "_law_draw" (defScope s_l_draw) s.heap.objs.size f cdv)).guards = some []) (hr : Room 0 (A.deeper (envOfC "_law_draw" (defScope s_l_draw) s.heap.objs.size f cdv))) :
    DSs (cxOf CX0 P w K mg base ["_law_hand_here", "_law_many", "_law_core", "_law_cell"] "_law_draw" (defScope s_l_draw) f cdv A outer s H E).nox (defBody s_l_draw) (T_l_draw) :=
  (dss_cons (ds_put (hu_of hr) (dv 0) de_str (de_op or_add2 (de_ix (or_ix (hu_of hr)) (dv 0) de_str (fun _ _ => rfl)) de_int))
    (dss_cons (ds_set 2 sc_l_draw.nd (de_op or_add2 (de_ix (or_ix (hu_of hr)) (dv 0) de_str (fun _ _ => rfl)) (de_op or_mul2 de_int (de_ix (or_ix (hu_of hr)) (dv 0) de_str (fun _ _ => rfl)))))
    (dss_cons (ds_if (dt_cmp (or_ne hr.units) (de_ix (or_ix (hu_of hr)) (dv 0) de_str (fun _ _ => rfl)) (de_lst da_nil) (by rfl)) (dss_cons (ds_set 3 sc_l_draw.nd (de_bm0L PySem.F.slot_list_pop PySem.F.type_list_pop dm_pop (de_ix (or_ix (hu_of hr)) (dv 0) de_str (fun _ _ => rfl))))
    (dss_cons (ds_if (dt_cmp or_ge (dv 3) (de_op or_pow de_int de_int) (by rfl)) (dss_cons (ds_expr (de_bmL PySem.F.slot_list_append PySem.F.type_list_append dm_append (de_ix (or_ix (hu_of hr)) (dv 0) de_str (fun _ _ => rfl)) (da_cons (de_op or_fdiv (dv 3) (dv 1)) da_nil)))
    (dss_one (ds_ret (de_op or_mod (dv 3) (dv 1))))) dss_nil)
    (dss_one (ds_set 2 sc_l_draw.nd (de_op or_add2 (dv 2) (dv 3)))))) dss_nil)
    (dss_cons (ds_set 2 sc_l_draw.nd (de_op or_mod (de_op or_mul2 (de_op or_mod (dv 2) de_int) de_int) de_int))
    (dss_cons (ds_set 2 sc_l_draw.nd (de_op or_mod (de_op or_add2 (de_op or_add2 (de_op or_mul2 (dv 2) (dv 2)) (de_op or_mul2 de_int (de_ix (or_ix (hu_of hr)) (dv 0) de_str (fun _ _ => rfl)))) de_int) de_int))
    (dss_one (ds_ret (de_op or_mod (de_op or_fdiv (de_op or_mod (de_op or_mul2 (dv 2) de_int) de_int) de_int) (dv 1)))))))))
theorem ok_l_draw {P : Program} {w : World} {K : PySem.W.Frag} {mg : Str → Option Value} {base : Heap} {f : Addr} {fd : FuncData} {R : RD} (Fu : Fun K "_law_draw" "_law_draw" s_l_draw f fd) (bi : Binds K fd ["_law_hand_here", "_law_many"] []) (gm : mg "_law_draw" = some (.ref f)) (hn : ∀ xs M F, R xs M F → xs.length = 2)
    (hR : ∀ ds M F, R ds M F → T_l_draw { nx := fun _ M' => F .non M', rt := F } (startD 4 ds) M) : FnH P w K mg base 1 "_law_draw" f fd ["_law_hand_here", "_law_many"] R :=
  ⟨fnd Fu sc_l_draw fun cdv A outer s H E gd hr => ⟨_, dr_l_draw gd hr, fun ds M F _ h => hR ds M F h⟩, hn, gm, Fu.kp, bi⟩
abbrev s_l_between : Stmt := topS 17
theorem sc_l_between : FnScope ["_law_lists", "_law_found", "_law_at", "_law_one"] ["_law_lists"] (defScope s_l_between) := ⟨rfl, rfl, rfl, by decide +kernel, rfl, by decide +kernel, by decide +kernel⟩
theorem dr_l_between [Grd] {P : Program} {w : World} {K : PySem.W.Frag} {mg : Str → Option Value} {base : Heap} {f : Addr} {cdv : Value} {A : Around} {outer : List PySem.Env} {s : Shared} {H : Hp} {E : XK} (m_enumerate : mg "enumerate" = none) (m_int : mg "int" = none)
    (gd : (A.deeper (envOfC "_law_between" (defScope s_l_between) s.heap.objs.size f cdv)).guards = some []) (hr : Room 0 (A.deeper (envOfC "_law_between" (defScope s_l_between) s.heap.objs.size f cdv))) :
    DSs (cxOf CX0 P w K mg base ["_law_lists", "_law_found", "_law_at", "_law_one"] "_law_between" (defScope s_l_between) f cdv A outer s H E).nox (defBody s_l_between) (T_l_between) :=
  (dss_cons (ds_set 1 sc_l_between.nd (de_lst da_nil))
    (dss_cons (ds_for (t := (.tp [(.nm 2), (.nm 3)])) PassesOwn.never rfl (di_enum (by rfl) m_enumerate (da_cons (dv 0) da_nil)) (dg_tp rfl (dgs_cons (dg_nm 2 sc_l_between.nd) (dgs_cons (dg_nm 3 sc_l_between.nd) dgs_nil))) (dss_one (ds_set 1 sc_l_between.nd (de_op or_add2 (de_op or_add2 (dv 1) (de_op or_mul2 (de_lst (da_cons de_str da_nil)) (de_bltTy cb_int (by rfl) m_int (by decide +kernel) (da_cons (de_cmp or_gt (dv 2) de_int (by rfl)) da_nil)))) (dv 3)))))
    (dss_one (ds_ret (dv 1)))))
theorem ok_l_between {P : Program} {w : World} {K : PySem.W.Frag} {mg : Str → Option Value} {base : Heap} {f : Addr} {fd : FuncData} {R : RD} (m_enumerate : mg "enumerate" = none) (m_int : mg "int" = none) (Fu : Fun K "_law_between" "_law_between" s_l_between f fd) (bi : Binds K fd ["_law_lists"] []) (gm : mg "_law_between" = some (.ref f)) (hn : ∀ xs M F, R xs M F → xs.length = 1)
    (hR : ∀ ds M F, R ds M F → T_l_between { nx := fun _ M' => F .non M', rt := F } (startD 4 ds) M) : FnH P w K mg base 1 "_law_between" f fd ["_law_lists"] R :=
  ⟨fnd Fu sc_l_between fun cdv A outer s H E gd hr => ⟨_, dr_l_between m_enumerate m_int gd hr, fun ds M F _ h => hR ds M F h⟩, hn, gm, Fu.kp, bi⟩
abbrev s_l_size : Stmt := topS 19
theorem sc_l_size : FnScope ["_law_step_here", "_law_sizes", "_law_lots", "_law_k"] ["_law_step_here", "_law_sizes"] (defScope s_l_size) := ⟨rfl, rfl, rfl, by decide +kernel, rfl, by decide +kernel, by decide +kernel⟩
theorem dr_l_size [Grd] {P : Program} {w : World} {K : PySem.W.Frag} {mg : Str → Option Value} {base : Heap} {f : Addr} {cdv : Value} {A : Around} {outer : List PySem.Env} {s : Shared} {H : Hp} {E : XK} (m_sum : mg "sum" = none) (m_max : mg "max" = none) (m_len : mg "len" = none)
    (gd : (A.deeper (envOfC "_law_size" (defScope s_l_size) s.heap.objs.size f cdv)).guards = some []) (hr : Room 0 (A.deeper (envOfC "_law_size" (defScope s_l_size) s.heap.objs.size f cdv))) :
    DSs (cxOf CX0 P w K mg base ["_law_step_here", "_law_sizes", "_law_lots", "_law_k"] "_law_size" (defScope s_l_size) f cdv A outer s H E).nox (defBody s_l_size) (T_l_size) :=
  (dss_cons (ds_if (dt_cmp (or_eq hr.units) (de_ix (or_ix (hu_of hr)) (dv 0) de_int (fun _ _ => rfl)) de_str (by rfl)) (dss_one (ds_ret de_int)) dss_nil)
    (dss_cons (ds_setLc (t := (.nm 3)) [3] 2 rfl sc_l_size.nd (di_seq (de_ix (or_ix (hu_of hr)) (dv 0) de_int (fun _ _ => rfl))) (blkOk_by (own := [("_law_k", 3)]) (N := ["_law_step_here", "_law_sizes", "_law_lots", "_law_k"]) (sc := defScope s_l_size) (by decide +kernel)) (by simp [slots, slotss]) (fun _ _ _ _ _ => (dg_nm 3 sc_l_size.nd)) (fun _ _ _ _ _ => dts_nil) (fun _ _ _ _ _ => (de_ix (or_ix (hu_of hr)) (dv 1) (dv 3) (fun _ _ => rfl))) (sw_true rfl rfl rfl (by decide +kernel)))
    (dss_cons (ds_if (dt_cmp (or_eq hr.units) (de_ix (or_ix (hu_of hr)) (dv 0) de_int (fun _ _ => rfl)) de_str (by rfl)) (dss_one (ds_ret (de_op or_add2 (de_blt (cb_sum rfl) (by rfl) m_sum (by decide +kernel) (da_cons (dv 2) da_nil)) de_int))) dss_nil)
    (dss_one (ds_ret (de_op or_add2 (de_blt (cb_sum rfl) (by rfl) m_sum (by decide +kernel) (da_cons (dv 2) da_nil)) (de_if (dt_cmp (or_eq hr.units) (de_ix (or_ix (hu_of hr)) (dv 0) de_int (fun _ _ => rfl)) de_str (by rfl)) (de_op or_add2 de_int (de_blt (cb_max2 rfl) (by rfl) m_max (by decide +kernel) (da_cons de_int (da_cons (de_blt cb_len (by rfl) m_len (by decide +kernel) (da_cons (dv 2) da_nil)) da_nil)))) (de_op or_add2 de_int (de_blt (cb_max2 rfl) (by rfl) m_max (by decide +kernel) (da_cons de_int (da_cons (de_op or_sub (de_blt cb_len (by rfl) m_len (by decide +kernel) (da_cons (dv 2) da_nil)) de_int) da_nil)))))))))))
theorem ok_l_size {P : Program} {w : World} {K : PySem.W.Frag} {mg : Str → Option Value} {base : Heap} {f : Addr} {fd : FuncData} {R : RD} (m_sum : mg "sum" = none) (m_max : mg "max" = none) (m_len : mg "len" = none) (Fu : Fun K "_law_size" "_law_size" s_l_size f fd) (bi : Binds K fd ["_law_step_here", "_law_sizes"] []) (gm : mg "_law_size" = some (.ref f)) (hn : ∀ xs M F, R xs M F → xs.length = 2)
    (hR : ∀ ds M F, R ds M F → T_l_size { nx := fun _ M' => F .non M', rt := F } (startD 4 ds) M) : FnH P w K mg base 1 "_law_size" f fd ["_law_step_here", "_law_sizes"] R :=
  ⟨fnd Fu sc_l_size fun cdv A outer s H E gd hr => ⟨_, dr_l_size m_sum m_max m_len gd hr, fun ds M F _ h => hR ds M F h⟩, hn, gm, Fu.kp, bi⟩
abbrev s_parts_of : Stmt := topS 8
theorem sc_parts_of : FnScope ["step", "word", "name", "numbers"] ["step"] (defScope s_parts_of) := ⟨rfl, rfl, rfl, by decide +kernel, rfl, by decide +kernel, by decide +kernel⟩
theorem dr_parts_of [Grd] {P : Program} {w : World} {K : PySem.W.Frag} {mg : Str → Option Value} {base : Heap} {f : Addr} {cdv : Value} {A : Around} {outer : List PySem.Env} {s : Shared} {H : Hp} {E : XK} {f_listed : Addr} {fd_listed : FuncData} {R_listed : RD} (h_listed : FnH P w K mg base 1 "listed" f_listed fd_listed ["numbers"] R_listed) (g_METHOD : GV K mg "METHOD" (.str "method")) (g_CALL : GV K mg "CALL" (.str "call")) (g_TOKEN : GV K mg "TOKEN" (.str "token"))
    (gd : (A.deeper (envOfC "parts_of" (defScope s_parts_of) s.heap.objs.size f cdv)).guards = some []) (hr : Room 1 (A.deeper (envOfC "parts_of" (defScope s_parts_of) s.heap.objs.size f cdv))) :
    DSs (cxOf CX0 P w K mg base ["step", "word", "name", "numbers"] "parts_of" (defScope s_parts_of) f cdv A outer s H E).nox (defBody s_parts_of) (T_parts_of R_listed) :=
  (dss_cons (ds_if (dt_cmp (or_eq hr.units) (de_ix (or_ix (hu_of hr)) (dv 0) de_int (fun _ _ => rfl)) (dk g_TOKEN) (by rfl)) (dss_one (ds_ret (de_lst (da_cons (de_ix (or_ix (hu_of hr)) (dv 0) de_int (fun _ _ => rfl)) da_nil)))) dss_nil)
    (dss_cons (ds_asg (t := (.tp [(.nm 1), (.nm 2), (.nm 3)])) (dv 0) (dg_tp rfl (dgs_cons (dg_nm 1 sc_parts_of.nd) (dgs_cons (dg_nm 2 sc_parts_of.nd) (dgs_cons (dg_nm 3 sc_parts_of.nd) dgs_nil)))))
    (dss_cons (ds_if (dt_cmp (or_eq hr.units) (dv 1) (dk g_CALL) (by rfl)) (dss_one (ds_ret (de_lst (da_cons (dv 2) (da_cons de_str (da_star (dcall h_listed gd hr (da_cons (dv 3) da_nil)) (da_cons de_str da_nil))))))) dss_nil)
    (dss_cons (ds_if (dt_cmp (or_eq hr.units) (dv 1) (dk g_METHOD) (by rfl)) (dss_one (ds_ret (de_lst (da_cons (de_ix (or_ix (hu_of hr)) (dv 3) de_int (fun _ _ => rfl)) (da_cons de_str (da_cons (dv 2) (da_cons de_str (da_star (dcall h_listed gd hr (da_cons (de_sli (dv 3) (do_some de_int) do_none) da_nil)) (da_cons de_str da_nil))))))))) dss_nil)
    (dss_one (ds_ret (de_lst (da_cons de_str (da_cons (de_ix (or_ix (hu_of hr)) (dv 3) de_int (fun _ _ => rfl)) (da_cons (dv 2) (da_cons (de_ix (or_ix (hu_of hr)) (dv 3) de_int (fun _ _ => rfl)) (da_cons de_str da_nil))))))))))))
theorem ok_parts_of {P : Program} {w : World} {K : PySem.W.Frag} {mg : Str → Option Value} {base : Heap} {f : Addr} {fd : FuncData} {R : RD} {f_listed : Addr} {fd_listed : FuncData} {R_listed : RD} (h_listed : FnH P w K mg base 1 "listed" f_listed fd_listed ["numbers"] R_listed) (g_METHOD : GV K mg "METHOD" (.str "method")) (g_CALL : GV K mg "CALL" (.str "call")) (g_TOKEN : GV K mg "TOKEN" (.str "token")) (Fu : Fun K "parts_of" "parts_of" s_parts_of f fd) (bi : Binds K fd ["step"] []) (gm : mg "parts_of" = some (.ref f)) (hn : ∀ xs M F, R xs M F → xs.length = 1)
    (hR : ∀ ds M F, R ds M F → T_parts_of R_listed { nx := fun _ M' => F .non M', rt := F } (startD 4 ds) M) : FnH P w K mg base 2 "parts_of" f fd ["step"] R :=
  ⟨fnd Fu sc_parts_of fun cdv A outer s H E gd hr => ⟨_, dr_parts_of h_listed g_METHOD g_CALL g_TOKEN gd hr, fun ds M F _ h => hR ds M F h⟩, hn, gm, Fu.kp, bi⟩
abbrev s_l_pick : Stmt := topS 15
theorem sc_l_pick : FnScope ["_law_hand_here", "_law_some"] ["_law_hand_here", "_law_some"] (defScope s_l_pick) := ⟨rfl, rfl, rfl, by decide +kernel, rfl, by decide +kernel, by decide +kernel⟩
theorem dr_l_pick [Grd] {P : Program} {w : World} {K : PySem.W.Frag} {mg : Str → Option Value} {base : Heap} {f : Addr} {cdv : Value} {A : Around} {outer : List PySem.Env} {s : Shared} {H : Hp} {E : XK} {f_l_draw : Addr} {fd_l_draw : FuncData} {R_l_draw : RD} (h_l_draw : FnH P w K mg base 1 "_law_draw" f_l_draw fd_l_draw ["_law_hand_here", "_law_many"] R_l_draw) (m_len : mg "len" = none)
    (gd : (A.deeper (envOfC "_law_pick" (defScope s_l_pick) s.heap.objs.size f cdv)).guards = some []) (hr : Room 1 (A.deeper (envOfC "_law_pick" (defScope s_l_pick) s.heap.objs.size f cdv))) :
    DSs (cxOf CX0 P w K mg base ["_law_hand_here", "_law_some"] "_law_pick" (defScope s_l_pick) f cdv A outer s H E).nox (defBody s_l_pick) (T_l_pick R_l_draw) :=
  (dss_one (ds_ret (de_ix (or_ix (hu_of hr)) (dv 1) (dcall h_l_draw gd hr (da_cons (dv 0) (da_cons (de_blt cb_len (by rfl) m_len (by decide +kernel) (da_cons (dv 1) da_nil)) da_nil))) (fun _ _ => rfl))))
theorem ok_l_pick {P : Program} {w : World} {K : PySem.W.Frag} {mg : Str → Option Value} {base : Heap} {f : Addr} {fd : FuncData} {R : RD} {f_l_draw : Addr} {fd_l_draw : FuncData} {R_l_draw : RD} (h_l_draw : FnH P w K mg base 1 "_law_draw" f_l_draw fd_l_draw ["_law_hand_here", "_law_many"] R_l_draw) (m_len : mg "len" = none) (Fu : Fun K "_law_pick" "_law_pick" s_l_pick f fd) (bi : Binds K fd ["_law_hand_here", "_law_some"] []) (gm : mg "_law_pick" = some (.ref f)) (hn : ∀ xs M F, R xs M F → xs.length = 2)
    (hR : ∀ ds M F, R ds M F → T_l_pick R_l_draw { nx := fun _ M' => F .non M', rt := F } (startD 2 ds) M) : FnH P w K mg base 2 "_law_pick" f fd ["_law_hand_here", "_law_some"] R :=
  ⟨fnd Fu sc_l_pick fun cdv A outer s H E gd hr => ⟨_, dr_l_pick h_l_draw m_len gd hr, fun ds M F _ h => hR ds M F h⟩, hn, gm, Fu.kp, bi⟩
abbrev s_l_written : Stmt := topS 18
theorem sc_l_written : FnScope ["_law_it", "_law_found", "_law_step_here", "_law_lists", "_law_k"] ["_law_it"] (defScope s_l_written) := ⟨rfl, rfl, rfl, by decide +kernel, rfl, by decide +kernel, by decide +kernel⟩
theorem dr_l_written [Grd] {P : Program} {w : World} {K : PySem.W.Frag} {mg : Str → Option Value} {base : Heap} {f : Addr} {cdv : Value} {A : Around} {outer : List PySem.Env} {s : Shared} {H : Hp} {E : XK} {f_l_between : Addr} {fd_l_between : FuncData} {R_l_between : RD} (h_l_between : FnH P w K mg base 1 "_law_between" f_l_between fd_l_between ["_law_lists"] R_l_between)
    (gd : (A.deeper (envOfC "_law_written" (defScope s_l_written) s.heap.objs.size f cdv)).guards = some []) (hr : Room 1 (A.deeper (envOfC "_law_written" (defScope s_l_written) s.heap.objs.size f cdv))) :
    DSs (cxOf CX0 P w K mg base ["_law_it", "_law_found", "_law_step_here", "_law_lists", "_law_k"] "_law_written" (defScope s_l_written) f cdv A outer s H E).nox (defBody s_l_written) (T_l_written R_l_between) :=
  (dss_cons (ds_set 1 sc_l_written.nd (de_lstM da_nil))
    (dss_cons (ds_for (t := (.nm 2)) PassesOwn.never rfl (di_seq (dv 0)) (dg_nm 2 sc_l_written.nd) (dss_cons (ds_if (dt_cmp (or_eq hr.units) (de_ix (or_ix (hu_of hr)) (dv 2) de_int (fun _ _ => rfl)) de_str (by rfl)) (dss_cons (ds_expr (de_bmL PySem.F.slot_list_append PySem.F.type_list_append dm_append (dv 1) (da_cons (de_lst (da_cons (de_ix (or_ix (hu_of hr)) (dv 2) de_int (fun _ _ => rfl)) da_nil)) da_nil)))
    (dss_one ds_cont)) dss_nil)
    (dss_cons (ds_setLc (t := (.nm 4)) [4] 3 rfl sc_l_written.nd (di_seq (de_ix (or_ix (hu_of hr)) (dv 2) de_int (fun _ _ => rfl))) (blkOk_by (own := [("_law_k", 4)]) (N := ["_law_it", "_law_found", "_law_step_here", "_law_lists", "_law_k"]) (sc := defScope s_l_written) (by decide +kernel)) (by simp [slots, slotss]) (fun _ _ _ _ _ => (dg_nm 4 sc_l_written.nd)) (fun _ _ _ _ _ => dts_nil) (fun _ _ _ _ _ => (de_ix (or_ix (hu_of hr)) (dv 1) (dv 4) (fun _ _ => rfl))) (sw_true rfl rfl rfl (by decide +kernel)))
    (dss_one (ds_if (dt_cmp (or_eq hr.units) (de_ix (or_ix (hu_of hr)) (dv 2) de_int (fun _ _ => rfl)) de_str (by rfl)) (dss_one (ds_expr (de_bmL PySem.F.slot_list_append PySem.F.type_list_append dm_append (dv 1) (da_cons (de_op or_add2 (de_op or_add2 (de_op or_add2 (de_op or_add2 (de_lst (da_cons de_str da_nil)) (de_ix (or_ix (hu_of hr)) (dv 3) de_int (fun _ _ => rfl))) (de_lst (da_cons (de_ix (or_ix (hu_of hr)) (dv 2) de_int (fun _ _ => rfl)) da_nil))) (de_ix (or_ix (hu_of hr)) (dv 3) de_int (fun _ _ => rfl))) (de_lst (da_cons de_str da_nil))) da_nil)))) (dss_one (ds_if (dt_cmp (or_eq hr.units) (de_ix (or_ix (hu_of hr)) (dv 2) de_int (fun _ _ => rfl)) de_str (by rfl)) (dss_one (ds_expr (de_bmL PySem.F.slot_list_append PySem.F.type_list_append dm_append (dv 1) (da_cons (de_op or_add2 (de_op or_add2 (de_lst (da_cons (de_ix (or_ix (hu_of hr)) (dv 2) de_int (fun _ _ => rfl)) (da_cons de_str da_nil))) (dcall h_l_between gd hr (da_cons (dv 3) da_nil))) (de_lst (da_cons de_str da_nil))) da_nil)))) (dss_one (ds_expr (de_bmL PySem.F.slot_list_append PySem.F.type_list_append dm_append (dv 1) (da_cons (de_op or_add2 (de_op or_add2 (de_op or_add2 (de_ix (or_ix (hu_of hr)) (dv 3) de_int (fun _ _ => rfl)) (de_lst (da_cons de_str (da_cons (de_ix (or_ix (hu_of hr)) (dv 2) de_int (fun _ _ => rfl)) (da_cons de_str da_nil))))) (dcall h_l_between gd hr (da_cons (de_sli (dv 3) (do_some de_int) do_none) da_nil))) (de_lst (da_cons de_str da_nil))) da_nil)))))))))))
    (dss_one (ds_ret (de_frz (dv 1))))))
theorem ok_l_written {P : Program} {w : World} {K : PySem.W.Frag} {mg : Str → Option Value} {base : Heap} {f : Addr} {fd : FuncData} {R : RD} {f_l_between : Addr} {fd_l_between : FuncData} {R_l_between : RD} (h_l_between : FnH P w K mg base 1 "_law_between" f_l_between fd_l_between ["_law_lists"] R_l_between) (Fu : Fun K "_law_written" "_law_written" s_l_written f fd) (bi : Binds K fd ["_law_it"] []) (gm : mg "_law_written" = some (.ref f)) (hn : ∀ xs M F, R xs M F → xs.length = 1)
    (hR : ∀ ds M F, R ds M F → T_l_written R_l_between { nx := fun _ M' => F .non M', rt := F } (startD 5 ds) M) : FnH P w K mg base 2 "_law_written" f fd ["_law_it"] R :=
  ⟨fnd Fu sc_l_written fun cdv A outer s H E gd hr => ⟨_, dr_l_written h_l_between gd hr, fun ds M F _ h => hR ds M F h⟩, hn, gm, Fu.kp, bi⟩
abbrev s_length_of : Stmt := topS 10
theorem sc_length_of : FnScope ["rows", "pieces", "lengths", "step"] ["rows", "pieces"] (defScope s_length_of) := ⟨rfl, rfl, rfl, by decide +kernel, rfl, by decide +kernel, by decide +kernel⟩
theorem dr_length_of [Grd] {P : Program} {w : World} {K : PySem.W.Frag} {mg : Str → Option Value} {base : Heap} {f : Addr} {cdv : Value} {A : Around} {outer : List PySem.Env} {s : Shared} {H : Hp} {E : XK} {f_length_in f_parts_of : Addr} {fd_length_in fd_parts_of : FuncData} {R_length_in : RD} {R_parts_of : RD} (h_length_in : FnH P w K mg base 1 "length_in" f_length_in fd_length_in ["parts", "lengths"] R_length_in) (h_parts_of : FnH P w K mg base 2 "parts_of" f_parts_of fd_parts_of ["step"] R_parts_of)
    (gd : (A.deeper (envOfC "length_of" (defScope s_length_of) s.heap.objs.size f cdv)).guards = some []) (hr : Room 2 (A.deeper (envOfC "length_of" (defScope s_length_of) s.heap.objs.size f cdv))) :
    DSs (cxOf CX0 P w K mg base ["rows", "pieces", "lengths", "step"] "length_of" (defScope s_length_of) f cdv A outer s H E).nox (defBody s_length_of) (T_length_of R_length_in R_parts_of) :=
  (dss_cons (ds_set 2 sc_length_of.nd (de_lstM da_nil))
    (dss_cons (ds_for (t := (.nm 3)) PassesOwn.never rfl (di_seq (dv 0)) (dg_nm 3 sc_length_of.nd) (dss_one (ds_expr (de_bmL PySem.F.slot_list_append PySem.F.type_list_append dm_append (dv 2) (da_cons (dcall h_length_in gd hr (da_cons (dcall h_parts_of gd hr (da_cons (dv 3) da_nil)) (da_cons (dv 2) da_nil))) da_nil)))))
    (dss_one (ds_ret (de_drp (dcall h_length_in gd hr (da_cons (dv 1) (da_cons (dv 2) da_nil))))))))
theorem ok_length_of {P : Program} {w : World} {K : PySem.W.Frag} {mg : Str → Option Value} {base : Heap} {f : Addr} {fd : FuncData} {R : RD} {f_length_in f_parts_of : Addr} {fd_length_in fd_parts_of : FuncData} {R_length_in : RD} {R_parts_of : RD} (h_length_in : FnH P w K mg base 1 "length_in" f_length_in fd_length_in ["parts", "lengths"] R_length_in) (h_parts_of : FnH P w K mg base 2 "parts_of" f_parts_of fd_parts_of ["step"] R_parts_of) (Fu : Fun K "length_of" "length_of" s_length_of f fd) (bi : Binds K fd ["rows", "pieces"] []) (gm : mg "length_of" = some (.ref f)) (hn : ∀ xs M F, R xs M F → xs.length = 2)
    (hR : ∀ ds M F, R ds M F → T_length_of R_length_in R_parts_of { nx := fun _ M' => F .non M', rt := F } (startD 4 ds) M) : FnH P w K mg base 3 "length_of" f fd ["rows", "pieces"] R :=
  ⟨fnd Fu sc_length_of fun cdv A outer s H E gd hr => ⟨_, dr_length_of h_length_in h_parts_of gd hr, fun ds M F _ h => hR ds M F h⟩, hn, gm, Fu.kp, bi⟩
abbrev s_l_step : Stmt := topS 16
theorem sc_l_step : FnScope ["_law_hand_here", "_law_many", "_law_sort", "_law_sign", "_law_size_here", "_law_numbers", "_law_k"] ["_law_hand_here", "_law_many"] (defScope s_l_step) := ⟨rfl, rfl, rfl, by decide +kernel, rfl, by decide +kernel, by decide +kernel⟩
theorem dr_l_step [Grd] {P : Program} {w : World} {K : PySem.W.Frag} {mg : Str → Option Value} {base : Heap} {f : Addr} {cdv : Value} {A : Around} {outer : List PySem.Env} {s : Shared} {H : Hp} {E : XK} {f_l_pick f_l_draw : Addr} {fd_l_pick fd_l_draw : FuncData} {R_l_pick : RD} {R_l_draw : RD} (h_l_pick : FnH P w K mg base 2 "_law_pick" f_l_pick fd_l_pick ["_law_hand_here", "_law_some"] R_l_pick) (h_l_draw : FnH P w K mg base 1 "_law_draw" f_l_draw fd_l_draw ["_law_hand_here", "_law_many"] R_l_draw) (m_tuple : mg "tuple" = none) (m_range : mg "range" = none)
    (gd : (A.deeper (envOfC "_law_step" (defScope s_l_step) s.heap.objs.size f cdv)).guards = some []) (hr : Room 2 (A.deeper (envOfC "_law_step" (defScope s_l_step) s.heap.objs.size f cdv))) :
    DSs (cxOf CX0 P w K mg base ["_law_hand_here", "_law_many", "_law_sort", "_law_sign", "_law_size_here", "_law_numbers", "_law_k"] "_law_step" (defScope s_l_step) f cdv A outer s H E).nox (defBody s_l_step) (T_l_step R_l_pick R_l_draw) :=
  (dss_cons (ds_set 2 sc_l_step.nd (dcall h_l_pick gd hr (da_cons (dv 0) (da_cons (de_lst (da_cons de_str (da_cons de_str (da_cons de_str (da_cons de_str da_nil))))) da_nil))))
    (dss_cons (ds_if (dt_w (dw_or (dt_cmp (or_eq hr.units) (dv 2) de_str (by rfl)) (dw_or1 (dt_cmp (or_eq hr.units) (dv 1) de_int (by rfl))))) (dss_one (ds_ret (de_tup (da_cons de_str (da_cons (dcall h_l_pick gd hr (da_cons (dv 0) (da_cons (de_lst (da_cons de_str (da_cons de_str (da_cons de_str (da_cons de_str (da_cons de_str (da_cons de_str (da_cons de_str da_nil)))))))) da_nil))) da_nil))))) dss_nil)
    (dss_cons (ds_if (dt_cmp (or_eq hr.units) (dv 2) de_str (by rfl)) (dss_cons (ds_set 3 sc_l_step.nd (dcall h_l_pick gd hr (da_cons (dv 0) (da_cons (de_lst (da_cons de_str (da_cons de_str (da_cons de_str (da_cons de_str (da_cons de_str (da_cons de_str (da_cons de_str da_nil)))))))) da_nil))))
    (dss_one (ds_ret (de_tup (da_cons (dv 2) (da_cons (dv 3) (da_cons (de_tup (da_cons (dcall h_l_draw gd hr (da_cons (dv 0) (da_cons (dv 1) da_nil))) (da_cons (dcall h_l_draw gd hr (da_cons (dv 0) (da_cons (dv 1) da_nil))) da_nil))) da_nil))))))) dss_nil)
    (dss_cons (ds_set 4 sc_l_step.nd (de_if (dt_cmp (or_eq hr.units) (dv 2) de_str (by rfl)) (dcall h_l_pick gd hr (da_cons (dv 0) (da_cons (de_lst (da_cons de_int (da_cons de_int (da_cons de_int (da_cons de_int (da_cons de_int da_nil)))))) da_nil))) (dcall h_l_pick gd hr (da_cons (dv 0) (da_cons (de_lst (da_cons de_int (da_cons de_int (da_cons de_int (da_cons de_int (da_cons de_int da_nil)))))) da_nil)))))
    (dss_cons (ds_set 5 sc_l_step.nd (de_bltTy cb_tuple (by rfl) m_tuple (by decide +kernel) (da_cons (de_lc (t := (.nm 6)) [6] rfl sc_l_step.nd (di_rng1 (by rfl) m_range (da_cons (dv 4) da_nil)) (blkOk_by (own := [("_law_k", 6)]) (N := ["_law_hand_here", "_law_many", "_law_sort", "_law_sign", "_law_size_here", "_law_numbers", "_law_k"]) (sc := defScope s_l_step) (by decide +kernel)) (by simp [slots, slotss]) (fun _ _ _ _ _ => (dg_nm 6 sc_l_step.nd)) (fun _ _ _ _ _ => dts_nil) (fun _ _ _ _ _ => (dcall h_l_pick gd hr (da_cons (dv 0) (da_cons (de_lst (da_cons (de_op or_sub (dv 1) de_int) (da_cons (dcall h_l_draw gd hr (da_cons (dv 0) (da_cons (dv 1) da_nil))) da_nil))) da_nil))))) da_nil)))
    (dss_one (ds_ret (de_tup (da_cons (dv 2) (da_cons (dcall h_l_pick gd hr (da_cons (dv 0) (da_cons (de_lst (da_cons de_str (da_cons de_str (da_cons de_str (da_cons de_str (da_cons de_str da_nil)))))) da_nil))) (da_cons (dv 5) da_nil)))))))))))
theorem ok_l_step {P : Program} {w : World} {K : PySem.W.Frag} {mg : Str → Option Value} {base : Heap} {f : Addr} {fd : FuncData} {R : RD} {f_l_pick f_l_draw : Addr} {fd_l_pick fd_l_draw : FuncData} {R_l_pick : RD} {R_l_draw : RD} (h_l_pick : FnH P w K mg base 2 "_law_pick" f_l_pick fd_l_pick ["_law_hand_here", "_law_some"] R_l_pick) (h_l_draw : FnH P w K mg base 1 "_law_draw" f_l_draw fd_l_draw ["_law_hand_here", "_law_many"] R_l_draw) (m_tuple : mg "tuple" = none) (m_range : mg "range" = none) (Fu : Fun K "_law_step" "_law_step" s_l_step f fd) (bi : Binds K fd ["_law_hand_here", "_law_many"] []) (gm : mg "_law_step" = some (.ref f)) (hn : ∀ xs M F, R xs M F → xs.length = 2)
    (hR : ∀ ds M F, R ds M F → T_l_step R_l_pick R_l_draw { nx := fun _ M' => F .non M', rt := F } (startD 7 ds) M) : FnH P w K mg base 3 "_law_step" f fd ["_law_hand_here", "_law_many"] R :=
  ⟨fnd Fu sc_l_step fun cdv A outer s H E gd hr => ⟨_, dr_l_step h_l_pick h_l_draw m_tuple m_range gd hr, fun ds M F _ h => hR ds M F h⟩, hn, gm, Fu.kp, bi⟩
abbrev s_tokens_of : Stmt := topS 11
theorem sc_tokens_of : FnScope ["rows", "pieces", "most", "length", "found", "waiting", "part"] ["rows", "pieces", "most"] (defScope s_tokens_of) := ⟨rfl, rfl, rfl, by decide +kernel, rfl, by decide +kernel, by decide +kernel⟩
theorem dr_tokens_of [Grd] {P : Program} {w : World} {K : PySem.W.Frag} {mg : Str → Option Value} {base : Heap} {f : Addr} {cdv : Value} {A : Around} {outer : List PySem.Env} {s : Shared} {H : Hp} {E : XK} {f_parts_of f_length_of : Addr} {fd_parts_of fd_length_of : FuncData} {R_parts_of : RD} {R_length_of : RD} (h_parts_of : FnH P w K mg base 2 "parts_of" f_parts_of fd_parts_of ["step"] R_parts_of) (h_length_of : FnH P w K mg base 3 "length_of" f_length_of fd_length_of ["rows", "pieces"] R_length_of) (m_tuple : mg "tuple" = none) (m_isinstance : mg "isinstance" = none) (m_str : mg "str" = none) (m_list : mg "list" = none) {C_TooLong : Addr} (e_TooLong : ErrH P K mg "TooLong" "length" C_TooLong) {W : WXd} (tk : TkD (cxOf (L2.CX P w) P w K mg base ["rows", "pieces", "most", "length", "found", "waiting", "part"] "tokens_of" (defScope s_tokens_of) f cdv A outer s H E) W)
    (gd : (A.deeper (envOfC "tokens_of" (defScope s_tokens_of) s.heap.objs.size f cdv)).guards = some []) (hr : Room 3 (A.deeper (envOfC "tokens_of" (defScope s_tokens_of) s.heap.objs.size f cdv))) :
    DSs (cxOf (L2.CX P w) P w K mg base ["rows", "pieces", "most", "length", "found", "waiting", "part"] "tokens_of" (defScope s_tokens_of) f cdv A outer s H E) (defBody s_tokens_of) (T_tokens_of R_parts_of R_length_of W) :=
  (dss_cons (ds_set 3 sc_tokens_of.nd (dcall h_length_of gd hr (da_cons (dv 0) (da_cons (dv 1) da_nil))))
    (dss_cons (ds_if (dt_cmp or_gt (dv 3) (dv 2) (by rfl)) (dss_one (ds_raise e_TooLong tk rfl hr (da_cons (dv 3) da_nil))) dss_nil)
    (dss_cons (ds_par 4 5 rfl sc_tokens_of.nd (by decide) (da_cons (de_lstM da_nil) (da_cons (de_bltTy cb_listM (by rfl) m_list (by decide +kernel) (da_cons (de_revA (dv 1)) da_nil)) da_nil)))
    (dss_cons (ds_while (passes_of rfl) (dt_cmp (or_ne hr.units) (dv 5) (de_lst da_nil) (by rfl)) (dss_cons (ds_set 6 sc_tokens_of.nd (de_bm0L PySem.F.slot_list_pop PySem.F.type_list_pop dm_pop (dv 5)))
    (dss_one (ds_if (dt_val (de_isi .str (dv 6) (by rfl) m_isinstance (by rfl) m_str (by decide +kernel))) (dss_one (ds_expr (de_bmL PySem.F.slot_list_append PySem.F.type_list_append dm_append (dv 4) (da_cons (dv 6) da_nil)))) (dss_one (ds_expr (de_bmL PySem.F.slot_list_extend PySem.F.type_list_extend dm_extend (dv 5) (da_cons (de_revA (dcall h_parts_of gd hr (da_cons (de_ix (or_ix (hu_of hr)) (dv 0) (dv 6) (fun _ _ => rfl)) da_nil))) da_nil))))))))
    (dss_one (ds_ret (de_drp (de_drp (de_bltTy cb_tuple (by rfl) m_tuple (by decide +kernel) (da_cons (dv 4) da_nil))))))))))
theorem ok_tokens_of {P : Program} {w : World} {K : PySem.W.Frag} {mg : Str → Option Value} {base : Heap} {f : Addr} {fd : FuncData} {R : RX} {f_parts_of f_length_of : Addr} {fd_parts_of fd_length_of : FuncData} {R_parts_of : RD} {R_length_of : RD} (h_parts_of : FnH P w K mg base 2 "parts_of" f_parts_of fd_parts_of ["step"] R_parts_of) (h_length_of : FnH P w K mg base 3 "length_of" f_length_of fd_length_of ["rows", "pieces"] R_length_of) (m_tuple : mg "tuple" = none) (m_isinstance : mg "isinstance" = none) (m_str : mg "str" = none) (m_list : mg "list" = none) {C_TooLong : Addr} (e_TooLong : ErrH P K mg "TooLong" "length" C_TooLong) (Fu : Fun K "tokens_of" "tokens_of" s_tokens_of f fd) (gm : mg "tokens_of" = some (.ref f)) (hn : ∀ xs M F W, R xs M F W → xs.length = 3)
    (hR : ∀ ds M F W, R ds M F W → T_tokens_of R_parts_of R_length_of (fun n ns es _ M' => W n ns es M') { nx := fun _ M' => F .non M', rt := F } (startD 7 ds) M) : FnX0 P w K mg base 4 "tokens_of" f fd ["rows", "pieces", "most"] R :=
  ⟨fndX Fu sc_tokens_of fun g cdv A outer s H E Wd gd hr tk => ⟨_, dr_tokens_of h_parts_of h_length_of m_tuple m_isinstance m_str m_list e_TooLong tk gd hr, fun ds M F W' e _ h => by subst e; exact hR ds M F W' h⟩, hn, gm, Fu.kp⟩
abbrev s_l_rows : Stmt := topS 20
theorem sc_l_rows : FnScope ["_law_hand_here", "_law_found", "_law_sizes", "_law_k", "_law_step_here"] ["_law_hand_here"] (defScope s_l_rows) := ⟨rfl, rfl, rfl, by decide +kernel, rfl, by decide +kernel, by decide +kernel⟩
theorem dr_l_rows [Grd] {P : Program} {w : World} {K : PySem.W.Frag} {mg : Str → Option Value} {base : Heap} {f : Addr} {cdv : Value} {A : Around} {outer : List PySem.Env} {s : Shared} {H : Hp} {E : XK} {f_l_draw f_l_size f_l_step : Addr} {fd_l_draw fd_l_size fd_l_step : FuncData} {R_l_draw : RD} {R_l_size : RD} {R_l_step : RD} (h_l_draw : FnH P w K mg base 1 "_law_draw" f_l_draw fd_l_draw ["_law_hand_here", "_law_many"] R_l_draw) (h_l_size : FnH P w K mg base 1 "_law_size" f_l_size fd_l_size ["_law_step_here", "_law_sizes"] R_l_size) (h_l_step : FnH P w K mg base 3 "_law_step" f_l_step fd_l_step ["_law_hand_here", "_law_many"] R_l_step) (m_tuple : mg "tuple" = none) (m_range : mg "range" = none) (m_len : mg "len" = none)
    (gd : (A.deeper (envOfC "_law_rows" (defScope s_l_rows) s.heap.objs.size f cdv)).guards = some []) (hr : Room 3 (A.deeper (envOfC "_law_rows" (defScope s_l_rows) s.heap.objs.size f cdv))) :
    DSs (cxOf CX0 P w K mg base ["_law_hand_here", "_law_found", "_law_sizes", "_law_k", "_law_step_here"] "_law_rows" (defScope s_l_rows) f cdv A outer s H E).nox (defBody s_l_rows) (T_l_rows R_l_draw R_l_size R_l_step) :=
  (dss_cons (ds_par 1 2 rfl sc_l_rows.nd (by decide) (da_cons (de_lstM da_nil) (da_cons (de_lstM da_nil) da_nil)))
    (dss_cons (ds_for (t := (.nm 3)) PassesOwn.never rfl (di_rng1 (by rfl) m_range (da_cons (de_op or_add2 de_int (dcall h_l_draw gd hr (da_cons (dv 0) (da_cons de_int da_nil)))) da_nil)) (dg_nm 3 sc_l_rows.nd) (dss_cons (ds_set 4 sc_l_rows.nd (dcall h_l_step gd hr (da_cons (dv 0) (da_cons (de_blt cb_len (by rfl) m_len (by decide +kernel) (da_cons (dv 1) da_nil)) da_nil))))
    (dss_one (ds_if (dt_cmp or_le2 (dcall h_l_size gd hr (da_cons (dv 4) (da_cons (dv 2) da_nil))) de_int (by rfl)) (dss_cons (ds_expr (de_bmL PySem.F.slot_list_append PySem.F.type_list_append dm_append (dv 1) (da_cons (dv 4) da_nil)))
    (dss_one (ds_expr (de_bmL PySem.F.slot_list_append PySem.F.type_list_append dm_append (dv 2) (da_cons (dcall h_l_size gd hr (da_cons (dv 4) (da_cons (dv 2) da_nil))) da_nil))))) dss_nil))))
    (dss_one (ds_ret (de_drp (de_drp (de_bltTy cb_tuple (by rfl) m_tuple (by decide +kernel) (da_cons (dv 1) da_nil))))))))
theorem ok_l_rows {P : Program} {w : World} {K : PySem.W.Frag} {mg : Str → Option Value} {base : Heap} {f : Addr} {fd : FuncData} {R : RD} {f_l_draw f_l_size f_l_step : Addr} {fd_l_draw fd_l_size fd_l_step : FuncData} {R_l_draw : RD} {R_l_size : RD} {R_l_step : RD} (h_l_draw : FnH P w K mg base 1 "_law_draw" f_l_draw fd_l_draw ["_law_hand_here", "_law_many"] R_l_draw) (h_l_size : FnH P w K mg base 1 "_law_size" f_l_size fd_l_size ["_law_step_here", "_law_sizes"] R_l_size) (h_l_step : FnH P w K mg base 3 "_law_step" f_l_step fd_l_step ["_law_hand_here", "_law_many"] R_l_step) (m_tuple : mg "tuple" = none) (m_range : mg "range" = none) (m_len : mg "len" = none) (Fu : Fun K "_law_rows" "_law_rows" s_l_rows f fd) (bi : Binds K fd ["_law_hand_here"] []) (gm : mg "_law_rows" = some (.ref f)) (hn : ∀ xs M F, R xs M F → xs.length = 1)
    (hR : ∀ ds M F, R ds M F → T_l_rows R_l_draw R_l_size R_l_step { nx := fun _ M' => F .non M', rt := F } (startD 5 ds) M) : FnH P w K mg base 4 "_law_rows" f fd ["_law_hand_here"] R :=
  ⟨fnd Fu sc_l_rows fun cdv A outer s H E gd hr => ⟨_, dr_l_rows h_l_draw h_l_size h_l_step m_tuple m_range m_len gd hr, fun ds M F _ h => hR ds M F h⟩, hn, gm, Fu.kp, bi⟩
abbrev s_l_heard : Stmt := topS 21
theorem sc_l_heard : FnScope ["_law_it", "_law_lot", "_law_top", "_law_found", "e"] ["_law_it", "_law_lot", "_law_top"] (defScope s_l_heard) := ⟨rfl, rfl, rfl, by decide +kernel, rfl, by decide +kernel, by decide +kernel⟩
theorem dr_l_heard [Grd] {P : Program} {w : World} {K : PySem.W.Frag} {mg : Str → Option Value} {base : Heap} {f : Addr} {cdv : Value} {A : Around} {outer : List PySem.Env} {s : Shared} {H : Hp} {E : XK} {f_tokens_of : Addr} {fd_tokens_of : FuncData} {R_tokens_of : RX} (h_tokens_of : FnX0 P w K mg base 4 "tokens_of" f_tokens_of fd_tokens_of ["rows", "pieces", "most"] R_tokens_of) (kb_tokens_of_mix2_most : KBinds K fd_tokens_of ["rows", "pieces", "most"] ["most"] (kmix 2 1 [0, 1, 2]) (kmix 2 1 [0, 1, 2])) {kd_tokens_of : List Value} (kb_tokens_of_def : KBinds K fd_tokens_of ["rows", "pieces", "most"] [] (kdef kd_tokens_of) (kdef [V.int 2000])) (m_isinstance : mg "isinstance" = none) {C_TooLong : Addr} {C_GapError : Addr} (e_TooLong : ErrH P K mg "TooLong" "length" C_TooLong) (x_TooLong : ExmH K ["GapError", "TooLong"] "TooLong" (.ref C_TooLong)) (i_GapError : IsxH K ["GapError", "TooLong"] "GapError" C_GapError) (y_GapError : mg "GapError" = some (.ref C_GapError))
    (gd : (A.deeper (envOfC "_law_heard" (defScope s_l_heard) s.heap.objs.size f cdv)).guards = some []) (hr : Room 4 (A.deeper (envOfC "_law_heard" (defScope s_l_heard) s.heap.objs.size f cdv))) :
    DSs (cxOf CX0 P w K mg base ["_law_it", "_law_lot", "_law_top", "_law_found", "e"] "_law_heard" (defScope s_l_heard) f cdv A outer s H E).nox (defBody s_l_heard) (T_l_heard R_tokens_of) :=
  (dss_cons (ds_set 3 sc_l_heard.nd de_non)
    (dss_cons (ds_try (i := 4) x_TooLong ⟨rfl, by decide, .inl e_TooLong.gm⟩ rfl rfl sc_l_heard.nd tk0 (fun g W1 pn xe tk1 po1 => (dss_one (ds_set 3 sc_l_heard.nd (de_if (dt_notN (dv 2)) (dcallKX' h_tokens_of kb_tokens_of_mix2_most gd_mix tk1 gd hr (da_cons (dv 0) (da_cons (dv 1) da_nil)) (dq_cons (dv 2) dq_nil)) (dcallKX' h_tokens_of kb_tokens_of_def (gd_def fun _ => (.cons (.int 2000) .nil)) tk1 gd hr (da_cons (dv 0) (da_cons (dv 1) da_nil)) dq_nil))))) (fun a oe n C d pn hn cl hz hf => (dss_one (ds_set 3 sc_l_heard.nd (de_if (dt_val (de_isX i_GapError y_GapError cl hz hf (dv 4) m_isinstance)) (de_lst (da_cons (de_xf e_TooLong cl hz hf (dv 4)) da_nil)) (de_lst (da_cons de_str da_nil)))))))
    (dss_one (ds_ret (dv 3)))))
theorem ok_l_heard {P : Program} {w : World} {K : PySem.W.Frag} {mg : Str → Option Value} {base : Heap} {f : Addr} {fd : FuncData} {R : RD} {f_tokens_of : Addr} {fd_tokens_of : FuncData} {R_tokens_of : RX} (h_tokens_of : FnX0 P w K mg base 4 "tokens_of" f_tokens_of fd_tokens_of ["rows", "pieces", "most"] R_tokens_of) (kb_tokens_of_mix2_most : KBinds K fd_tokens_of ["rows", "pieces", "most"] ["most"] (kmix 2 1 [0, 1, 2]) (kmix 2 1 [0, 1, 2])) {kd_tokens_of : List Value} (kb_tokens_of_def : KBinds K fd_tokens_of ["rows", "pieces", "most"] [] (kdef kd_tokens_of) (kdef [V.int 2000])) (m_isinstance : mg "isinstance" = none) {C_TooLong : Addr} {C_GapError : Addr} (e_TooLong : ErrH P K mg "TooLong" "length" C_TooLong) (x_TooLong : ExmH K ["GapError", "TooLong"] "TooLong" (.ref C_TooLong)) (i_GapError : IsxH K ["GapError", "TooLong"] "GapError" C_GapError) (y_GapError : mg "GapError" = some (.ref C_GapError)) (Fu : Fun K "_law_heard" "_law_heard" s_l_heard f fd) (bi : Binds K fd ["_law_it", "_law_lot", "_law_top"] []) (gm : mg "_law_heard" = some (.ref f)) (hn : ∀ xs M F, R xs M F → xs.length = 3)
    (hR : ∀ ds M F, R ds M F → T_l_heard R_tokens_of { nx := fun _ M' => F .non M', rt := F } (startD 5 ds) M) : FnH P w K mg base 5 "_law_heard" f fd ["_law_it", "_law_lot", "_law_top"] R :=
  ⟨fnd Fu sc_l_heard fun cdv A outer s H E gd hr => ⟨_, dr_l_heard h_tokens_of kb_tokens_of_mix2_most kb_tokens_of_def m_isinstance e_TooLong x_TooLong i_GapError y_GapError gd hr, fun ds M F _ h => hR ds M F h⟩, hn, gm, Fu.kp, bi⟩
abbrev s_l_right : Stmt := topS 22
theorem sc_l_right : FnScope ["_law_hand_here", "_law_it", "_law_lot", "_law_lists", "_law_due", "_law_before", "_law_one", "_law_size_here", "_law_top", "_law_wished"] ["_law_hand_here", "_law_it", "_law_lot"] (defScope s_l_right) := ⟨rfl, rfl, rfl, by decide +kernel, rfl, by decide +kernel, by decide +kernel⟩
theorem dr_l_right [Grd] {P : Program} {w : World} {K : PySem.W.Frag} {mg : Str → Option Value} {base : Heap} {f : Addr} {cdv : Value} {A : Around} {outer : List PySem.Env} {s : Shared} {H : Hp} {E : XK} {f_tokens_of f_l_draw f_l_heard f_length_of f_l_written : Addr} {fd_tokens_of fd_l_draw fd_l_heard fd_length_of fd_l_written : FuncData} {R_tokens_of : RX} {R_l_draw : RD} {R_l_heard : RD} {R_length_of : RD} {R_l_written : RD} (h_tokens_of : FnX0 P w K mg base 4 "tokens_of" f_tokens_of fd_tokens_of ["rows", "pieces", "most"] R_tokens_of) (h_l_draw : FnH P w K mg base 1 "_law_draw" f_l_draw fd_l_draw ["_law_hand_here", "_law_many"] R_l_draw) (h_l_heard : FnH P w K mg base 5 "_law_heard" f_l_heard fd_l_heard ["_law_it", "_law_lot", "_law_top"] R_l_heard) (h_length_of : FnH P w K mg base 3 "length_of" f_length_of fd_length_of ["rows", "pieces"] R_length_of) (h_l_written : FnH P w K mg base 2 "_law_written" f_l_written fd_l_written ["_law_it"] R_l_written) (kb_tokens_of_mix0_most_pieces_rows : KBinds K fd_tokens_of ["rows", "pieces", "most"] ["most", "pieces", "rows"] (kmix 0 3 [2, 1, 0]) (kmix 0 3 [2, 1, 0])) (kb_length_of_swap : KBinds K fd_length_of ["rows", "pieces"] ["pieces", "rows"] kswap kswap) (m_repr : mg "repr" = none) (m_tuple : mg "tuple" = none) (m_max : mg "max" = none) (m_len : mg "len" = none) (m_isinstance : mg "isinstance" = none) (m_str : mg "str" = none)
    (gd : (A.deeper (envOfC "_law_right" (defScope s_l_right) s.heap.objs.size f cdv)).guards = some []) (hr : Room 5 (A.deeper (envOfC "_law_right" (defScope s_l_right) s.heap.objs.size f cdv))) :
    DSs (cxOf CX0 P w K mg base ["_law_hand_here", "_law_it", "_law_lot", "_law_lists", "_law_due", "_law_before", "_law_one", "_law_size_here", "_law_top", "_law_wished"] "_law_right" (defScope s_l_right) f cdv A outer s H E).nox (defBody s_l_right) (T_l_right R_tokens_of R_l_draw R_l_heard R_length_of R_l_written) :=
  (dss_cons (ds_par3 3 4 5 rfl sc_l_right.nd (by decide) (by decide) (by decide) (da_cons (dcall h_l_written gd hr (da_cons (dv 1) da_nil)) (da_cons (de_lst da_nil) (da_cons (de_blt (cb_repr gd (u200 hr)) (by rfl) m_repr (by decide +kernel) (da_cons (de_lst (da_cons (dv 1) (da_cons (dv 2) da_nil))) da_nil)) da_nil))))
    (dss_cons (ds_for (t := (.nm 6)) PassesOwn.never rfl (di_seq (dv 2)) (dg_nm 6 sc_l_right.nd) (dss_one (ds_set 4 sc_l_right.nd (de_op or_add2 (dv 4) (de_if (dt_val (de_isi .str (dv 6) (by rfl) m_isinstance (by rfl) m_str (by decide +kernel))) (de_lst (da_cons (dv 6) da_nil)) (de_ix (or_ix (hu_of hr)) (dv 3) (dv 6) (fun _ _ => rfl)))))))
    (dss_cons (ds_set 7 sc_l_right.nd (de_blt cb_len (by rfl) m_len (by decide +kernel) (da_cons (dv 4) da_nil)))
    (dss_cons (ds_if (dt_cmp (or_ne hr.units) (de_blt (cb_repr gd (u200 hr)) (by rfl) m_repr (by decide +kernel) (da_cons (de_lst (da_cons (dcall h_length_of gd hr (da_cons (dv 1) (da_cons (dv 2) da_nil))) (da_cons (dcallK0' h_length_of.to0 kb_length_of_swap gd_swap gd hr (dq_cons (dv 2) (dq_cons (dv 1) dq_nil))) da_nil))) da_nil)) (de_blt (cb_repr gd (u200 hr)) (by rfl) m_repr (by decide +kernel) (da_cons (de_lst (da_cons (dv 7) (da_cons (dv 7) da_nil))) da_nil)) (by rfl)) (dss_one (ds_ret de_bl)) dss_nil)
    (dss_cons (ds_for (t := (.nm 8)) PassesOwn.never rfl (di_seq (de_lst (da_cons (dv 7) (da_cons (de_op or_add2 (dv 7) (dcall h_l_draw gd hr (da_cons (dv 0) (da_cons de_int da_nil)))) (da_cons (de_blt (cb_max2 rfl) (by rfl) m_max (by decide +kernel) (da_cons de_int (da_cons (de_op or_sub (dv 7) de_int) da_nil))) (da_cons de_int (da_cons (dcall h_l_draw gd hr (da_cons (dv 0) (da_cons de_int da_nil))) (da_cons de_non da_nil)))))))) (dg_nm 8 sc_l_right.nd) (dss_cons (ds_set 9 sc_l_right.nd (de_if (dt_cmp or_le2 (dv 7) (de_if (dt_isN (dv 8)) de_int (dv 8)) (by rfl)) (de_blt (cb_repr gd (u200 hr)) (by rfl) m_repr (by decide +kernel) (da_cons (de_bltTy cb_tuple (by rfl) m_tuple (by decide +kernel) (da_cons (dv 4) da_nil)) da_nil)) (de_blt (cb_repr gd (u200 hr)) (by rfl) m_repr (by decide +kernel) (da_cons (de_lst (da_cons (dv 7) da_nil)) da_nil))))
    (dss_one (ds_if (dt_cmp (or_ne hr.units) (de_blt (cb_repr gd (u200 hr)) (by rfl) m_repr (by decide +kernel) (da_cons (dcall h_l_heard gd hr (da_cons (dv 1) (da_cons (dv 2) (da_cons (dv 8) da_nil)))) da_nil)) (dv 9) (by rfl)) (dss_one (ds_ret de_bl)) dss_nil))))
    (dss_cons (ds_if (dt_cmp (or_ne hr.units) (de_blt (cb_repr gd (u200 hr)) (by rfl) m_repr (by decide +kernel) (da_cons (dcallKX0' h_tokens_of kb_tokens_of_mix0_most_pieces_rows gd_mix tk0 gd hr (dq_cons (dv 7) (dq_cons (dv 2) (dq_cons (dv 1) dq_nil)))) da_nil)) (de_blt (cb_repr gd (u200 hr)) (by rfl) m_repr (by decide +kernel) (da_cons (de_bltTy cb_tuple (by rfl) m_tuple (by decide +kernel) (da_cons (dv 4) da_nil)) da_nil)) (by rfl)) (dss_one (ds_ret de_bl)) dss_nil)
    (dss_one (ds_ret (de_cmp (or_eq hr.units) (de_blt (cb_repr gd (u200 hr)) (by rfl) m_repr (by decide +kernel) (da_cons (de_lst (da_cons (dv 1) (da_cons (dv 2) da_nil))) da_nil)) (dv 5) (by rfl))))))))))
theorem ok_l_right {P : Program} {w : World} {K : PySem.W.Frag} {mg : Str → Option Value} {base : Heap} {f : Addr} {fd : FuncData} {R : RD} {f_tokens_of f_l_draw f_l_heard f_length_of f_l_written : Addr} {fd_tokens_of fd_l_draw fd_l_heard fd_length_of fd_l_written : FuncData} {R_tokens_of : RX} {R_l_draw : RD} {R_l_heard : RD} {R_length_of : RD} {R_l_written : RD} (h_tokens_of : FnX0 P w K mg base 4 "tokens_of" f_tokens_of fd_tokens_of ["rows", "pieces", "most"] R_tokens_of) (h_l_draw : FnH P w K mg base 1 "_law_draw" f_l_draw fd_l_draw ["_law_hand_here", "_law_many"] R_l_draw) (h_l_heard : FnH P w K mg base 5 "_law_heard" f_l_heard fd_l_heard ["_law_it", "_law_lot", "_law_top"] R_l_heard) (h_length_of : FnH P w K mg base 3 "length_of" f_length_of fd_length_of ["rows", "pieces"] R_length_of) (h_l_written : FnH P w K mg base 2 "_law_written" f_l_written fd_l_written ["_law_it"] R_l_written) (kb_tokens_of_mix0_most_pieces_rows : KBinds K fd_tokens_of ["rows", "pieces", "most"] ["most", "pieces", "rows"] (kmix 0 3 [2, 1, 0]) (kmix 0 3 [2, 1, 0])) (kb_length_of_swap : KBinds K fd_length_of ["rows", "pieces"] ["pieces", "rows"] kswap kswap) (m_repr : mg "repr" = none) (m_tuple : mg "tuple" = none) (m_max : mg "max" = none) (m_len : mg "len" = none) (m_isinstance : mg "isinstance" = none) (m_str : mg "str" = none) (Fu : Fun K "_law_right" "_law_right" s_l_right f fd) (bi : Binds K fd ["_law_hand_here", "_law_it", "_law_lot"] []) (gm : mg "_law_right" = some (.ref f)) (hn : ∀ xs M F, R xs M F → xs.length = 3)
    (hR : ∀ ds M F, R ds M F → T_l_right R_tokens_of R_l_draw R_l_heard R_length_of R_l_written { nx := fun _ M' => F .non M', rt := F } (startD 10 ds) M) : FnH P w K mg base 6 "_law_right" f fd ["_law_hand_here", "_law_it", "_law_lot"] R :=
  ⟨fnd Fu sc_l_right fun cdv A outer s H E gd hr => ⟨_, dr_l_right h_tokens_of h_l_draw h_l_heard h_length_of h_l_written kb_tokens_of_mix0_most_pieces_rows kb_length_of_swap m_repr m_tuple m_max m_len m_isinstance m_str gd hr, fun ds M F _ h => hR ds M F h⟩, hn, gm, Fu.kp, bi⟩
abbrev s_law : Stmt := topS 23
theorem sc_law : FnScope ["_law_script", "_law_hand_here", "_law_turn", "_law_it", "_law_lot", "_law_some", "_law_k"] ["_law_script"] (defScope s_law) := ⟨rfl, rfl, rfl, by decide +kernel, rfl, by decide +kernel, by decide +kernel⟩
theorem dr_law [Grd] {P : Program} {w : World} {K : PySem.W.Frag} {mg : Str → Option Value} {base : Heap} {f : Addr} {cdv : Value} {A : Around} {outer : List PySem.Env} {s : Shared} {H : Hp} {E : XK} {f_l_right f_l_pick f_l_draw f_l_rows f_l_hand : Addr} {fd_l_right fd_l_pick fd_l_draw fd_l_rows fd_l_hand : FuncData} {R_l_right : RD} {R_l_pick : RD} {R_l_draw : RD} {R_l_rows : RD} {R_l_hand : RD} (h_l_right : FnH P w K mg base 6 "_law_right" f_l_right fd_l_right ["_law_hand_here", "_law_it", "_law_lot"] R_l_right) (h_l_pick : FnH P w K mg base 2 "_law_pick" f_l_pick fd_l_pick ["_law_hand_here", "_law_some"] R_l_pick) (h_l_draw : FnH P w K mg base 1 "_law_draw" f_l_draw fd_l_draw ["_law_hand_here", "_law_many"] R_l_draw) (h_l_rows : FnH P w K mg base 4 "_law_rows" f_l_rows fd_l_rows ["_law_hand_here"] R_l_rows) (h_l_hand : FnH P w K mg base 1 "_law_hand" f_l_hand fd_l_hand ["_law_script"] R_l_hand) (m_range : mg "range" = none) (m_len : mg "len" = none) (m_tuple : mg "tuple" = none)
    (gd : (A.deeper (envOfC "law" (defScope s_law) s.heap.objs.size f cdv)).guards = some []) (hr : Room 6 (A.deeper (envOfC "law" (defScope s_law) s.heap.objs.size f cdv))) :
    DSs (cxOf CX0 P w K mg base ["_law_script", "_law_hand_here", "_law_turn", "_law_it", "_law_lot", "_law_some", "_law_k"] "law" (defScope s_law) f cdv A outer s H E).nox (defBody s_law) (T_law R_l_right R_l_pick R_l_draw R_l_rows R_l_hand) :=
  (dss_cons (ds_set 1 sc_law.nd (dcall h_l_hand gd hr (da_cons (dv 0) da_nil)))
    (dss_cons (ds_for (t := (.nm 2)) PassesOwn.never rfl (di_rng1 (by rfl) m_range (da_cons de_int da_nil)) (dg_nm 2 sc_law.nd) (dss_cons (ds_set 3 sc_law.nd (dcall h_l_rows gd hr (da_cons (dv 1) da_nil)))
    (dss_cons (ds_par 4 5 rfl sc_law.nd (by decide) (da_cons (de_lstM da_nil) (da_cons (de_lst (da_cons de_str (da_cons de_str (da_cons de_str (da_cons de_str (da_cons de_str (da_cons de_str da_nil))))))) da_nil)))
    (dss_cons (ds_for (t := (.nm 6)) PassesOwn.never rfl (di_rng1 (by rfl) m_range (da_cons (dcall h_l_pick gd hr (da_cons (dv 1) (da_cons (de_lst (da_cons de_int (da_cons de_int (da_cons de_int (da_cons de_int (da_cons de_int da_nil)))))) da_nil))) da_nil)) (dg_nm 6 sc_law.nd) (dss_one (ds_expr (de_bmL PySem.F.slot_list_append PySem.F.type_list_append dm_append (dv 4) (da_cons (dcall h_l_pick gd hr (da_cons (dv 1) (da_cons (de_lst (da_cons (dcall h_l_draw gd hr (da_cons (dv 1) (da_cons (de_blt cb_len (by rfl) m_len (by decide +kernel) (da_cons (dv 3) da_nil)) da_nil))) (da_cons (dcall h_l_pick gd hr (da_cons (dv 1) (da_cons (dv 5) da_nil))) da_nil))) da_nil))) da_nil)))))
    (dss_one (ds_if (dt_w (dw_or (dt_not (dt_val (dcall h_l_right gd hr (da_cons (dv 1) (da_cons (dv 3) (da_cons (de_bltTy cb_tuple (by rfl) m_tuple (by decide +kernel) (da_cons (dv 4) da_nil)) da_nil)))))) (dw_or1 (dt_not (dt_val (dcall h_l_right gd hr (da_cons (dv 1) (da_cons (dv 3) (da_cons (de_tup (da_cons (de_op or_sub (de_blt cb_len (by rfl) m_len (by decide +kernel) (da_cons (dv 3) da_nil)) de_int) da_nil)) da_nil))))))))) (dss_one (ds_ret de_bl)) dss_nil))))))
    (dss_one (ds_ret de_bl))))
theorem ok_law {P : Program} {w : World} {K : PySem.W.Frag} {mg : Str → Option Value} {base : Heap} {f : Addr} {fd : FuncData} {R : RD} {f_l_right f_l_pick f_l_draw f_l_rows f_l_hand : Addr} {fd_l_right fd_l_pick fd_l_draw fd_l_rows fd_l_hand : FuncData} {R_l_right : RD} {R_l_pick : RD} {R_l_draw : RD} {R_l_rows : RD} {R_l_hand : RD} (h_l_right : FnH P w K mg base 6 "_law_right" f_l_right fd_l_right ["_law_hand_here", "_law_it", "_law_lot"] R_l_right) (h_l_pick : FnH P w K mg base 2 "_law_pick" f_l_pick fd_l_pick ["_law_hand_here", "_law_some"] R_l_pick) (h_l_draw : FnH P w K mg base 1 "_law_draw" f_l_draw fd_l_draw ["_law_hand_here", "_law_many"] R_l_draw) (h_l_rows : FnH P w K mg base 4 "_law_rows" f_l_rows fd_l_rows ["_law_hand_here"] R_l_rows) (h_l_hand : FnH P w K mg base 1 "_law_hand" f_l_hand fd_l_hand ["_law_script"] R_l_hand) (m_range : mg "range" = none) (m_len : mg "len" = none) (m_tuple : mg "tuple" = none) (Fu : Fun K "law" "law" s_law f fd) (bi : Binds K fd ["_law_script"] []) (gm : mg "law" = some (.ref f)) (hn : ∀ xs M F, R xs M F → xs.length = 1)
    (hR : ∀ ds M F, R ds M F → T_law R_l_right R_l_pick R_l_draw R_l_rows R_l_hand { nx := fun _ M' => F .non M', rt := F } (startD 7 ds) M) : FnH P w K mg base 7 "law" f fd ["_law_script"] R :=
  ⟨fnd Fu sc_law fun cdv A outer s H E gd hr => ⟨_, dr_law h_l_right h_l_pick h_l_draw h_l_rows h_l_hand m_range m_len m_tuple gd hr, fun ds M F _ h => hR ds M F h⟩, hn, gm, Fu.kp, bi⟩
end K43

namespace K43
open PySem PySem.Spec PyProof.Rows L2 Fx
def msg_TooLong : Str := "there are more tokens than are wanted"
theorem ea_TooLong : defArgs (memb (topS 2) 0) = inA "length" (parOf (memb (topS 2) 0) 0) (parOf (memb (topS 2) 0) 1) := rfl
theorem eb_TooLong : defBody (memb (topS 2) 0) = inB msg_TooLong "length" (posOf (memb (topS 2) 0)) (knOf (memb (topS 2) 0)) := rfl
theorem sk_TooLong : (defScope (memb (topS 2) 0)).kind = .function ∧ (defScope (memb (topS 2) 0)).isGenerator = false ∧ (defScope (memb (topS 2) 0)).isCoroutine = false := ⟨rfl, rfl, rfl⟩
theorem snc_TooLong : ∀ x ∈ (defScope (memb (topS 2) 0)).names, x.2 ≠ .cell := by decide +kernel
theorem s1_TooLong : (defScope (memb (topS 2) 0)).names.lookup ("self" : Str) = some .local := rfl
theorem s2_TooLong : (defScope (memb (topS 2) 0)).names.lookup ("length" : Str) = some .local := rfl
theorem s3_TooLong : (defScope (memb (topS 2) 0)).names.lookup ("super" : Str) = some .globalImplicit := rfl
theorem s4_TooLong : (defScope (memb (topS 2) 0)).names.lookup ("__class__" : Str) = some .free := rfl
theorem hb_TooLong {cda cc : Addr} : ∀ (kV doc pm : Value) (an : Option Addr) (ct : Value) (u v : Value), bindArgs (PySem.W.ksFn "__init__" "TooLong.__init__" (inA "length" (parOf (memb (topS 2) 0) 0) (parOf (memb (topS 2) 0) 1)) (inB msg_TooLong "length" (posOf (memb (topS 2) 0)) (knOf (memb (topS 2) 0))) (defScope (memb (topS 2) 0)) .none kV doc pm an (.ref cda) ct cc) ⟨[u, v], []⟩ = (pure [(("self" : Str), u), (("length" : Str), v)] : Sem (List (Str × Value))) := fun _ _ _ _ _ _ _ => rfl
theorem he_TooLong : supE msg_TooLong (posOf (memb (topS 2) 0)) (knOf (memb (topS 2) 0)) := fun env => ⟨_, rfl⟩
theorem all_mk {l : PySem.W.OpenLaw} {w : World} {K : PySem.W.Frag} {h : Heap} {mg : Str → Option Value} {fa : Addr} (X : K.In h) (G : h.Ns mainGlobals mg) (hfa : mg "law" = some (.ref fa))
    {od0 an0 : Option Addr} {sl0 : Array (Option Value)} {oc0 kV0 dc0 pm0 cd0 ct0 : Value} {f0 : Addr}
    {od1 an1 : Option Addr} {sl1 : Array (Option Value)} {oc1 kV1 dc1 pm1 cd1 ct1 : Value} {f1 : Addr}
    {od2 an2 : Option Addr} {sl2 : Array (Option Value)} {oc2 kV2 dc2 pm2 cd2 ct2 : Value} {f2 : Addr}
    {od3 an3 : Option Addr} {sl3 : Array (Option Value)} {oc3 kV3 dc3 pm3 cd3 ct3 : Value} {f3 : Addr}
    {od4 an4 : Option Addr} {sl4 : Array (Option Value)} {oc4 kV4 dc4 pm4 cd4 ct4 : Value} {f4 : Addr}
    {od5 an5 : Option Addr} {sl5 : Array (Option Value)} {oc5 kV5 dc5 pm5 cd5 ct5 : Value} {f5 : Addr}
    {od6 an6 : Option Addr} {sl6 : Array (Option Value)} {oc6 kV6 dc6 pm6 cd6 ct6 : Value} {f6 : Addr}
    {od7 an7 : Option Addr} {sl7 : Array (Option Value)} {oc7 kV7 dc7 pm7 cd7 ct7 : Value} {f7 : Addr}
    {od8 an8 : Option Addr} {sl8 : Array (Option Value)} {oc8 kV8 dc8 pm8 cd8 ct8 : Value} {f8 : Addr}
    {od9 an9 : Option Addr} {sl9 : Array (Option Value)} {oc9 kV9 dc9 pm9 cd9 ct9 : Value} {f9 : Addr}
    {od10 an10 : Option Addr} {sl10 : Array (Option Value)} {oc10 kV10 dc10 pm10 cd10 ct10 : Value} {f10 : Addr}
    {od11 an11 : Option Addr} {sl11 : Array (Option Value)} {oc11 dc11 pm11 cd11 ct11 : Value} {f11 : Addr}
    {kD11 : Addr} {td11_0 : Tok}
    {od12 an12 : Option Addr} {sl12 : Array (Option Value)} {oc12 kV12 dc12 pm12 cd12 ct12 : Value} {f12 : Addr}
    {od13 an13 : Option Addr} {sl13 : Array (Option Value)} {oc13 kV13 dc13 pm13 cd13 ct13 : Value} {f13 : Addr}
    {od14 an14 : Option Addr} {sl14 : Array (Option Value)} {oc14 kV14 dc14 pm14 cd14 ct14 : Value} {f14 : Addr}
    {od15 an15 : Option Addr} {sl15 : Array (Option Value)} {oc15 kV15 dc15 pm15 cd15 ct15 : Value} {f15 : Addr}
    {t_CALL : Tok}
    {t_METHOD : Tok}
    {t_TOKEN : Tok}
    {C_GapError : Addr}
    {C_TooLong : Addr}
    {nm_TooLong q_TooLong file_TooLong : Str} {N_TooLong fI_TooLong cc_TooLong cda_TooLong : Addr} {bs_TooLong sub_TooLong : List Value} {sn_TooLong : List Str} {ab_TooLong : Bool} {col_TooLong : Option Bool} {dd_TooLong od_TooLong an_TooLong cld_TooLong cdd_TooLong : Option Addr} {k0_TooLong k1_TooLong k2_TooLong k3_TooLong k5_TooLong : Option Value} {oc_TooLong kV_TooLong doc_TooLong pm_TooLong ct_TooLong cl_TooLong ccl_TooLong : Value} {osl_TooLong csl_TooLong ccs_TooLong : Array (Option Value)} {vs_TooLong : Array Value} {tf_TooLong : Tok}
    (a0 : PySem.W.nsIn K mainGlobals "listed" = some (some (.ref f0))) (l0 : K.lookup f0 = some ⟨oc0, od0, .func (PySem.W.fnOf "listed" "listed" (defArgs s_listed) (defBody s_listed) (defScope s_listed) .none kV0 dc0 pm0 an0 cd0 ct0), sl0⟩) (c0 : PySem.W.codeIn K cd0 "listed" = true) (k0 : PySem.W.keepIn K (.ref f0) = true)
    (a1 : PySem.W.nsIn K mainGlobals "length_in" = some (some (.ref f1))) (l1 : K.lookup f1 = some ⟨oc1, od1, .func (PySem.W.fnOf "length_in" "length_in" (defArgs s_length_in) (defBody s_length_in) (defScope s_length_in) .none kV1 dc1 pm1 an1 cd1 ct1), sl1⟩) (c1 : PySem.W.codeIn K cd1 "length_in" = true) (k1 : PySem.W.keepIn K (.ref f1) = true)
    (a2 : PySem.W.nsIn K mainGlobals "_law_hand" = some (some (.ref f2))) (l2 : K.lookup f2 = some ⟨oc2, od2, .func (PySem.W.fnOf "_law_hand" "_law_hand" (defArgs s_l_hand) (defBody s_l_hand) (defScope s_l_hand) .none kV2 dc2 pm2 an2 cd2 ct2), sl2⟩) (c2 : PySem.W.codeIn K cd2 "_law_hand" = true) (k2 : PySem.W.keepIn K (.ref f2) = true)
    (a3 : PySem.W.nsIn K mainGlobals "_law_draw" = some (some (.ref f3))) (l3 : K.lookup f3 = some ⟨oc3, od3, .func (PySem.W.fnOf "_law_draw" "_law_draw" (defArgs s_l_draw) (defBody s_l_draw) (defScope s_l_draw) .none kV3 dc3 pm3 an3 cd3 ct3), sl3⟩) (c3 : PySem.W.codeIn K cd3 "_law_draw" = true) (k3 : PySem.W.keepIn K (.ref f3) = true)
    (a4 : PySem.W.nsIn K mainGlobals "_law_between" = some (some (.ref f4))) (l4 : K.lookup f4 = some ⟨oc4, od4, .func (PySem.W.fnOf "_law_between" "_law_between" (defArgs s_l_between) (defBody s_l_between) (defScope s_l_between) .none kV4 dc4 pm4 an4 cd4 ct4), sl4⟩) (c4 : PySem.W.codeIn K cd4 "_law_between" = true) (k4 : PySem.W.keepIn K (.ref f4) = true)
    (a5 : PySem.W.nsIn K mainGlobals "_law_size" = some (some (.ref f5))) (l5 : K.lookup f5 = some ⟨oc5, od5, .func (PySem.W.fnOf "_law_size" "_law_size" (defArgs s_l_size) (defBody s_l_size) (defScope s_l_size) .none kV5 dc5 pm5 an5 cd5 ct5), sl5⟩) (c5 : PySem.W.codeIn K cd5 "_law_size" = true) (k5 : PySem.W.keepIn K (.ref f5) = true)
    (a6 : PySem.W.nsIn K mainGlobals "parts_of" = some (some (.ref f6))) (l6 : K.lookup f6 = some ⟨oc6, od6, .func (PySem.W.fnOf "parts_of" "parts_of" (defArgs s_parts_of) (defBody s_parts_of) (defScope s_parts_of) .none kV6 dc6 pm6 an6 cd6 ct6), sl6⟩) (c6 : PySem.W.codeIn K cd6 "parts_of" = true) (k6 : PySem.W.keepIn K (.ref f6) = true)
    (a7 : PySem.W.nsIn K mainGlobals "_law_pick" = some (some (.ref f7))) (l7 : K.lookup f7 = some ⟨oc7, od7, .func (PySem.W.fnOf "_law_pick" "_law_pick" (defArgs s_l_pick) (defBody s_l_pick) (defScope s_l_pick) .none kV7 dc7 pm7 an7 cd7 ct7), sl7⟩) (c7 : PySem.W.codeIn K cd7 "_law_pick" = true) (k7 : PySem.W.keepIn K (.ref f7) = true)
    (a8 : PySem.W.nsIn K mainGlobals "_law_written" = some (some (.ref f8))) (l8 : K.lookup f8 = some ⟨oc8, od8, .func (PySem.W.fnOf "_law_written" "_law_written" (defArgs s_l_written) (defBody s_l_written) (defScope s_l_written) .none kV8 dc8 pm8 an8 cd8 ct8), sl8⟩) (c8 : PySem.W.codeIn K cd8 "_law_written" = true) (k8 : PySem.W.keepIn K (.ref f8) = true)
    (a9 : PySem.W.nsIn K mainGlobals "length_of" = some (some (.ref f9))) (l9 : K.lookup f9 = some ⟨oc9, od9, .func (PySem.W.fnOf "length_of" "length_of" (defArgs s_length_of) (defBody s_length_of) (defScope s_length_of) .none kV9 dc9 pm9 an9 cd9 ct9), sl9⟩) (c9 : PySem.W.codeIn K cd9 "length_of" = true) (k9 : PySem.W.keepIn K (.ref f9) = true)
    (a10 : PySem.W.nsIn K mainGlobals "_law_step" = some (some (.ref f10))) (l10 : K.lookup f10 = some ⟨oc10, od10, .func (PySem.W.fnOf "_law_step" "_law_step" (defArgs s_l_step) (defBody s_l_step) (defScope s_l_step) .none kV10 dc10 pm10 an10 cd10 ct10), sl10⟩) (c10 : PySem.W.codeIn K cd10 "_law_step" = true) (k10 : PySem.W.keepIn K (.ref f10) = true)
    (a11 : PySem.W.nsIn K mainGlobals "tokens_of" = some (some (.ref f11))) (l11 : K.lookup f11 = some ⟨oc11, od11, .func (PySem.W.fnOf "tokens_of" "tokens_of" (defArgs s_tokens_of) (defBody s_tokens_of) (defScope s_tokens_of) .none (.ref kD11) dc11 pm11 an11 cd11 ct11), sl11⟩) (c11 : PySem.W.codeIn K cd11 "tokens_of" = true) (k11 : PySem.W.keepIn K (.ref f11) = true)
    (d11_0 : PySem.W.nsIn K kD11 "most" = some (some (.int 2000 td11_0)))
    (a12 : PySem.W.nsIn K mainGlobals "_law_rows" = some (some (.ref f12))) (l12 : K.lookup f12 = some ⟨oc12, od12, .func (PySem.W.fnOf "_law_rows" "_law_rows" (defArgs s_l_rows) (defBody s_l_rows) (defScope s_l_rows) .none kV12 dc12 pm12 an12 cd12 ct12), sl12⟩) (c12 : PySem.W.codeIn K cd12 "_law_rows" = true) (k12 : PySem.W.keepIn K (.ref f12) = true)
    (a13 : PySem.W.nsIn K mainGlobals "_law_heard" = some (some (.ref f13))) (l13 : K.lookup f13 = some ⟨oc13, od13, .func (PySem.W.fnOf "_law_heard" "_law_heard" (defArgs s_l_heard) (defBody s_l_heard) (defScope s_l_heard) .none kV13 dc13 pm13 an13 cd13 ct13), sl13⟩) (c13 : PySem.W.codeIn K cd13 "_law_heard" = true) (k13 : PySem.W.keepIn K (.ref f13) = true)
    (a14 : PySem.W.nsIn K mainGlobals "_law_right" = some (some (.ref f14))) (l14 : K.lookup f14 = some ⟨oc14, od14, .func (PySem.W.fnOf "_law_right" "_law_right" (defArgs s_l_right) (defBody s_l_right) (defScope s_l_right) .none kV14 dc14 pm14 an14 cd14 ct14), sl14⟩) (c14 : PySem.W.codeIn K cd14 "_law_right" = true) (k14 : PySem.W.keepIn K (.ref f14) = true)
    (a15 : PySem.W.nsIn K mainGlobals "law" = some (some (.ref f15))) (l15 : K.lookup f15 = some ⟨oc15, od15, .func (PySem.W.fnOf "law" "law" (defArgs s_law) (defBody s_law) (defScope s_law) .none kV15 dc15 pm15 an15 cd15 ct15), sl15⟩) (c15 : PySem.W.codeIn K cd15 "law" = true) (k15 : PySem.W.keepIn K (.ref f15) = true)
    (m_enumerate : PySem.W.nsIn K mainGlobals "enumerate" = some none)
    (m_int : PySem.W.nsIn K mainGlobals "int" = some none)
    (m_isinstance : PySem.W.nsIn K mainGlobals "isinstance" = some none)
    (m_len : PySem.W.nsIn K mainGlobals "len" = some none)
    (m_list : PySem.W.nsIn K mainGlobals "list" = some none)
    (m_max : PySem.W.nsIn K mainGlobals "max" = some none)
    (m_range : PySem.W.nsIn K mainGlobals "range" = some none)
    (m_repr : PySem.W.nsIn K mainGlobals "repr" = some none)
    (m_str : PySem.W.nsIn K mainGlobals "str" = some none)
    (m_sum : PySem.W.nsIn K mainGlobals "sum" = some none)
    (m_tuple : PySem.W.nsIn K mainGlobals "tuple" = some none)
    (g_CALL : PySem.W.nsIn K mainGlobals "CALL" = some (some (.str "call" t_CALL)))
    (g_METHOD : PySem.W.nsIn K mainGlobals "METHOD" = some (some (.str "method" t_METHOD)))
    (g_TOKEN : PySem.W.nsIn K mainGlobals "TOKEN" = some (some (.str "token" t_TOKEN)))
    (m_super : PySem.W.nsIn K mainGlobals "super" = some none) (opq : PySem.W.nsIn K cStatics "thirdparty.any" = some none) (topn : (l.prog.main.scope.names.lookup ("super" : Str)).isSome = false)
    (aC_GapError : PySem.W.nsIn K mainGlobals "GapError" = some (some (.ref C_GapError)))
    (aC_TooLong : PySem.W.nsIn K mainGlobals "TooLong" = some (some (.ref C_TooLong)))
    (xL_TooLong : K.lookup C_TooLong = some (excClassObj nm_TooLong q_TooLong C_TooLong N_TooLong bs_TooLong (gTail C_GapError) true sn_TooLong sub_TooLong ab_TooLong col_TooLong dd_TooLong k0_TooLong k1_TooLong k2_TooLong k3_TooLong k5_TooLong "Exception.__new__")) (sa_TooLong : PySem.W.findIn K (.ref C_TooLong) "__setattr__" = some (some (.builtin "object.__setattr__"))) (nN_TooLong : PySem.W.findIn K (.ref C_TooLong) "length" = some none)
    (iC_TooLong : PySem.W.findIn K (.ref C_TooLong) "__init__" = some (some (.ref fI_TooLong))) (tC_TooLong : PySem.W.typeIn K (.ref fI_TooLong) = some (.type "function")) (sup_TooLong : PySem.W.alongIn K "__init__" (gTail C_GapError) = some (some (.builtin "Exception.__init__")))
    (l1_TooLong : K.lookup fI_TooLong = some ⟨oc_TooLong, od_TooLong, .func (PySem.W.ksFn "__init__" "TooLong.__init__" (defArgs (memb (topS 2) 0)) (defBody (memb (topS 2) 0)) (defScope (memb (topS 2) 0)) .none kV_TooLong doc_TooLong pm_TooLong an_TooLong (.ref cda_TooLong) ct_TooLong cc_TooLong), osl_TooLong⟩) (c1_TooLong : PySem.W.codeIn K (.ref cda_TooLong) "TooLong.__init__" = true)
    (cel_TooLong : K.lookup cc_TooLong = some ⟨cl_TooLong, cld_TooLong, .cell (some (.ref C_TooLong)), csl_TooLong⟩) (cod_TooLong : K.lookup cda_TooLong = some ⟨ccl_TooLong, cdd_TooLong, .fields vs_TooLong, ccs_TooLong⟩) (hv_TooLong : vs_TooLong[2]? = some (.str file_TooLong tf_TooLong)) (hf_TooLong : ((l.prog.main.file : Str) == file_TooLong) = true)
    (kC_TooLong : PySem.W.keepIn K (.ref C_TooLong) = true) (eC_TooLong : PySem.W.subIn K (.ref C_TooLong) (.type "BaseException") = some true) (yC_TooLong : PySem.W.typeIn K (.ref C_TooLong) = some (.type "type")) (ga_TooLong : PySem.W.findIn K (.ref C_TooLong) "__getattribute__" = some (some (.builtin "BaseException.__getattribute__"))) (gg_TooLong : PySem.W.findIn K (.ref C_TooLong) "__getattr__" = some none) (hd_TooLong : PySem.W.hasDictIn K C_TooLong = true)
    (ex_GapError_TooLong : PySem.W.exmOne K (.ref C_GapError) (.ref C_TooLong) = some (subN "GapError" "TooLong"))
    (ex_TooLong_TooLong : PySem.W.exmOne K (.ref C_TooLong) (.ref C_TooLong) = some (subN "TooLong" "TooLong"))
    (ocn : PySem.W.specialIn K (.builtin "object.__class__") "__get__" = some (some (.builtin "getset_descriptor.__get__"))) (oct : PySem.W.takesIn K (.builtin "object.__class__") = some true)
    (zg_GapError : PySem.W.findIn K (.ref C_GapError) "__getattribute__" = some (some (.builtin "BaseException.__getattribute__"))) (zk_GapError : PySem.W.findIn K (.ref C_GapError) "__getattr__" = some none) (zs_GapError : PySem.W.subIn K (.ref C_GapError) (.type "BaseException") = some true) (zd_GapError : PySem.W.hasDictIn K C_GapError = true) (za_GapError : PySem.W.findIn K (.ref C_GapError) "__class__" = some (some (.builtin "object.__class__"))) (zm_GapError : PySem.W.mroIn K C_GapError (.type "object") = some true)
    (zg_TooLong : PySem.W.findIn K (.ref C_TooLong) "__getattribute__" = some (some (.builtin "BaseException.__getattribute__"))) (zk_TooLong : PySem.W.findIn K (.ref C_TooLong) "__getattr__" = some none) (zs_TooLong : PySem.W.subIn K (.ref C_TooLong) (.type "BaseException") = some true) (zd_TooLong : PySem.W.hasDictIn K C_TooLong = true) (za_TooLong : PySem.W.findIn K (.ref C_TooLong) "__class__" = some (some (.builtin "object.__class__"))) (zm_TooLong : PySem.W.mroIn K C_TooLong (.type "object") = some true)
    (kt_GapError_GapError : PySem.W.kitOne K (.ref C_GapError) (.ref C_GapError) = some (subN "GapError" "GapError"))
    (kt_TooLong_GapError : PySem.W.kitOne K (.ref C_TooLong) (.ref C_GapError) = some (subN "TooLong" "GapError"))
    : ∃ fd : FuncData, (∀ (s : Shared) (u : Value), BindsTo s fd ⟨[u], []⟩ [("_law_script", u)]) ∧ ∀ base : Heap, K.In base → base.Ns mainGlobals mg → FnG l.prog w K mg base CX0 7 fa fd ["_law_script"] (SpD K 1 R_law) := by
  have e := hfa.symm.trans (PySem.W.mg_of X G a15)
  cases e
  have F0 := fun_mk (st := s_listed) l0 c0 k0
  have b0 := F0.binds (ps := ["numbers"]) fun _ _ _ _ _ _ us hl => match us, hl with | [_], _ => rfl
  have F1 := fun_mk (st := s_length_in) l1 c1 k1
  have b1 := F1.binds (ps := ["parts", "lengths"]) fun _ _ _ _ _ _ us hl => match us, hl with | [_, _], _ => rfl
  have F2 := fun_mk (st := s_l_hand) l2 c2 k2
  have b2 := F2.binds (ps := ["_law_script"]) fun _ _ _ _ _ _ us hl => match us, hl with | [_], _ => rfl
  have F3 := fun_mk (st := s_l_draw) l3 c3 k3
  have b3 := F3.binds (ps := ["_law_hand_here", "_law_many"]) fun _ _ _ _ _ _ us hl => match us, hl with | [_, _], _ => rfl
  have F4 := fun_mk (st := s_l_between) l4 c4 k4
  have b4 := F4.binds (ps := ["_law_lists"]) fun _ _ _ _ _ _ us hl => match us, hl with | [_], _ => rfl
  have F5 := fun_mk (st := s_l_size) l5 c5 k5
  have b5 := F5.binds (ps := ["_law_step_here", "_law_sizes"]) fun _ _ _ _ _ _ us hl => match us, hl with | [_, _], _ => rfl
  have F6 := fun_mk (st := s_parts_of) l6 c6 k6
  have b6 := F6.binds (ps := ["step"]) fun _ _ _ _ _ _ us hl => match us, hl with | [_], _ => rfl
  have F7 := fun_mk (st := s_l_pick) l7 c7 k7
  have b7 := F7.binds (ps := ["_law_hand_here", "_law_some"]) fun _ _ _ _ _ _ us hl => match us, hl with | [_, _], _ => rfl
  have F8 := fun_mk (st := s_l_written) l8 c8 k8
  have b8 := F8.binds (ps := ["_law_it"]) fun _ _ _ _ _ _ us hl => match us, hl with | [_], _ => rfl
  have F9 := fun_mk (st := s_length_of) l9 c9 k9
  have b9 := F9.binds (ps := ["rows", "pieces"]) fun _ _ _ _ _ _ us hl => match us, hl with | [_, _], _ => rfl
  have F10 := fun_mk (st := s_l_step) l10 c10 k10
  have b10 := F10.binds (ps := ["_law_hand_here", "_law_many"]) fun _ _ _ _ _ _ us hl => match us, hl with | [_, _], _ => rfl
  have F11 := fun_mk (st := s_tokens_of) l11 c11 k11
  have F12 := fun_mk (st := s_l_rows) l12 c12 k12
  have b12 := F12.binds (ps := ["_law_hand_here"]) fun _ _ _ _ _ _ us hl => match us, hl with | [_], _ => rfl
  have F13 := fun_mk (st := s_l_heard) l13 c13 k13
  have b13 := F13.binds (ps := ["_law_it", "_law_lot", "_law_top"]) fun _ _ _ _ _ _ us hl => match us, hl with | [_, _, _], _ => rfl
  have F14 := fun_mk (st := s_l_right) l14 c14 k14
  have b14 := F14.binds (ps := ["_law_hand_here", "_law_it", "_law_lot"]) fun _ _ _ _ _ _ us hl => match us, hl with | [_, _, _], _ => rfl
  have F15 := fun_mk (st := s_law) l15 c15 k15
  have b15 := F15.binds (ps := ["_law_script"]) fun _ _ _ _ _ _ us hl => match us, hl with | [_], _ => rfl
  have kb_11_mix2_most := kb_mix F11 (ps := ["rows", "pieces", "most"]) (ks := ["most"]) (np := 2) (idx := [0, 1, 2]) (by decide) fun _ _ _ _ _ _ us ws h1 h2 => match us, ws, h1, h2 with | [_, _], [_], _, _ => rfl
  have bd11 : Binds K (PySem.W.fnOf "tokens_of" "tokens_of" (defArgs s_tokens_of) (defBody s_tokens_of) (defScope s_tokens_of) .none (.ref kD11) dc11 pm11 an11 cd11 ct11) ["rows", "pieces", "most"] [.int 2000 td11_0] := fun s us Y hl => BindsTo.of_looks fun M => by
    refine KwChain.looks (D := kD11) (l := [("most", .int 2000 td11_0)]) Y (fun q hq => by
      simp only [List.mem_cons, List.not_mem_nil, or_false] at hq
      rcases hq with rfl
      · exact d11_0) ?_
    have hl : us.length = 2 := by simpa using hl
    exact match us, hl with | [_, _], _ => ⟨_, _, _, _, _, _, rfl, rfl, rfl⟩
  have kb_11_def := kb_def (dvs := [V.int 2000]) bd11 ((.cons (by first | exact ⟨_, rfl⟩ | exact rfl) .nil)) (by decide)
  have kb_11_mix0_most_pieces_rows := kb_mix F11 (ps := ["rows", "pieces", "most"]) (ks := ["most", "pieces", "rows"]) (np := 0) (idx := [2, 1, 0]) (by decide) fun _ _ _ _ _ _ us ws h1 h2 => match us, ws, h1, h2 with | [], [_, _, _], _, _ => rfl
  have kb_9_swap := kb_swap (p := "rows") (q := "pieces") F9 fun _ _ _ _ _ _ _ _ => rfl
  refine ⟨PySem.W.fnOf "law" "law" (defArgs s_law) (defBody s_law) (defScope s_law) .none kV15 dc15 pm15 an15 cd15 ct15, fun s v => .of_eq rfl, fun base _ _ => ?_⟩
  have n_enumerate := PySem.W.mg_none_of X G m_enumerate
  have n_int := PySem.W.mg_none_of X G m_int
  have n_isinstance := PySem.W.mg_none_of X G m_isinstance
  have n_len := PySem.W.mg_none_of X G m_len
  have n_list := PySem.W.mg_none_of X G m_list
  have n_max := PySem.W.mg_none_of X G m_max
  have n_range := PySem.W.mg_none_of X G m_range
  have n_repr := PySem.W.mg_none_of X G m_repr
  have n_str := PySem.W.mg_none_of X G m_str
  have n_sum := PySem.W.mg_none_of X G m_sum
  have n_tuple := PySem.W.mg_none_of X G m_tuple
  have v_CALL : GV K mg "CALL" (.str "call") := GV.str (PySem.W.mg_of X G g_CALL)
  have v_METHOD : GV K mg "METHOD" (.str "method") := GV.str (PySem.W.mg_of X G g_METHOD)
  have v_TOKEN : GV K mg "TOKEN" (.str "token") := GV.str (PySem.W.mg_of X G g_TOKEN)
  have n_super := PySem.W.mg_none_of X G m_super
  have E_TooLong : ErrH l.prog K mg "TooLong" "length" C_TooLong := ⟨⟨msg_TooLong, C_GapError, fI_TooLong, cc_TooLong, cda_TooLong, errTxt_mk (s := (memb (topS 2) 0)) xL_TooLong sa_TooLong nN_TooLong iC_TooLong tC_TooLong sup_TooLong opq l1_TooLong c1_TooLong cel_TooLong cod_TooLong hv_TooLong hf_TooLong topn ea_TooLong eb_TooLong sk_TooLong snc_TooLong s1_TooLong s2_TooLong s3_TooLong s4_TooLong hb_TooLong he_TooLong⟩, by decide, by decide, aC_TooLong, PySem.W.mg_of X G aC_TooLong, kC_TooLong, eC_TooLong, yC_TooLong, ⟨ga_TooLong, gg_TooLong, eC_TooLong, hd_TooLong⟩, nN_TooLong, n_super⟩
  have X_TooLong : ExmH K ["GapError", "TooLong"] "TooLong" (.ref C_TooLong) := exm_of fun n hn => by
    simp only [List.mem_cons, List.not_mem_nil, or_false] at hn
    rcases hn with rfl | rfl
    · exact ⟨C_GapError, aC_GapError, ex_GapError_TooLong⟩
    · exact ⟨C_TooLong, aC_TooLong, ex_TooLong_TooLong⟩
  have I_GapError : IsxH K ["GapError", "TooLong"] "GapError" C_GapError := isx_of aC_GapError fun n hn => by
    simp only [List.mem_cons, List.not_mem_nil, or_false] at hn
    rcases hn with rfl | rfl
    · exact ⟨C_GapError, aC_GapError, ⟨zg_GapError, zk_GapError, zs_GapError, zd_GapError, za_GapError, ocn, oct, zm_GapError⟩, kt_GapError_GapError⟩
    · exact ⟨C_TooLong, aC_TooLong, ⟨zg_TooLong, zk_TooLong, zs_TooLong, zd_TooLong, za_TooLong, ocn, oct, zm_TooLong⟩, kt_TooLong_GapError⟩
  have H0 := ok_listed (P := l.prog) (w := w) (base := base) (R := R_listed) F0 b0 (PySem.W.mg_of X G a0) ln_listed rd_listed
  have H1 := ok_length_in (P := l.prog) (w := w) (base := base) (R := R_length_in) n_sum n_isinstance n_str F1 b1 (PySem.W.mg_of X G a1) ln_length_in rd_length_in
  have H2 := ok_l_hand (P := l.prog) (w := w) (base := base) (R := R_hand) n_list F2 b2 (PySem.W.mg_of X G a2) ln_hand rd_l_hand
  have H3 := ok_l_draw (P := l.prog) (w := w) (base := base) (R := R_draw) F3 b3 (PySem.W.mg_of X G a3) ln_draw rd_l_draw
  have H4 := ok_l_between (P := l.prog) (w := w) (base := base) (R := R_l_between) n_enumerate n_int F4 b4 (PySem.W.mg_of X G a4) ln_l_between rd_l_between
  have H5 := ok_l_size (P := l.prog) (w := w) (base := base) (R := R_l_size) n_sum n_max n_len F5 b5 (PySem.W.mg_of X G a5) ln_l_size rd_l_size
  have H6 := ok_parts_of (P := l.prog) (w := w) (base := base) (R := R_parts_of) H0 v_METHOD v_CALL v_TOKEN F6 b6 (PySem.W.mg_of X G a6) ln_parts_of rd_parts_of
  have H7 := ok_l_pick (P := l.prog) (w := w) (base := base) (R := R_pick) H3 n_len F7 b7 (PySem.W.mg_of X G a7) ln_pick rd_l_pick
  have H8 := ok_l_written (P := l.prog) (w := w) (base := base) (R := R_l_written) H4 F8 b8 (PySem.W.mg_of X G a8) ln_l_written rd_l_written
  have H9 := ok_length_of (P := l.prog) (w := w) (base := base) (R := R_length_of) H1 H6 F9 b9 (PySem.W.mg_of X G a9) ln_length_of rd_length_of
  have H10 := ok_l_step (P := l.prog) (w := w) (base := base) (R := R_l_step) H7 H3 n_tuple n_range F10 b10 (PySem.W.mg_of X G a10) ln_l_step rd_l_step
  have H11 := ok_tokens_of (P := l.prog) (w := w) (base := base) (R := R_tokens_of) H6 H9 n_tuple n_isinstance n_str n_list E_TooLong F11 (PySem.W.mg_of X G a11) ln_tokens_of rd_tokens_of
  have H12 := ok_l_rows (P := l.prog) (w := w) (base := base) (R := R_l_rows) H3 H5 H10 n_tuple n_range n_len F12 b12 (PySem.W.mg_of X G a12) ln_l_rows rd_l_rows
  have H13 := ok_l_heard (P := l.prog) (w := w) (base := base) (R := R_l_heard) H11 kb_11_mix2_most kb_11_def n_isinstance E_TooLong X_TooLong I_GapError (PySem.W.mg_of X G aC_GapError) F13 b13 (PySem.W.mg_of X G a13) ln_l_heard rd_l_heard
  have H14 := ok_l_right (P := l.prog) (w := w) (base := base) (R := R_l_right) H11 H3 H13 H9 H8 kb_11_mix0_most_pieces_rows kb_9_swap n_repr n_tuple n_max n_len n_isinstance n_str F14 b14 (PySem.W.mg_of X G a14) ln_l_right rd_l_right
  have H15 := ok_law (P := l.prog) (w := w) (base := base) (R := R_law) H14 H7 H3 H12 H2 n_range n_len n_tuple F15 b15 (PySem.W.mg_of X G a15) ln_law rd_law
  exact H15.fn
end K43
open PySem PySem.W PyProof.Rows
set_option maxHeartbeats 0 in
theorem PySem.Challenge.cw_finishable_k43_lengths_and_tokens_of_pie_holds : PySem.Challenge.rw_finishable_k43_lengths_and_tokens_of_pie.Holds := by
  w_on; o_law; k_head; (case hw => w_witness2)
  k_fill
  refine Fx.walkG (l := PySem.Challenge.rw_finishable_k43_lengths_and_tokens_of_pie) (n := 63) (k := 7) (x := "_law_script") (R := K43.R_law) rfl (by decide) rfl ⟨rfl, by decide, by decide⟩ (fun w h Y => PySem.W.kIn_of Y) ?F K43.at_end
  case F =>
    intro w mg fa h KX G hmg
    refine' K43.all_mk KX G hmg ?a0 ?l0 ?c0 ?k0 ?a1 ?l1 ?c1 ?k1 ?a2 ?l2 ?c2 ?k2 ?a3 ?l3 ?c3 ?k3 ?a4 ?l4 ?c4 ?k4 ?a5 ?l5 ?c5 ?k5 ?a6 ?l6 ?c6 ?k6 ?a7 ?l7 ?c7 ?k7 ?a8 ?l8 ?c8 ?k8 ?a9 ?l9 ?c9 ?k9 ?a10 ?l10 ?c10 ?k10 ?a11 ?l11 ?c11 ?k11 ?d11_0 ?a12 ?l12 ?c12 ?k12 ?a13 ?l13 ?c13 ?k13 ?a14 ?l14 ?c14 ?k14 ?a15 ?l15 ?c15 ?k15 ?m_enumerate ?m_int ?m_isinstance ?m_len ?m_list ?m_max ?m_range ?m_repr ?m_str ?m_sum ?m_tuple ?g_CALL ?g_METHOD ?g_TOKEN ?m_super ?opq ?topn ?aC_GapError ?aC_TooLong ?xL_TooLong ?sa_TooLong ?nN_TooLong ?iC_TooLong ?tC_TooLong ?sup_TooLong ?l1_TooLong ?c1_TooLong ?cel_TooLong ?cod_TooLong ?hv_TooLong ?hf_TooLong ?kC_TooLong ?eC_TooLong ?yC_TooLong ?ga_TooLong ?gg_TooLong ?hd_TooLong ?ex_GapError_TooLong ?ex_TooLong_TooLong ?ocn ?oct ?zg_GapError ?zk_GapError ?zs_GapError ?zd_GapError ?za_GapError ?zm_GapError ?zg_TooLong ?zk_TooLong ?zs_TooLong ?zd_TooLong ?za_TooLong ?zm_TooLong ?kt_GapError_GapError ?kt_TooLong_GapError
    (case a0 => k_is); (case l0 => k_is); (case c0 => k_is); (case k0 => k_is); (case a1 => k_is); (case l1 => k_is); (case c1 => k_is); (case k1 => k_is); (case a2 => k_is); (case l2 => k_is); (case c2 => k_is); (case k2 => k_is); (case a3 => k_is); (case l3 => k_is); (case c3 => k_is); (case k3 => k_is); (case a4 => k_is); (case l4 => k_is); (case c4 => k_is); (case k4 => k_is); (case a5 => k_is); (case l5 => k_is); (case c5 => k_is); (case k5 => k_is); (case a6 => k_is); (case l6 => k_is); (case c6 => k_is); (case k6 => k_is); (case a7 => k_is); (case l7 => k_is); (case c7 => k_is); (case k7 => k_is); (case a8 => k_is); (case l8 => k_is); (case c8 => k_is); (case k8 => k_is); (case a9 => k_is); (case l9 => k_is); (case c9 => k_is); (case k9 => k_is); (case a10 => k_is); (case l10 => k_is); (case c10 => k_is); (case k10 => k_is); (case a11 => k_is); (case l11 => k_is); (case c11 => k_is); (case k11 => k_is); (case d11_0 => k_is); (case a12 => k_is); (case l12 => k_is); (case c12 => k_is); (case k12 => k_is); (case a13 => k_is); (case l13 => k_is); (case c13 => k_is); (case k13 => k_is); (case a14 => k_is); (case l14 => k_is); (case c14 => k_is); (case k14 => k_is); (case a15 => k_is); (case l15 => k_is); (case c15 => k_is); (case k15 => k_is); (case m_enumerate => k_is); (case m_int => k_is); (case m_isinstance => k_is); (case m_len => k_is); (case m_list => k_is); (case m_max => k_is); (case m_range => k_is); (case m_repr => k_is); (case m_str => k_is); (case m_sum => k_is); (case m_tuple => k_is); (case g_CALL => k_is); (case g_METHOD => k_is); (case g_TOKEN => k_is); (case m_super => k_is); (case opq => k_is); (case topn => rfl); (case aC_GapError => k_is); (case aC_TooLong => k_is); (case xL_TooLong => k_is); (case sa_TooLong => k_is); (case nN_TooLong => k_is); (case iC_TooLong => k_is); (case tC_TooLong => k_is); (case sup_TooLong => first | k_is | rfl | kernel_rfl | decide +kernel); (case l1_TooLong => k_is); (case c1_TooLong => k_is); (case cel_TooLong => k_is); (case cod_TooLong => k_is); (case hv_TooLong => rfl); (case hf_TooLong => decide +kernel); (case kC_TooLong => k_is); (case eC_TooLong => k_is); (case yC_TooLong => k_is); (case ga_TooLong => k_is); (case gg_TooLong => k_is); (case hd_TooLong => k_is); (case ex_GapError_TooLong => first | k_is | rfl | kernel_rfl | decide +kernel); (case ex_TooLong_TooLong => first | k_is | rfl | kernel_rfl | decide +kernel); (case ocn => k_is); (case oct => k_is); (case zg_GapError => k_is); (case zk_GapError => k_is); (case zs_GapError => k_is); (case zd_GapError => k_is); (case za_GapError => k_is); (case zm_GapError => k_is); (case zg_TooLong => k_is); (case zk_TooLong => k_is); (case zs_TooLong => k_is); (case zd_TooLong => k_is); (case za_TooLong => k_is); (case zm_TooLong => k_is); (case kt_GapError_GapError => first | k_is | rfl | kernel_rfl | decide +kernel); (case kt_TooLong_GapError => first | k_is | rfl | kernel_rfl | decide +kernel)

