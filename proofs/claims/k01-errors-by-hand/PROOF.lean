import PyProof.Rows.All
import Wide.All
import OpenK.AllK
import Wide.FinOn
import HandS.ForMost
import HandS.IsInst
import HandS.Style
import HandS.TupAny
import HandS.Flow
import HandS.Defaults
import HandS.Walk
import HandS.Deep
import HandS.StrMore
import HandS.Wide
import PyProof.ReprReads
import HandS.ExcInit
import HandS.Zip
import PyProof.Rows.CallKwBuiltin
import PyProof.Rows.CallKw2
import HandS.TupMul
import HandS.Replace
import HandS.Star
import HandS.Text
import PyProof.StrOps2
import PyProof.StrBlock2
import KE.KRevSl
import HandS.ExcSuper
import HandS.ExcCtx
import KE.KSuper
import HandS.ForExc
import HandS.TryOnly
import HandS.ExcOwn
import HandS.ExcField
import KE.KExcIs
import HandS.ExcIs
import HandS.ExcValue
import HandS.Codes
import PyProof.StrLawsFirst
import PyProof.Rows.StrCut
import PySem.Challenge.RW_finishable_k01_errors_by_hand
set_option Elab.async false
set_option linter.all false
set_option maxRecDepth 100000
set_option maxHeartbeats 4000000
namespace Fx
open PySem PySem.Spec PyProof.Rows L2

/-! the data level: values as trees; what may change stands in a map of its own -/
/-- sorts of objects: the error that a suite holds; an error as a value; an instance that never changes -/
inductive OK where
  | cau (a : Addr) (n : String) (d : Option Addr)
  | err (n : String)
  | ins (n : String)
def clsA (K : PySem.W.Frag) (n : String) (C : Addr) : Prop := PySem.W.nsIn K mainGlobals (Str.ofString n) = some (some (.ref C))
def OAt (K : PySem.W.Frag) (G : Hp) (a : Addr) (fvs : List (Str × V)) : OK → Prop
  | .cau a' n d => a = a' ∧ match d with
    | none => fvs = []
    | some d => G d = some (.xd fvs)
  | .err n => ∃ C, clsA K n C ∧ ((fvs = [] ∧ G a = some (exo a C none)) ∨ ∃ d, G a = some (exo a C (some d)) ∧ G d = some (exd d fvs))
  | .ins n => ∃ C dx, clsA K n C ∧ G a = some (.ins C dx fvs) ∧ G dx = some (.own a)
theorem OAt.mono {K : PySem.W.Frag} {G G' : Hp} {a : Addr} {fvs : List (Str × V)} (e : Same G G') : ∀ {k : OK}, OAt K G a fvs k → OAt K G' a fvs k
  | .cau a' n none, h => h
  | .cau a' n (some d), h => ⟨h.1, e _ _ h.2⟩
  | .err n, ⟨C, h1, .inl ⟨h2, h3⟩⟩ => ⟨C, h1, .inl ⟨h2, e _ _ h3⟩⟩
  | .err n, ⟨C, h1, .inr ⟨d, h2, h3⟩⟩ => ⟨C, h1, .inr ⟨d, e _ _ h2, e _ _ h3⟩⟩
  | .ins n, ⟨C, dx, h1, h2, h3⟩ => ⟨C, dx, h1, e _ _ h2, e _ _ h3⟩
inductive D where
  | non
  | bl (b : Bool)
  | int (i : Int)
  | str (x : Str)
  | tup (ds : List D)
  | lst (ds : List D)
  | slst (ds : List D)
  | dic (kvs : List (Key × D))
  | ref (a : Addr)
  | ty (n : String)
  | dtp (ks : List (List Key)) (ds : List D)
  | obj (k : OK) (ns : List Str) (ds : List D)

/-- an object that may change -/
inductive MO where
  | lst (ds : List D)
  | dic (kvs : List (Key × D))
  | dtp (ks : List (List Key)) (ds : List D)
  | ins (n : String) (ns : List Str) (ds : List D)

abbrev Mp := Addr → Option MO
def updM (M : Mp) (a : Addr) (o : MO) : Mp := fun b => if b = a then some o else M b
def delM (M : Mp) (a : Addr) : Mp := fun b => if b = a then none else M b
theorem updM_same {M : Mp} {a : Addr} {o : MO} : updM M a o a = some o := by unfold updM; rw [if_pos rfl]
theorem updM_ne {M : Mp} {a b : Addr} {o : MO} (h : b ≠ a) : updM M a o b = M b := by unfold updM; rw [if_neg h]
theorem delM_same {M : Mp} {a : Addr} : delM M a a = none := by unfold delM; rw [if_pos rfl]
theorem delM_ne {M : Mp} {a b : Addr} (h : b ≠ a) : delM M a b = M b := by unfold delM; rw [if_neg h]

/-- what never changes -/
def hid (M : Mp) (H : Hp) : Hp := fun a => match M a with
  | some _ => none
  | none => H a
theorem hid_some {M : Mp} {H : Hp} {a : Addr} {o : HO} (h : hid M H a = some o) : M a = none ∧ H a = some o := by
  unfold hid at h
  cases e : M a with
  | none => rw [e] at h; exact ⟨rfl, h⟩
  | some m => rw [e] at h; cases h
theorem hid_of {M : Mp} {H : Hp} {a : Addr} (e : M a = none) : hid M H a = H a := by
  unfold hid; rw [e]
theorem hid_sub {M : Mp} {H : Hp} : Same (hid M H) H := fun _ _ h => (hid_some h).2

mutual
inductive Dt (K : PySem.W.Frag) (G : Hp) : V → D → Prop
  | non : Dt K G .non .non
  | bl (b : Bool) : Dt K G (.bl b) (.bl b)
  | int (i : Int) : Dt K G (.int i) (.int i)
  | str (x : Str) : Dt K G (.str x) (.str x)
  | lst {a : Addr} {xs : List V} {ds : List D} : G a = some (.lst xs) → Dts K G xs ds → Dt K G (.ref a) (.lst ds)
  | slst {a : Addr} {xs : List V} {ds : List D} : SqL K G a xs → Dts K G xs ds → Dt K G (.ref a) (.slst ds)
  | tup {a : Addr} {xs : List V} {ds : List D} : SqT K G a xs → Dts K G xs ds → Dt K G (.ref a) (.tup ds)
  | dic {a : Addr} {xs : List (Key × V)} {ds : List (Key × D)} : G a = some (.dK xs) → Dtk K G xs ds → Dt K G (.ref a) (.dic ds)
  | ref (a : Addr) : Dt K G (.ref a) (.ref a)
  | ty (n : String) : Dt K G (.ty n) (.ty n)
  | dtp {a : Addr} {ks : List (List Key)} {xs : List V} {ds : List D} : G a = some (.dT (ks.zip xs)) → ks.length = xs.length → Dts K G xs ds → Dt K G (.ref a) (.dtp ks ds)
  | obj {a : Addr} {k : OK} {ns : List Str} {xs : List V} {ds : List D} : OAt K G a (ns.zip xs) k → ns.length = xs.length → Dts K G xs ds → Dt K G (.ref a) (.obj k ns ds)
inductive Dts (K : PySem.W.Frag) (G : Hp) : List V → List D → Prop
  | nil : Dts K G [] []
  | cons {v : V} {vs : List V} {d : D} {ds : List D} : Dt K G v d → Dts K G vs ds → Dts K G (v :: vs) (d :: ds)
inductive Dtk (K : PySem.W.Frag) (G : Hp) : List (Key × V) → List (Key × D) → Prop
  | nil : Dtk K G [] []
  | cons {k : Key} {v : V} {vs : List (Key × V)} {d : D} {ds : List (Key × D)} : Dt K G v d → Dtk K G vs ds → Dtk K G ((k, v) :: vs) ((k, d) :: ds)
end

theorem sqT_same {K : PySem.W.Frag} {H H' : Hp} {a : Addr} {xs : List V} (e : Same H H') (h : SqT K H a xs) : SqT K H' a xs := by
  rcases h with (h | ⟨o, h⟩) | h
  · exact .inl (.inl (e _ _ h))
  · exact .inl (.inr ⟨o, e _ _ h⟩)
  · exact .inr h

section
variable {K : PySem.W.Frag} {G G' : Hp}
mutual
theorem Dt.mono (e : Same G G') : ∀ {v : V} {d : D}, Dt K G v d → Dt K G' v d
  | _, _, .non => .non
  | _, _, .bl b => .bl b
  | _, _, .int i => .int i
  | _, _, .str x => .str x
  | _, _, .lst h1 h2 => .lst (e _ _ h1) (Dts.mono e h2)
  | _, _, .slst h1 h2 => .slst (e.seq h1) (Dts.mono e h2)
  | _, _, .tup h1 h2 => .tup (sqT_same e h1) (Dts.mono e h2)
  | _, _, .dic h1 h2 => .dic (e _ _ h1) (Dtk.mono e h2)
  | _, _, .ref a => .ref a
  | _, _, .ty n => .ty n
  | _, _, .dtp h1 h2 h3 => .dtp (e _ _ h1) h2 (Dts.mono e h3)
  | _, _, .obj h1 h2 h3 => .obj (h1.mono e) h2 (Dts.mono e h3)
theorem Dts.mono (e : Same G G') : ∀ {vs : List V} {ds : List D}, Dts K G vs ds → Dts K G' vs ds
  | _, _, .nil => .nil
  | _, _, .cons h1 h2 => .cons (Dt.mono e h1) (Dts.mono e h2)
theorem Dtk.mono (e : Same G G') : ∀ {vs : List (Key × V)} {ds : List (Key × D)}, Dtk K G vs ds → Dtk K G' vs ds
  | _, _, .nil => .nil
  | _, _, .cons h1 h2 => .cons (Dt.mono e h1) (Dtk.mono e h2)
end
theorem Dts.length : ∀ {vs : List V} {ds : List D}, Dts K G vs ds → vs.length = ds.length
  | _, _, .nil => rfl
  | _, _, .cons _ h2 => by rw [List.length_cons, List.length_cons, h2.length]
theorem Dts.get : ∀ {vs : List V} {ds : List D} {i : Nat} {d : D}, Dts K G vs ds → ds[i]? = some d → ∃ v, vs[i]? = some v ∧ Dt K G v d
  | _, _, _, _, .nil, e => by simp at e
  | _, _, 0, _, .cons h1 _, e => by simp at e; subst e; exact ⟨_, rfl, h1⟩
  | _, _, i + 1, _, .cons _ h2, e => by
    obtain ⟨v, h, r⟩ := Dts.get h2 (i := i) (by simpa using e)
    exact ⟨v, by simpa using h, r⟩
theorem Dts.getV : ∀ {vs : List V} {ds : List D} {i : Nat} {v : V}, Dts K G vs ds → vs[i]? = some v → ∃ d, ds[i]? = some d ∧ Dt K G v d
  | _, _, _, _, .nil, e => by simp at e
  | _, _, 0, _, .cons h1 _, e => by simp at e; subst e; exact ⟨_, rfl, h1⟩
  | _, _, i + 1, _, .cons _ h2, e => by
    obtain ⟨v, h, r⟩ := Dts.getV h2 (i := i) (by simpa using e)
    exact ⟨v, by simpa using h, r⟩
theorem Dts.append : ∀ {vs ws : List V} {ds es : List D}, Dts K G vs ds → Dts K G ws es → Dts K G (vs ++ ws) (ds ++ es)
  | _, _, _, _, .nil, h => h
  | _, _, _, _, .cons h1 h2, h => .cons h1 (Dts.append h2 h)
theorem Dts.take : ∀ {vs : List V} {ds : List D} (n : Nat), Dts K G vs ds → Dts K G (vs.take n) (ds.take n)
  | _, _, 0, _ => .nil
  | _, _, _ + 1, .nil => .nil
  | _, _, n + 1, .cons h1 h2 => .cons h1 (Dts.take n h2)
theorem Dts.drop : ∀ {vs : List V} {ds : List D} (n : Nat), Dts K G vs ds → Dts K G (vs.drop n) (ds.drop n)
  | _, _, 0, h => h
  | _, _, _ + 1, .nil => .nil
  | _, _, n + 1, .cons h1 h2 => Dts.drop n h2
theorem Dts.set : ∀ {vs : List V} {ds : List D} {v : V} {d : D} (n : Nat), Dts K G vs ds → Dt K G v d → Dts K G (vs.set n v) (ds.set n d)
  | _, _, _, _, _, .nil, _ => .nil
  | _, _, _, _, 0, .cons _ h2, h => .cons h h2
  | _, _, _, _, n + 1, .cons h1 h2, h => .cons h1 (Dts.set n h2 h)
theorem Dts.rev : ∀ {vs : List V} {ds : List D}, Dts K G vs ds → Dts K G vs.reverse ds.reverse
  | _, _, .nil => .nil
  | _, _, .cons h1 h2 => by
    rw [List.reverse_cons, List.reverse_cons]
    exact Dts.append (Dts.rev h2) (.cons h1 .nil)
theorem Dts.ints (ns : List Int) : Dts K G (ns.map V.int) (ns.map D.int) := by
  induction ns with
  | nil => exact .nil
  | cons n ns ih => exact .cons (.int n) ih
end

/-- what the map tells holds in the heap -/
def MOk (K : PySem.W.Frag) (M : Mp) (H : Hp) (a : Addr) : MO → Prop
  | .lst ds => ∃ xs, H a = some (.lst xs) ∧ Dts K (hid M H) xs ds
  | .dic ds => ∃ xs, H a = some (.dK xs) ∧ Dtk K (hid M H) xs ds
  | .dtp ks ds => ∃ xs, H a = some (.dT (ks.zip xs)) ∧ ks.length = xs.length ∧ Dts K (hid M H) xs ds
  | .ins n ns ds => ∃ xs C dx, H a = some (.ins C dx (ns.zip xs)) ∧ ns.length = xs.length ∧ clsA K n C ∧ hid M H dx = some (.own a) ∧ Dts K (hid M H) xs ds
theorem MOk.at {K : PySem.W.Frag} {M : Mp} {H : Hp} {a : Addr} : ∀ {o : MO}, MOk K M H a o → ∃ u, H a = some u
  | .lst _, ⟨_, h, _⟩ => ⟨_, h⟩
  | .dic _, ⟨_, h, _⟩ => ⟨_, h⟩
  | .dtp _ _, ⟨_, h, _⟩ => ⟨_, h⟩
  | .ins _ _ _, ⟨_, _, _, h, _⟩ => ⟨_, h⟩
theorem MOk.later {K : PySem.W.Frag} {M M' : Mp} {H H' : Hp} {a : Addr} (k : ∀ u, H a = some u → H' a = some u) (s : Same (hid M H) (hid M' H')) : ∀ {o : MO}, MOk K M H a o → MOk K M' H' a o
  | .lst _, ⟨xs, h, d⟩ => ⟨xs, k _ h, d.mono s⟩
  | .dic _, ⟨xs, h, d⟩ => ⟨xs, k _ h, d.mono s⟩
  | .dtp _ _, ⟨xs, h, l, d⟩ => ⟨xs, k _ h, l, d.mono s⟩
  | .ins _ _ _, ⟨xs, C, dx, h, l, c, o, d⟩ => ⟨xs, C, dx, k _ h, l, c, s _ _ o, d.mono s⟩

/-- later -/
def Lat (M : Mp) (H : Hp) (M' : Mp) (H' : Hp) : Prop := ∀ b o, H b = some o → M b = none → H' b = some o ∧ M' b = none
theorem Lat.refl (M : Mp) (H : Hp) : Lat M H M H := fun _ _ h n => ⟨h, n⟩
theorem Lat.trans {M M1 M2 : Mp} {H H1 H2 : Hp} (a : Lat M H M1 H1) (b : Lat M1 H1 M2 H2) : Lat M H M2 H2 := fun c o h n => b c o (a c o h n).1 (a c o h n).2
theorem Lat.same {M M' : Mp} {H H' : Hp} (l : Lat M H M' H') : Same (hid M H) (hid M' H') := fun b o h => by
  obtain ⟨n, e⟩ := hid_some h
  obtain ⟨e', n'⟩ := l b o e n
  rw [hid_of n']
  exact e'

theorem Lat.of_same {M M' : Mp} {H H' : Hp} (s : Same (hid M H) (hid M' H')) : Lat M H M' H' := fun b o h n => by
  have z := s b o (by rw [hid_of n]; exact h)
  exact ⟨(hid_some z).2, (hid_some z).1⟩
/-- the ground: what is known all along -/
class Grd where
  gr : Mp → Hp → Prop
  up : ∀ {M H M' H'}, gr M H → Lat M H M' H' → gr M' H'
@[reducible] def Grd.triv : Grd := ⟨fun _ _ => True, fun _ _ => trivial⟩
/-- later than a state -/
@[reducible] def Grd.from (M0 : Mp) (H0 : Hp) : Grd := ⟨fun M H => Lat M0 H0 M H, fun a b => a.trans b⟩
variable [Grd]
def HpOk (K : PySem.W.Frag) (M : Mp) (H : Hp) : Prop := (∀ a o, M a = some o → MOk K M H a o) ∧ Grd.gr M H
instance {K : PySem.W.Frag} {M : Mp} {H : Hp} : CoeFun (HpOk K M H) (fun _ => ∀ a o, M a = some o → MOk K M H a o) := ⟨And.left⟩
omit [Grd] in
theorem HpOk.triv {K : PySem.W.Frag} {M : Mp} {H : Hp} {g : Grd} (h : @HpOk g K M H) : @HpOk Grd.triv K M H := ⟨h.1, trivial⟩
omit [Grd] in
theorem HpOk.back {K : PySem.W.Frag} {M M' : Mp} {H H' : Hp} {g0 g : Grd} (h : @HpOk g0 K M H) (l : Lat M H M' H') (h' : @HpOk g K M' H') : @HpOk g0 K M' H' := ⟨h'.1, g0.up h.2 l⟩
section
variable {K : PySem.W.Frag} {M M' : Mp} {H H' : Hp}
theorem HpOk.free (h : HpOk K M H) {p : Addr} (n : H p = none) : M p = none := by
  cases e : M p with
  | none => rfl
  | some o =>
    obtain ⟨u, q⟩ := (h p o e).at
    rw [n] at q
    cases q
/-- a new thing that never changes -/
theorem HpOk.lay (h : HpOk K M H) {p : Addr} {o : HO} (n : H p = none) : HpOk K M (upd H p o) ∧ Lat M H M (upd H p o) := by
  have l : Lat M H M (upd H p o) := fun b u e nb => ⟨by rw [upd_ne (ne_of_none e n)]; exact e, nb⟩
  exact ⟨⟨fun a u e => (h a u e).later (fun v e1 => by rw [upd_ne (ne_of_none e1 n)]; exact e1) l.same, Grd.up h.2 l⟩, l⟩
theorem HpOk.ofLat (h : HpOk K M H) (l : Lat M H M H') (k : ∀ b o, M b ≠ none → H b = some o → H' b = some o) : HpOk K M H' := ⟨fun a u e =>
  (h a u e).later (fun v e1 => k _ _ (by rw [e]; simp) e1) l.same, Grd.up h.2 l⟩
/-- all that is tracked is kept -/
theorem HpOk.ofSame (h : HpOk K M H) (e : Same H H') : HpOk K M H' ∧ Lat M H M H' :=
  have l : Lat M H M H' := fun b o q n => ⟨e b o q, n⟩
  ⟨h.ofLat l fun b o _ q => e b o q, l⟩
/-- what may change is changed, or is new -/
theorem HpOk.put (h : HpOk K M H) {p : Addr} {o : HO} {m : MO} (hp : M p ≠ none ∨ H p = none) (hm : MOk K (updM M p m) (upd H p o) p m) : HpOk K (updM M p m) (upd H p o) ∧ Lat M H (updM M p m) (upd H p o) := by
  have l : Lat M H (updM M p m) (upd H p o) := fun b u e nb => by
    have ne : b ≠ p := fun z => by
      subst z
      rcases hp with q | q
      · exact q nb
      · rw [e] at q; cases q
    exact ⟨by rw [upd_ne ne]; exact e, by rw [updM_ne ne]; exact nb⟩
  refine ⟨⟨fun a u e => ?_, Grd.up h.2 l⟩, l⟩
  by_cases ea : a = p
  · subst ea
    rw [updM_same] at e
    cases e
    exact hm
  · rw [updM_ne ea] at e
    exact (h a u e).later (fun v e1 => by rw [upd_ne ea]; exact e1) l.same
/-- from now on it never changes -/
theorem HpOk.frz (h : HpOk K M H) (p : Addr) : HpOk K (delM M p) H ∧ Lat M H (delM M p) H := by
  have l : Lat M H (delM M p) H := fun b u e nb => ⟨e, by
    unfold delM
    split
    · rfl
    · exact nb⟩
  refine ⟨⟨fun a u e => ?_, Grd.up h.2 l⟩, l⟩
  have ea : a ≠ p := fun z => by
    subst z
    rw [delM_same] at e
    cases e
  rw [delM_ne ea] at e
  exact (h a u e).later (fun v e1 => e1) l.same
end
/-! slots -/
abbrev Ds := List (Option D)
def Env (K : PySem.W.Frag) (M : Mp) (H : Hp) (σ : L2.St) (ds : Ds) : Prop := σ.length = ds.length ∧ ∀ (i : Nat) (d : D), ds[i]? = some (some d) → ∃ v, σ[i]? = some (some v) ∧ Dt K (hid M H) v d
theorem Env.mono {K : PySem.W.Frag} {M M' : Mp} {H H' : Hp} {σ : L2.St} {ds : Ds} (e : Env K M H σ ds) (l : Lat M H M' H') : Env K M' H' σ ds := ⟨e.1, fun i d h => by
  obtain ⟨v, a, b⟩ := e.2 i d h
  exact ⟨v, a, b.mono l.same⟩⟩
theorem Env.set {K : PySem.W.Frag} {M : Mp} {H : Hp} {σ : L2.St} {ds : Ds} {v : V} {d : D} (e : Env K M H σ ds) (i : Nat) (h : Dt K (hid M H) v d) : Env K M H (σ.set i (some v)) (ds.set i (some d)) := by
  refine ⟨by rw [List.length_set, List.length_set]; exact e.1, fun j u hj => ?_⟩
  rw [List.getElem?_set] at hj
  rw [List.getElem?_set]
  by_cases q : i = j
  · rw [if_pos q] at hj
    rw [if_pos q]
    by_cases z : i < ds.length
    · rw [if_pos z] at hj
      cases hj
      rw [if_pos (by rw [e.1]; exact z)]
      exact ⟨v, rfl, h⟩
    · rw [if_neg z] at hj
      cases hj
  · rw [if_neg q] at hj
    rw [if_neg q]
    exact e.2 j u hj
end Fx

namespace Fx
open PySem PySem.Spec PyProof.Rows L2
variable [Grd]

abbrev DK := D → Mp → Prop
abbrev TEd := Ds → Mp → DK → Prop
abbrev TTd := Ds → Mp → (Bool → Mp → Prop) → Prop
abbrev TAd := Ds → Mp → (List D → Mp → Prop) → Prop
structure Endd where
  nx : Ds → Mp → Prop
  rt : DK
  bk : Ds → Mp → Prop := fun _ _ => False
  ct : Ds → Mp → Prop := fun _ _ => False
abbrev TSd := Endd → Ds → Mp → Prop

/-- two ways -/
def br (b : Bool) (P Q : Prop) : Prop := match b with
  | true => P
  | false => Q
@[simp] theorem br_true {P Q : Prop} : br true P Q = P := rfl
@[simp] theorem br_false {P Q : Prop} : br false P Q = Q := rfl
theorem br_dec {p : Prop} [Decidable p] {P Q : Prop} : br (decide p) P Q = ((p → P) ∧ (¬ p → Q)) := by
  by_cases h : p
  · rw [decide_eq_true h]
    simp [h]
  · rw [decide_eq_false h]
    simp [h]
theorem br_ite {b : Bool} {P Q : Prop} : br b P Q = ((b = true → P) ∧ (b = false → Q)) := by cases b <;> simp
@[simp] theorem br_not {b : Bool} {P Q : Prop} : br (!b) P Q = br b Q P := by cases b <;> rfl
theorem br_and {a b : Bool} {P Q : Prop} : br (a && b) P Q = br a (br b P Q) Q := by cases a <;> rfl
theorem br_or {a b : Bool} {P Q : Prop} : br (a || b) P Q = br a P (br b P Q) := by cases a <;> rfl

/-- behind an expression: from M, H on -/
def AftE (K : PySem.W.Frag) (M : Mp) (H : Hp) (F : DK) (Q : VK) : Prop := ∀ d M', F d M' → ∀ v H', HpOk K M' H' → Dt K (hid M' H') v d → Lat M H M' H' → Q v H'
def emb (K : PySem.W.Frag) (T : TEd) : TE := fun σ H Q => ∃ ds M F, Env K M H σ ds ∧ HpOk K M H ∧ T ds M F ∧ AftE K M H F Q
def embT (K : PySem.W.Frag) (T : TTd) : TT := fun σ H Q => ∃ ds M F, Env K M H σ ds ∧ HpOk K M H ∧ T ds M F ∧ ∀ b M', F b M' → ∀ H', HpOk K M' H' → Lat M H M' H' → Q b H'
def embA (K : PySem.W.Frag) (T : TAd) : TA := fun σ H Q => ∃ ds M F, Env K M H σ ds ∧ HpOk K M H ∧ T ds M F ∧ ∀ xs M', F xs M' → ∀ vs H', HpOk K M' H' → Dts K (hid M' H') vs xs → Lat M H M' H' → Q vs H'
structure AftS (K : PySem.W.Frag) (M : Mp) (H : Hp) (B : Endd) (E : Ends) : Prop where
  nx : ∀ ds' M', B.nx ds' M' → ∀ σ' H', Env K M' H' σ' ds' → HpOk K M' H' → Lat M H M' H' → E.nx σ' H'
  rt : AftE K M H B.rt E.rt
  bk : ∀ ds' M', B.bk ds' M' → ∀ σ' H', Env K M' H' σ' ds' → HpOk K M' H' → Lat M H M' H' → E.bk σ' H'
  ct : ∀ ds' M', B.ct ds' M' → ∀ σ' H', Env K M' H' σ' ds' → HpOk K M' H' → Lat M H M' H' → E.ct σ' H'
def embS (K : PySem.W.Frag) (T : TSd) : TS := fun E σ H => ∃ ds M B, Env K M H σ ds ∧ HpOk K M H ∧ T B ds M ∧ AftS K M H B E

theorem AftE.triv {K : PySem.W.Frag} {M : Mp} {H : Hp} {F : DK} {Q : VK} (a : AftE K M H F Q) (ok : HpOk K M H) : @AftE Grd.triv K M H F Q := fun d M' f v H' ok' dt l => a d M' f v H' (ok.back l ok') dt l
theorem AftE.later {K : PySem.W.Frag} {M M1 : Mp} {H H1 : Hp} {F : DK} {Q : VK} (a : AftE K M H F Q) (l : Lat M H M1 H1) : AftE K M1 H1 F Q := fun d M' f v H' ok dt l' => a d M' f v H' ok dt (l.trans l')
theorem AftS.later {K : PySem.W.Frag} {M M1 : Mp} {H H1 : Hp} {B : Endd} {E : Ends} (a : AftS K M H B E) (l : Lat M H M1 H1) : AftS K M1 H1 B E :=
  ⟨fun ds' M' f σ' H' ev ok l' => a.nx ds' M' f σ' H' ev ok (l.trans l'), a.rt.later l, fun ds' M' f σ' H' ev ok l' => a.bk ds' M' f σ' H' ev ok (l.trans l'), fun ds' M' f σ' H' ev ok l' => a.ct ds' M' f σ' H' ev ok (l.trans l')⟩

abbrev DE (X : Cx) (e : Expr) (T : TEd) : Prop := PE X e (emb X.K T)
abbrev DT (X : Cx) (e : Expr) (T : TTd) : Prop := PT X e (embT X.K T)
abbrev DW (X : Cx) (e : Expr) (T : TTd) : Prop := PW X e (embT X.K T)
abbrev DA (X : Cx) (es : List Expr) (T : TAd) : Prop := PA X es (embA X.K T)
abbrev DQ (X : Cx) (kws : List Keyword) (T : TAd) : Prop := PK X kws (embA X.K T)
abbrev DS (X : Cx) (st : Stmt) (T : TSd) : Prop := PS X st (embS X.K T)
abbrev DSs (X : Cx) (st : List Stmt) (T : TSd) : Prop := PSs X st (embS X.K T)

theorem _root_.L2.PE.fimp {X : Cx} {e : Expr} {t u : TE} (h : PE X e t) (i : ∀ σ H Q, u σ H Q → t σ H Q) : PE X e u := ⟨fun pins s σ H Q I q => h.run pins s σ H Q I (i σ H Q q)⟩
theorem _root_.L2.PT.fimp {X : Cx} {e : Expr} {t u : TT} (h : PT X e t) (i : ∀ σ H Q, u σ H Q → t σ H Q) : PT X e u := ⟨fun pins s σ H Q I q => h.run pins s σ H Q I (i σ H Q q)⟩
theorem _root_.L2.PW.fimp {X : Cx} {e : Expr} {t u : TT} (h : PW X e t) (i : ∀ σ H Q, u σ H Q → t σ H Q) : PW X e u := ⟨fun wh pins s σ H Q I q => h.run wh pins s σ H Q I (i σ H Q q)⟩
theorem _root_.L2.PA.fimp {X : Cx} {es : List Expr} {t u : TA} (h : PA X es t) (i : ∀ σ H Q, u σ H Q → t σ H Q) : PA X es u := ⟨fun p pins s σ H Q I q => h.run p pins s σ H Q I (i σ H Q q)⟩
theorem _root_.L2.PK.fimp {X : Cx} {es : List Keyword} {t u : TA} (h : PK X es t) (i : ∀ σ H Q, u σ H Q → t σ H Q) : PK X es u := ⟨fun p pins s σ H Q I q => h.run p pins s σ H Q I (i σ H Q q)⟩
theorem _root_.L2.PS.fimp {X : Cx} {st : Stmt} {t u : TS} (h : PS X st t) (i : ∀ E σ H, u E σ H → t E σ H) : PS X st u := ⟨fun pins s σ H E I q => h.run pins s σ H E I (i E σ H q)⟩
theorem _root_.L2.PSs.fimp {X : Cx} {st : List Stmt} {t u : TS} (h : PSs X st t) (i : ∀ E σ H, u E σ H → t E σ H) : PSs X st u := ⟨fun pins s σ H E I q => h.run pins s σ H E I (i E σ H q)⟩

/-! promises that know that no repr is under way -/
structure FnG (P : Program) (w : World) (K : PySem.W.Frag) (mg : Str → Option Value) (base : Heap) (CX : CXT) (k : Nat) (f : Addr) (fd : FuncData) (ps : List Str) (sp : Sp) : Prop where
  nlen : ∀ vs H Q E, sp vs H Q E → vs.length = ps.length
  go : ∀ (A : Around) (outer : List PySem.Env) (s : Shared) (H : Hp) (args : Args) (us : List Value) (vs : List V) (Q : VK) (E : XK), A.guards = some [] → Room k A → Env0 P w K mg base A outer s H → BindsTo s fd args (ps.zip us) → Vals vs us → sp vs H Q E →
    codeAny (model P w) A (.call (.ref f) args) (CR CX outer P w H s Q E) s

section
variable {P : Program} {w : World} {K : PySem.W.Frag} {mg : Str → Option Value} {base : Heap} {CX : CXT} {k : Nat} {f : Addr} {fd : FuncData} {ps : List Str} {sp : Sp}
omit [Grd] in
theorem FnG.up {j : Nat} (F : FnG P w K mg base CX j f fd ps sp) (h : j ≤ k) : FnG P w K mg base CX k f fd ps sp :=
  ⟨F.nlen, fun A outer s H args us vs Q E g hr => F.go A outer s H args us vs Q E g (hr.mono h)⟩
omit [Grd] in
theorem guards_deeper {A : Around} {env : PySem.Env} : (A.deeper env).guards = A.guards := by
  first
    | rfl
    | simp [Around.deeper]
omit [Grd] in
/-- a def by its body -/
theorem fng_of {x qual : Str} {st : Stmt} {N : List Str} (Fu : Fun K x qual st f fd) (S : FnScope N ps (defScope st)) (hlen : ∀ vs H Q E, sp vs H Q E → vs.length = ps.length)
    (hb : ∀ (cdv : Value) (A : Around) (outer : List PySem.Env) (s : Shared) (H : Hp) (vs : List V) (Q : VK) (E : XK), (A.deeper (envOfC qual (defScope st) s.heap.objs.size f cdv)).guards = some [] → Room k (A.deeper (envOfC qual (defScope st) s.heap.objs.size f cdv)) → sp vs H Q E →
      ∃ t, PSs (cxOf CX P w K mg base N qual (defScope st) f cdv A outer s H E) (defBody st) t ∧ t { nx := fun _ H' => Q .non H', rt := Q } (start N vs) H) : FnG P w K mg base CX (k + 1) f fd ps sp := by
  obtain ⟨oc, od, kV, doc, pm, an, cdv, ct, osl, rfl, lk, hcd⟩ := Fu.ex
  refine ⟨hlen, fun A outer s H args us vs Q E gA room e0 bi rv wish => ?_⟩
  have KX : K.In s.heap := e0.mod.kin.keeps fun b o q => (e0.bs b o q).1
  have nl : s.heap.NoLimit := e0.mod.nolimit.keeps fun b o q => (e0.bs b o q).1
  have kinds : ∀ y ∈ ps.zip us, (defScope st).names.lookup y.1 = some .local ∨ ((defScope st).names.lookup y.1 = some .cell ∧ ((cellsFrom (s.heap.objs.size + 1) (defScope st).names []).lookup y.1).isSome = true) := by
    rintro ⟨n, v⟩ hy
    exact (S.par n (List.of_mem_zip hy).1).elim .inl fun q => .inr ⟨q, PySem.W.cellsFrom_some _ _ _ (.inl q)⟩
  refine codeAny_call_function room.depth (KX _ _ lk) rfl S.co S.gen rfl (PySem.W.codeRec_of KX hcd) (bi _ _ _ _ (wpAny_newFunctionEnv_cells S.kind kinds fun env he s1 x => ?_))
  subst he
  refine ⟨nl.keeps x.toInCall.keep, codeAny_func ?_⟩
  obtain ⟨t, ht, hq⟩ := hb cdv A outer s H vs Q E (guards_deeper.trans gA) (room.deeper _) wish
  have I : Inv (cxOf CX P w K mg base N qual (defScope st) f cdv A outer s H E) [] (start N vs) H s1 := inv_start S room.hd e0 (hlen _ _ _ _ wish) rv x
  refine wpAny_mono (ht.run [] s1 (start N vs) H _ I hq) (fun fl s' hs => ?_) fun e s' hs => hs
  cases fl with
  | ret u =>
    obtain ⟨v, σ', H', J, rv', q⟩ := hs
    exact ⟨v, H', J.os, J.bare, J.base, J.hok, rv', q⟩
  | next =>
    obtain ⟨σ', H', J, q⟩ := hs
    exact ⟨.non, H', J.os, J.bare, J.base, J.hok, rfl, q⟩
  | brk => exact (hs.elim fun _ z => z.elim fun _ z => z.2 : False).elim
  | cont => exact (hs.elim fun _ z => z.elim fun _ z => z.2 : False).elim
end

section
variable {X : Cx} {CX : CXT} {k : Nat} {f C : Addr} {fd : FuncData} {ps ks : List Str} {sp : Sp} {dvs : List V} {dus : List Value} {E : XK} {x m : Str} {p pos apos : Pos} {e o : Expr} {es : List Expr} {kws : List Keyword} {ta : TE} {t tk : TA}
omit [Grd] in
theorem run_g {pins : List (Addr × Obj)} {σ : L2.St} {H : Hp} {s : Shared} {Q : VK} {us all : List Value} {kw : List (Str × Value)} {vs : List V} (F : FnG X.prog X.w X.K X.mg X.base CX k f fd ps sp) (gd : X.A.guards = some []) (hr : Room k X.A) (hx : Passes CX X E)
    (I : Inv X pins σ H s) (r : Vals vs all) (hb : BindsTo s fd ⟨us, kw⟩ (ps.zip all)) (h : sp vs H Q E) : wpAny (model X.prog X.w) X.A (call (.ref f) us kw) (EP X pins σ Q) X.xe s := by
  refine wpAny_call (codeAny_mono (F.go X.A X.stack s H ⟨us, kw⟩ all vs Q E gd hr I.env0 hb r h) fun res s' hq => ?_)
  match res, hq with
  | .error e, hq => exact hx pins σ H s e s' I hq
  | .ok (.ret u), hq => exact I.after hq
  | .ok .next, hq => exact hq.elim
  | .ok .brk, hq => exact hq.elim
  | .ok .cont, hq => exact hq.elim
omit [Grd] in
/-- f(e, ..) -/
theorem pg_call (F : FnG X.prog X.w X.K X.mg X.base CX k f fd ps sp) (gd : X.A.guards = some []) (hr : Room k X.A) (hg : Gl X x) (hm : X.mg x = some (.ref f)) (hk : PySem.W.keepIn X.K (.ref f) = true) (hb : Binds X.K fd ps dus) (hd : Vals dvs dus) (hx : Passes CX X E)
    (ha : PA X (e :: es) t) (hdb : (x == ("__debug__" : Str)) = false := by decide) (he : starEach (e :: es) X.env = (false, eval e X.env) :: starEach es X.env := by rfl) (hpl : (backTo pos (starEach es X.env)).any (·.1) = false := by rfl) :
    PE X (.Call (.Name x p) (e :: es) [] pos) (tCall sp dvs E t) := ⟨fun pins s σ H Q I h =>
  wpAny_Call_Name_kw (ld_glob I hg hm (PySem.W.callWith_K (h₀ := X.base) I.ok.mod.kin hk (thn (ha.run pos pins s σ H _ I h) fun us s1 ⟨vs, H1, I1, r, q⟩ => ⟨I1.kIn, by
    have r2 : Vals (vs ++ dvs) (us ++ dus) := r.append hd
    exact run_g F gd hr hx I1 r2 (hb s1 us I1.kIn (by rw [← r2.length]; exact F.nlen _ _ _ _ q)) q⟩) he hpl) hdb)⟩
omit [Grd] in
/-- f() -/
theorem pg_call0 (F : FnG X.prog X.w X.K X.mg X.base CX k f fd ps sp) (gd : X.A.guards = some []) (hr : Room k X.A) (hg : Gl X x) (hm : X.mg x = some (.ref f)) (hk : PySem.W.keepIn X.K (.ref f) = true) (hb : Binds X.K fd ps dus) (hd : Vals dvs dus) (hx : Passes CX X E)
    (hdb : (x == ("__debug__" : Str)) = false := by decide) : PE X (.Call (.Name x p) [] [] pos) (tCall sp dvs E tNil) := ⟨fun pins s σ H Q I h =>
  wpAny_Call_Name_kw (ld_glob I hg hm (PySem.W.callWith_K0 I.kIn hk (run_g (us := []) F gd hr hx I hd (hb s [] I.kIn (by rw [List.nil_append, ← hd.length]; exact F.nlen _ _ _ _ h)) h)) hdb)⟩
variable {g : List Value → List Value → List Value} {gV : List V → List V → List V}
omit [Grd] in
/-- f(e, .., k = v, ..) -/
theorem pg_callK (F : FnG X.prog X.w X.K X.mg X.base CX k f fd ps sp) (gd : X.A.guards = some []) (hr : Room k X.A) (hg : Gl X x) (hm : X.mg x = some (.ref f)) (hk : PySem.W.keepIn X.K (.ref f) = true) (hb : KBinds X.K fd ps ks g gV) (hx : Passes CX X E)
    (ha : PA X (e :: es) t) (hkw : PK X kws tk) (hall : (backToKw pos (keywordEach kws X.env)).all (·.1.isSome) = true := by rfl) (hks : (backToKw pos (keywordEach kws X.env)).filterMap (·.1) = ks := by rfl)
    (hdb : (x == ("__debug__" : Str)) = false := by decide) (he : starEach (e :: es) X.env = (false, eval e X.env) :: starEach es X.env := by rfl)
    (hpl : ((backTo pos (starEach (e :: es) X.env)).any (·.1) || (backToKw pos (keywordEach kws X.env)).any (·.1.isNone)) = false := by rfl) :
    PE X (.Call (.Name x p) (e :: es) kws pos) (tCallK sp gV E t tk) := ⟨fun pins s σ H Q I h => by
  refine wpAny_Call_Name_kw (ld_glob I hg hm (PySem.W.callWith_KW (h₀ := X.base) I.ok.mod.kin hk hall (thn (ha.run pos pins s σ H _ I h) fun us s1 ⟨vs, H1, I1, r, q⟩ => thn (hkw.run pos pins s1 σ H1 _ I1 q) fun ws s2 ⟨zs, H2, I2, rz, q2⟩ => ⟨I2.kIn, ?_⟩) hpl he) hdb)
  have r2 := hb.rel r rz
  rw [hks]
  exact run_g F gd hr hx I2 r2 (hb.to s2 us ws I2.kIn (by rw [← r2.length]; exact F.nlen _ _ _ _ q2)) q2⟩
omit [Grd] in
/-- f(k = v, ..) -/
theorem pg_callK0 (F : FnG X.prog X.w X.K X.mg X.base CX k f fd ps sp) (gd : X.A.guards = some []) (hr : Room k X.A) (hg : Gl X x) (hm : X.mg x = some (.ref f)) (hk : PySem.W.keepIn X.K (.ref f) = true) (hb : KBinds X.K fd ps ks g gV) (hx : Passes CX X E)
    (hkw : PK X kws tk) (hall : (backToKw pos (keywordEach kws X.env)).all (·.1.isSome) = true := by rfl) (hks : (backToKw pos (keywordEach kws X.env)).filterMap (·.1) = ks := by rfl)
    (hdb : (x == ("__debug__" : Str)) = false := by decide)
    (hpl : ((backTo pos (starEach [] X.env)).any (·.1) || (backToKw pos (keywordEach kws X.env)).any (·.1.isNone)) = false := by rfl) :
    PE X (.Call (.Name x p) [] kws pos) (tCallK sp gV E tNil tk) := ⟨fun pins s σ H Q I h => by
  refine wpAny_Call_Name_kw (ld_glob I hg hm (PySem.W.callWith_KW0 (h₀ := X.base) I.ok.mod.kin hk hall (thn (hkw.run pos pins s σ H _ I h) fun ws s2 ⟨zs, H2, I2, rz, q2⟩ => ⟨I2.kIn, ?_⟩) hpl) hdb)
  have r2 := hb.rel .nil rz
  rw [hks]
  exact run_g (us := []) F gd hr hx I2 r2 (hb.to s2 [] ws I2.kIn (by rw [← r2.length]; exact F.nlen _ _ _ _ q2)) q2⟩
end

/-! a def's meaning at the data level -/
abbrev RD := List D → Mp → DK → Prop
def SpD (K : PySem.W.Frag) (n : Nat) (R : RD) : Sp := fun vs H Q _ => ∃ ds M F, ds.length = n ∧ Dts K (hid M H) vs ds ∧ @HpOk Grd.triv K M H ∧ R ds M F ∧ @AftE Grd.triv K M H F Q
def startD (n : Nat) (ds : List D) : Ds := ds.map some ++ List.replicate (n - ds.length) none
omit [Grd] in
theorem env_start {K : PySem.W.Frag} {M : Mp} {H : Hp} {N : List Str} {vs : List V} {ds : List D} (h : Dts K (hid M H) vs ds) : Env K M H (start N vs) (startD N.length ds) := by
  unfold L2.start startD
  refine ⟨by simp [h.length], fun i d e => ?_⟩
  by_cases hi : i < ds.length
  · rw [List.getElem?_append_left (by simpa using hi), List.getElem?_map] at e
    cases q : ds[i]? with
    | none => rw [q] at e; cases e
    | some d' =>
      rw [q] at e
      cases e
      obtain ⟨v, e1, e2⟩ := h.get q
      refine ⟨v, ?_, e2⟩
      rw [List.getElem?_append_left (by simpa [h.length] using hi), List.getElem?_map, e1]
      rfl
  · rw [List.getElem?_append_right (by simpa using hi), List.getElem?_replicate] at e
    split at e <;> cases e
omit [Grd] in
/-- the rule for a def that raises nothing -/
theorem fnd {P : Program} {w : World} {K : PySem.W.Frag} {mg : Str → Option Value} {base : Heap} {k : Nat} {f : Addr} {fd : FuncData} {ps : List Str} {x qual : Str} {st : Stmt} {N : List Str} {R : RD} (Fu : Fun K x qual st f fd) (S : FnScope N ps (defScope st))
    (hb : ∀ (cdv : Value) (A : Around) (outer : List PySem.Env) (s : Shared) (H : Hp) (E : XK), (A.deeper (envOfC qual (defScope st) s.heap.objs.size f cdv)).guards = some [] → Room k (A.deeper (envOfC qual (defScope st) s.heap.objs.size f cdv)) →
      ∃ T : TSd, @DSs Grd.triv (cxOf CX0 P w K mg base N qual (defScope st) f cdv A outer s H E).nox (defBody st) T ∧ ∀ ds M F, ds.length = ps.length → R ds M F → T { nx := fun _ M' => F .non M', rt := F } (startD N.length ds) M) : FnG P w K mg base CX0 (k + 1) f fd ps (SpD K ps.length R) := by
  refine fng_of Fu S (fun vs H Q E h => ?_) (fun cdv A outer s H vs Q E g hr h => ?_)
  · obtain ⟨ds, M, F, e, d, _⟩ := h
    rw [d.length, e]
  · obtain ⟨ds, M, F, e, d, ok, r, a⟩ := h
    obtain ⟨T, hT, q⟩ := hb cdv A outer s H E g hr
    exact ⟨_, PSs.nox hT, startD N.length ds, M, _, env_start d, ok, q ds M F e r, @AftS.mk Grd.triv _ _ _ _ _ (fun ds' M' z σ' H' ev ok' l => a _ _ z _ _ ok' .non l) a (fun _ _ z => z.elim) (fun _ _ z => z.elim)⟩
/-- a call's reading -/
def callD (R : RD) (ta : TAd) : TEd := fun ds M F => ta ds M fun xs M1 => R xs M1 F
def callKD (R : RD) (gD : List D → List D → List D) (ta tk : TAd) : TEd := fun ds M F => ta ds M fun xs M1 => tk ds M1 fun ys M2 => R (gD xs ys) M2 F
def nilD : TAd := fun _ M F => F [] M
def consD (t : TEd) (u : TAd) : TAd := fun ds M F => t ds M fun d M1 => u ds M1 fun xs M2 => F (d :: xs) M2
section
variable {X : Cx} {k n : Nat} {f : Addr} {fd : FuncData} {ps ks : List Str} {R : RD} {x : Str} {p pos kpos : Pos} {e : Expr} {es : List Expr} {kws : List Keyword} {T : TEd} {U W : TAd} {nm : Option Str}
theorem da_nil : DA X [] nilD := pa_nil.fimp fun σ H Q ⟨ds, M, F, ev, ok, h, a⟩ => a _ _ h _ _ ok .nil (Lat.refl M H)
theorem emb_cons {K : PySem.W.Frag} {σ : L2.St} {H : Hp} {Q : List V → Hp → Prop} (h : embA K (consD T U) σ H Q) : tCons (emb K T) (embA K U) σ H Q := by
  obtain ⟨ds, M, F, ev, ok, h, a⟩ := h
  refine ⟨ds, M, _, ev, ok, h, fun d M1 h1 v H1 ok1 dt1 l1 => ⟨ds, M1, _, ev.mono l1, ok1, h1, fun xs M2 h2 vs H2 ok2 dts l2 => ?_⟩⟩
  exact a _ _ h2 _ _ ok2 (.cons (dt1.mono l2.same) dts) (l1.trans l2)
theorem da_cons (h : DE X e T) (r : DA X es U) (hs : starEach (e :: es) X.env = (false, eval e X.env) :: starEach es X.env := by rfl) : DA X (e :: es) (consD T U) := (pa_cons h r hs).fimp fun _ _ _ q => emb_cons q
theorem dq_nil : DQ X [] nilD := pk_nil.fimp fun σ H Q ⟨ds, M, F, ev, ok, h, a⟩ => a _ _ h _ _ ok .nil (Lat.refl M H)
theorem dq_cons (h : DE X e T) (r : DQ X kws U) : DQ X (⟨nm, e, kpos⟩ :: kws) (consD T U) := (pk_cons h r).fimp fun _ _ _ q => emb_cons q
theorem emb_call {K : PySem.W.Frag} {E : XK} {σ : L2.St} {H : Hp} {Q : VK} (hn : ∀ xs M F, R xs M F → xs.length = n) (h : emb K (callD R U) σ H Q) : tCall (SpD K n R) [] E (embA K U) σ H Q := by
  obtain ⟨ds, M, F, ev, ok, h, a⟩ := h
  refine ⟨ds, M, _, ev, ok, h, fun xs M1 h1 vs H1 ok1 dts l1 => ?_⟩
  show SpD K n R (vs ++ []) H1 Q E
  rw [List.append_nil]
  exact ⟨xs, M1, F, hn _ _ _ h1, dts, ok1.triv, h1, (a.later l1).triv ok1⟩
theorem de_call (G : FnG X.prog X.w X.K X.mg X.base CX0 k f fd ps (SpD X.K n R)) (hn : ∀ xs M F, R xs M F → xs.length = n) (gd : X.A.guards = some []) (hr : Room k X.A) (hg : Gl X x) (hm : X.mg x = some (.ref f)) (hk : PySem.W.keepIn X.K (.ref f) = true) (hb : Binds X.K fd ps [])
    (ha : DA X (e :: es) U) (hdb : (x == ("__debug__" : Str)) = false := by decide) (he : starEach (e :: es) X.env = (false, eval e X.env) :: starEach es X.env := by rfl) (hpl : (backTo pos (starEach es X.env)).any (·.1) = false := by rfl) :
    DE X (.Call (.Name x p) (e :: es) [] pos) (callD R U) := (pg_call (E := E0) G gd hr hg hm hk hb .nil pass0 ha hdb he hpl).fimp fun _ _ _ q => emb_call hn q
theorem emb_callK {K : PySem.W.Frag} {E : XK} {σ : L2.St} {H : Hp} {Q : VK} {gV : List V → List V → List V} {gD : List D → List D → List D} {t : TA} (hn : ∀ xs M F, R xs M F → xs.length = n) (hg : ∀ G vs ws xs ys, Dts K G vs xs → Dts K G ws ys → Dts K G (gV vs ws) (gD xs ys))
    (ht : ∀ σ H Q, embA K U σ H Q → t σ H Q) (h : emb K (callKD R gD U W) σ H Q) : tCallK (SpD K n R) gV E t (embA K W) σ H Q := by
  obtain ⟨ds, M, F, ev, ok, h, a⟩ := h
  refine ht _ _ _ ⟨ds, M, _, ev, ok, h, fun xs M1 h1 vs H1 ok1 dts1 l1 => ⟨ds, M1, _, ev.mono l1, ok1, h1, fun ys M2 h2 ws H2 ok2 dts2 l2 => ?_⟩⟩
  exact ⟨_, M2, F, hn _ _ _ h2, hg _ _ _ _ _ (dts1.mono l2.same) dts2, ok2.triv, h2, (a.later (l1.trans l2)).triv ok2⟩
variable {g : List Value → List Value → List Value} {gV : List V → List V → List V} {gD : List D → List D → List D}
theorem de_callK (G : FnG X.prog X.w X.K X.mg X.base CX0 k f fd ps (SpD X.K n R)) (hn : ∀ xs M F, R xs M F → xs.length = n) (gd : X.A.guards = some []) (hr : Room k X.A) (hg : Gl X x) (hm : X.mg x = some (.ref f)) (hk : PySem.W.keepIn X.K (.ref f) = true) (hb : KBinds X.K fd ps ks g gV)
    (hgd : ∀ G vs ws xs ys, Dts X.K G vs xs → Dts X.K G ws ys → Dts X.K G (gV vs ws) (gD xs ys)) (ha : DA X (e :: es) U) (hkw : DQ X kws W) (hall : (backToKw pos (keywordEach kws X.env)).all (·.1.isSome) = true := by rfl) (hks : (backToKw pos (keywordEach kws X.env)).filterMap (·.1) = ks := by rfl)
    (hdb : (x == ("__debug__" : Str)) = false := by decide) (he : starEach (e :: es) X.env = (false, eval e X.env) :: starEach es X.env := by rfl)
    (hpl : ((backTo pos (starEach (e :: es) X.env)).any (·.1) || (backToKw pos (keywordEach kws X.env)).any (·.1.isNone)) = false := by rfl) :
    DE X (.Call (.Name x p) (e :: es) kws pos) (callKD R gD U W) := (pg_callK (E := E0) G gd hr hg hm hk hb pass0 ha hkw hall hks hdb he hpl).fimp fun _ _ _ q => emb_callK hn hgd (fun _ _ _ z => z) q
theorem de_callK0 (G : FnG X.prog X.w X.K X.mg X.base CX0 k f fd ps (SpD X.K n R)) (hn : ∀ xs M F, R xs M F → xs.length = n) (gd : X.A.guards = some []) (hr : Room k X.A) (hg : Gl X x) (hm : X.mg x = some (.ref f)) (hk : PySem.W.keepIn X.K (.ref f) = true) (hb : KBinds X.K fd ps ks g gV)
    (hgd : ∀ G vs ws xs ys, Dts X.K G vs xs → Dts X.K G ws ys → Dts X.K G (gV vs ws) (gD xs ys)) (hkw : DQ X kws W) (hall : (backToKw pos (keywordEach kws X.env)).all (·.1.isSome) = true := by rfl) (hks : (backToKw pos (keywordEach kws X.env)).filterMap (·.1) = ks := by rfl)
    (hdb : (x == ("__debug__" : Str)) = false := by decide)
    (hpl : ((backTo pos (starEach [] X.env)).any (·.1) || (backToKw pos (keywordEach kws X.env)).any (·.1.isNone)) = false := by rfl) :
    DE X (.Call (.Name x p) [] kws pos) (callKD R gD nilD W) := (pg_callK0 (E := E0) G gd hr hg hm hk hb pass0 hkw hall hks hdb hpl).fimp fun _ _ _ q => emb_callK (t := tNil) hn hgd (fun _ H _ ⟨ds, M, F, ev, ok, h, a⟩ => a _ _ h _ _ ok .nil (Lat.refl M H)) q
end
end Fx

namespace Fx
open PySem PySem.Spec PyProof.Rows L2
variable [Grd]

theorem big_le {n : Nat} (h : n ≤ 1000000) : n ≤ sizeLine := Nat.le_trans h (by decide)
theorem big_lt {n : Nat} (h : n < 1000000) : n < sizeLine := Nat.lt_of_lt_of_le h (by decide)

/-! names and constants -/
def vD (i : Nat) : TEd := fun ds M F => match ds[i]? with
  | some (some d) => F d M
  | _ => False
def cD (d : D) : TEd := fun _ M F => F d M
section
variable {X : Cx} {x : Str} {pos : Pos}
theorem dv (i : Nat) (hN : X.N[i]? = some x := by rfl) (hv : Vis X.env.scope x := by first | exact Or.inl rfl | exact Or.inr (Or.inl rfl) | exact Or.inr (Or.inr rfl)) (hd : (x == ("__debug__" : Str)) = false := by decide)
    (hcd : (x == ("__classdict__" : Str)) = false := by decide) : DE X (.Name x pos) (vD i) := (pe_var (i := i) hN hv hd hcd).fimp fun σ H Q ⟨ds, M, F, ev, ok, h, a⟩ => by
  unfold vD at h
  split at h
  · next d e =>
    obtain ⟨v, e1, e2⟩ := ev.2 i d e
    exact ⟨v, e1, a _ _ h _ _ ok e2 (Lat.refl M H)⟩
  · exact h.elim
theorem emb_c {K : PySem.W.Frag} {v : V} {d : D} (hd : ∀ G, Dt K G v d) : ∀ σ H Q, emb K (cD d) σ H Q → tC v σ H Q := fun σ H Q ⟨ds, M, F, ev, ok, h, a⟩ => a _ _ h _ _ ok (hd _) (Lat.refl M H)
theorem de_int {i : Int} {k : Nat} : DE X (.Constant (.int i) k pos) (cD (.int i)) := pe_int.fimp (emb_c fun _ => .int i)
theorem de_str {z : Str} {k : Nat} : DE X (.Constant (.str z) k pos) (cD (.str z)) := pe_str.fimp (emb_c fun _ => .str z)
theorem de_bl {b : Bool} {k : Nat} : DE X (.Constant (.bool b) k pos) (cD (.bl b)) := pe_bl.fimp (emb_c fun _ => .bl b)
theorem de_non {k : Nat} : DE X (.Constant .none k pos) (cD .non) := pe_non.fimp (emb_c fun _ => .non)
/-- a constant of the module -/
theorem de_glob {u : Value} {v : V} {d : D} (hg : Gl X x) (hm : X.mg x = some u) (r : RelV v u) (hd : ∀ G, Dt X.K G v d) (hdb : (x == ("__debug__" : Str)) = false := by decide) : DE X (.Name x pos) (cD d) := (pe_glob hg hm r hdb).fimp (emb_c hd)
end

/-! displays -/
def tupD (U : TAd) : TEd := fun ds M F => U ds M fun xs M1 => xs.length ≤ 1000000 ∧ F (.tup xs) M1
def lstD (U : TAd) : TEd := fun ds M F => U ds M fun xs M1 => xs.length ≤ 1000000 ∧ F (.lst xs) M1
section
variable {X : Cx} {es : List Expr} {U : TAd} {pos : Pos} {k : Nat}
theorem AftE.layT {K : PySem.W.Frag} {M : Mp} {H : Hp} {F : DK} {Q : VK} {vs : List V} {xs : List D} (a : AftE K M H F Q) (ok : HpOk K M H) (d : Dts K (hid M H) vs xs) (f : F (.tup xs) M) : ∀ p, H p = none → Q (.ref p) (upd H p (.tup vs)) := fun p np => by
  obtain ⟨ok2, l2⟩ := ok.lay (p := p) (o := .tup vs) np
  refine a _ _ f _ _ ok2 (.tup (.inl (.inl ?_)) (d.mono l2.same)) l2
  rw [hid_of (ok.free np)]
  exact upd_same
theorem AftE.layL {K : PySem.W.Frag} {M : Mp} {H : Hp} {F : DK} {Q : VK} {vs : List V} {xs : List D} (a : AftE K M H F Q) (ok : HpOk K M H) (d : Dts K (hid M H) vs xs) (f : F (.lst xs) M) : ∀ p, H p = none → Q (.ref p) (upd H p (.lst vs)) := fun p np => by
  obtain ⟨ok2, l2⟩ := ok.lay (p := p) (o := .lst vs) np
  refine a _ _ f _ _ ok2 (.lst ?_ (d.mono l2.same)) l2
  rw [hid_of (ok.free np)]
  exact upd_same
theorem de_tup (h : DA X es U) : DE X (.Tuple es k pos) (tupD U) := (pe_tup h).fimp fun σ H Q ⟨ds, M, F, ev, ok, h, a⟩ =>
  ⟨ds, M, _, ev, ok, h, fun xs M1 h1 vs H1 ok1 dts l1 => ⟨by rw [dts.length]; exact big_le h1.1, (a.later l1).layT ok1 dts h1.2⟩⟩
theorem de_lst (h : DA X es U) : DE X (.List es pos) (lstD U) := (pe_lst h).fimp fun σ H Q ⟨ds, M, F, ev, ok, h, a⟩ =>
  ⟨ds, M, _, ev, ok, h, fun xs M1 h1 vs H1 ok1 dts l1 => ⟨by rw [dts.length]; exact big_le h1.1, (a.later l1).layL ok1 dts h1.2⟩⟩
end

/-! two-place operations -/
abbrev R2d := D → D → Mp → DK → Prop
def opD (r : R2d) (T U : TEd) : TEd := fun ds M F => T ds M fun a M1 => U ds M1 fun b M2 => r a b M2 F
def up2 (K : PySem.W.Frag) (r : R2d) : R2 := fun x y H Q => ∃ a b M F, Dt K (hid M H) x a ∧ Dt K (hid M H) y b ∧ HpOk K M H ∧ r a b M F ∧ AftE K M H F Q
section
variable {X : Cx} {e e' : Expr} {op : Operator} {cop : CmpOp} {r : R2d} {T U : TEd} {pos : Pos}
theorem emb_op {K : PySem.W.Frag} : ∀ σ H Q, emb K (opD r T U) σ H Q → tOp (up2 K r) (emb K T) (emb K U) σ H Q := fun σ H Q ⟨ds, M, F, ev, ok, h, a⟩ =>
  ⟨ds, M, _, ev, ok, h, fun d M1 h1 v H1 ok1 dt1 l1 => ⟨ds, M1, _, ev.mono l1, ok1, h1, fun d2 M2 h2 v2 H2 ok2 dt2 l2 => ⟨d, d2, M2, F, dt1.mono l2.same, dt2, ok2, h2, a.later (l1.trans l2)⟩⟩⟩
theorem de_op (ho : OpR X (binaryOp op) (up2 X.K r)) (ha : DE X e T) (hb : DE X e' U) : DE X (.BinOp e op e' pos) (opD r T U) := (pe_op ho ha hb).fimp emb_op
theorem de_cmp (ho : OpR X (compareOp cop) (up2 X.K r)) (ha : DE X e T) (hb : DE X e' U) (hm : behindInMarks cop e' = false) : DE X (.Compare e [cop] [e'] pos) (opD r T U) := (pe_cmpR ho ha hb hm).fimp emb_op
theorem de_ix (ho : IxR X (up2 X.K r)) (ha : DE X e T) (hb : DE X e' U) (hs : PlainIx e') : DE X (.Subscript e e' pos) (opD r T U) := (pe_ix ho ha hb hs).fimp emb_op
end

def addR : R2d
  | .int i, .int j, M, F => F (.int (i + j)) M
  | .str x, .str y, M, F => x.length + y.length ≤ 1000000 ∧ F (.str (x ++ y)) M
  | .tup xs, .tup ys, M, F => xs.length + ys.length ≤ 1000000 ∧ F (.tup (xs ++ ys)) M
  | .lst xs, .lst ys, M, F => xs.length + ys.length ≤ 1000000 ∧ F (.lst (xs ++ ys)) M
  | _, _, _, _ => False
def subR : R2d
  | .int i, .int j, M, F => F (.int (i - j)) M
  | _, _, _, _ => False
def mulR : R2d
  | .int i, .int j, M, F => ((-(2 ^ 64) < i ∧ i < 2 ^ 64) ∨ (-(2 ^ 64) < j ∧ j < 2 ^ 64)) ∧ F (.int (i * j)) M
  | .lst xs, .int k, M, F => 0 ≤ k ∧ k ≤ 1000000 ∧ xs.length * k.toNat ≤ 1000000 ∧ F (.lst (List.replicate k.toNat xs).flatten) M
  | _, _, _, _ => False
def fdivR : R2d
  | .int i, .int j, M, F => (0 < j ∧ j < 1073741824) ∧ F (.int (i / j)) M
  | _, _, _, _ => False
def modR : R2d
  | .int i, .int j, M, F => 0 < j ∧ F (.int (i % j)) M
  | _, _, _, _ => False
def powR : R2d
  | .int i, .int j, M, F => (0 ≤ j ∧ j ≤ 1000000 ∧ i.natAbs < 2 ^ 64) ∧ F (.int (i ^ j.toNat)) M
  | _, _, _, _ => False
section
variable {X : Cx}
theorem Dts.flat {K : PySem.W.Frag} {G : Hp} {vs : List V} {ds : List D} (h : Dts K G vs ds) : ∀ n : Nat, Dts K G (List.replicate n vs).flatten (List.replicate n ds).flatten
  | 0 => .nil
  | n + 1 => by
    rw [List.replicate_succ, List.replicate_succ, List.flatten_cons, List.flatten_cons]
    exact h.append (Dts.flat h n)
theorem or_add : OpR X (binaryOp .Add) (up2 X.K addR) := by
  intro pins s σ H x y v u Q I rx ry h
  obtain ⟨a, b, M, F, da, db, ok, h, af⟩ := h
  cases da <;> cases db <;> first | exact h.elim | skip
  · exact op_add pins s σ H _ _ v u Q I rx ry ⟨_, _, rfl, rfl, af _ _ h _ _ ok (.int _) (Lat.refl _ _)⟩
  · exact op_add_str pins s σ H _ _ v u Q I rx ry ⟨_, _, rfl, rfl, big_le h.1, af _ _ h.2 _ _ ok (.str _) (Lat.refl _ _)⟩
  · next h1 d1 _ _ _ h2 d2 =>
    exact op_cat pins s σ H _ _ v u Q I rx ry ⟨_, _, _, _, rfl, rfl, hid_sub _ _ h1, hid_sub _ _ h2, by rw [d1.length, d2.length]; exact big_le h.1, af.layL ok (d1.append d2) h.2⟩
  · next h1 d1 _ _ _ h2 d2 =>
    refine op_catA pins s σ H _ _ v u Q I rx ry ⟨_, _, _, _, rfl, rfl, sqT_same hid_sub h1, sqT_same hid_sub h2, by rw [d1.length, d2.length]; exact big_le h.1, fun e => ?_, fun _ e => ?_, fun _ _ => af.layT ok (d1.append d2) h.2⟩
    · subst e
      cases d1
      exact af _ _ h.2 _ _ ok (.tup h2 d2) (Lat.refl _ _)
    · subst e
      cases d2
      have h3 := h.2
      rw [List.append_nil] at h3
      exact af _ _ h3 _ _ ok (.tup h1 d1) (Lat.refl _ _)
theorem or_sub : OpR X (binaryOp .Sub) (up2 X.K subR) := by
  intro pins s σ H x y v u Q I rx ry h
  obtain ⟨a, b, M, F, da, db, ok, h, af⟩ := h
  cases da <;> cases db <;> first | exact h.elim | skip
  exact op_sub pins s σ H _ _ v u Q I rx ry ⟨_, _, rfl, rfl, af _ _ h _ _ ok (.int _) (Lat.refl _ _)⟩
theorem or_mul : OpR X (binaryOp .Mult) (up2 X.K mulR) := by
  intro pins s σ H x y v u Q I rx ry h
  obtain ⟨a, b, M, F, da, db, ok, h, af⟩ := h
  cases da <;> cases db <;> first | exact h.elim | skip
  · exact op_mul pins s σ H _ _ v u Q I rx ry ⟨_, _, rfl, rfl, h.1, af _ _ h.2 _ _ ok (.int _) (Lat.refl _ _)⟩
  · next h1 d1 k =>
    obtain ⟨k0, k1, k2, h⟩ := h
    exact op_rep pins s σ H _ _ v u Q I rx ry ⟨_, _, _, rfl, rfl, hid_sub _ _ h1, by omega, by omega, by rw [d1.length]; exact big_le k2, af.layL ok (d1.flat _) h⟩
theorem or_fdiv : OpR X (binaryOp .FloorDiv) (up2 X.K fdivR) := by
  intro pins s σ H x y v u Q I rx ry h
  obtain ⟨a, b, M, F, da, db, ok, h, af⟩ := h
  cases da <;> cases db <;> first | exact h.elim | skip
  exact op_fdiv pins s σ H _ _ v u Q I rx ry ⟨_, _, rfl, rfl, h.1, af _ _ h.2 _ _ ok (.int _) (Lat.refl _ _)⟩
theorem or_mod : OpR X (binaryOp .Mod) (up2 X.K modR) := by
  intro pins s σ H x y v u Q I rx ry h
  obtain ⟨a, b, M, F, da, db, ok, h, af⟩ := h
  cases da <;> cases db <;> first | exact h.elim | skip
  exact op_mod pins s σ H _ _ v u Q I rx ry ⟨_, _, rfl, rfl, h.1, af _ _ h.2 _ _ ok (.int _) (Lat.refl _ _)⟩
theorem or_pow : OpR X (binaryOp .Pow) (up2 X.K powR) := by
  intro pins s σ H x y v u Q I rx ry h
  obtain ⟨a, b, M, F, da, db, ok, h, af⟩ := h
  cases da <;> cases db <;> first | exact h.elim | skip
  exact op_pow pins s σ H _ _ v u Q I rx ry ⟨_, _, rfl, rfl, h.1, af _ _ h.2 _ _ ok (.int _) (Lat.refl _ _)⟩
end

/-! order of ints -/
def ltR (p : Int → Int → Bool) : R2d
  | .int i, .int j, M, F => F (.bl (p i j)) M
  | _, _, _, _ => False
section
variable {X : Cx} {p : Int → Int → Bool} {cop : CmpOp}
theorem or_cmpI (ho : OpR X (compareOp cop) (rI0 fun i j => .bl (p i j))) : OpR X (compareOp cop) (up2 X.K (ltR p)) := by
  intro pins s σ H x y v u Q I rx ry h
  obtain ⟨a, b, M, F, da, db, ok, h, af⟩ := h
  cases da <;> cases db <;> first | exact h.elim | skip
  exact ho pins s σ H _ _ v u Q I rx ry ⟨_, _, rfl, rfl, af _ _ h _ _ ok (.bl _) (Lat.refl _ _)⟩
theorem or_lt : OpR X (compareOp .Lt) (up2 X.K (ltR fun i j => decide (i < j))) := or_cmpI op_lt
theorem or_le : OpR X (compareOp .LtE) (up2 X.K (ltR fun i j => decide (i ≤ j))) := or_cmpI op_le
theorem or_gt : OpR X (compareOp .Gt) (up2 X.K (ltR fun i j => decide (j < i))) := or_cmpI op_gt
theorem or_ge : OpR X (compareOp .GtE) (up2 X.K (ltR fun i j => decide (j ≤ i))) := or_cmpI op_ge
end

/-! data as the kit's own -/
mutual
def py : D → PyData
  | .non => .none
  | .bl b => .bool b
  | .int i => .int i
  | .str x => .str x
  | .tup ds => .tuple (pys ds)
  | .lst ds => .list (pys ds)
  | .slst ds => .list (pys ds)
  | .dic kvs => .dict (pyk kvs)
  | .ref _ => .none
  | .ty _ => .none
  | .dtp _ _ => .none
  | .obj _ _ _ => .none
def pys : List D → List PyData
  | [] => []
  | d :: ds => py d :: pys ds
def pyk : List (Key × D) → List (PyData × PyData)
  | [] => []
  | (.inl i, d) :: ds => (.int i, py d) :: pyk ds
  | (.inr x, d) :: ds => (.str x, py d) :: pyk ds
end
mutual
/-- no address within, no dict -/
def flat : D → Bool
  | .tup ds => flats ds
  | .lst ds => flats ds
  | .slst ds => flats ds
  | .dic _ | .ref _ | .ty _ | .dtp _ _ | .obj _ _ _ => false
  | _ => true
def flats : List D → Bool
  | [] => true
  | d :: ds => flat d && flats ds
end
section
variable {K : PySem.W.Frag} {M : Mp} {H : Hp}
mutual
theorem Dt.dp : ∀ {v : V} {d : D}, Dt K (hid M H) v d → flat d = true → Dp K H v (py d)
  | _, _, .non, _ => .non
  | _, _, .bl b, _ => .bl b
  | _, _, .int i, _ => .int i
  | _, _, .str x, _ => .str x
  | _, _, .lst h1 h2, f => .lst (.inl (.inl (hid_sub _ _ h1))) (Dts.dp h2 (by simpa [flat] using f))
  | _, _, .slst h1 h2, f => .lst (Same.seq hid_sub h1) (Dts.dp h2 (by simpa [flat] using f))
  | _, _, .tup h1 h2, f => .tup (sqT_same hid_sub h1) (Dts.dp h2 (by simpa [flat] using f))
  | _, _, .dic _ _, f => by simp [flat] at f
  | _, _, .ref _, f => by simp [flat] at f
  | _, _, .ty _, f => by simp [flat] at f
  | _, _, .dtp _ _ _, f => by simp [flat] at f
  | _, _, .obj _ _ _, f => by simp [flat] at f
theorem Dts.dp : ∀ {vs : List V} {ds : List D}, Dts K (hid M H) vs ds → flats ds = true → DpAll K H vs (pys ds)
  | _, _, .nil, _ => .nil
  | _, _, .cons (d := d) (ds := ds) h1 h2, f => by
    have f' : flat d = true ∧ flats ds = true := by simpa [flats] using f
    rw [pys]
    exact .cons (Dt.dp h1 f'.1) (Dts.dp h2 f'.2)
end
end

/-! == and != -/
def okD (d : D) : Bool := flat d && SeqAt.shaped (py d)
def eqD (a b : D) : Bool := PyData.eqv (py a) (py b)
def eqR : R2d
  | .lst xs, .lst [], M, F => F (.bl xs.isEmpty) M
  | .int i, .int j, M, F => F (.bl (decide (i = j))) M
  | .str x, .str y, M, F => F (.bl (decide (x = y))) M
  | .tup xs, .tup [], M, F => F (.bl xs.isEmpty) M
  | .ref p, .lst [], M, F => match M p with
    | some (.lst xs) => F (.bl xs.isEmpty) M
    | _ => False
  | a, b, M, F => (okD a && okD b) = true ∧ F (.bl (eqD a b)) M
def neR : R2d
  | .lst xs, .lst [], M, F => F (.bl (!xs.isEmpty)) M
  | .int i, .int j, M, F => F (.bl (!decide (i = j))) M
  | .str x, .str y, M, F => F (.bl (!decide (x = y))) M
  | .tup xs, .tup [], M, F => F (.bl (!xs.isEmpty)) M
  | .ref p, .lst [], M, F => match M p with
    | some (.lst xs) => F (.bl (!xs.isEmpty)) M
    | _ => False
  | a, b, M, F => (okD a && okD b) = true ∧ F (.bl (!eqD a b)) M
section
variable {X : Cx} {pins : List (Addr × Obj)} {s : Shared} {σ : L2.St} {H : Hp} {Q : VK}
theorem eq_emp_t {l b : Addr} {xs : List V} (I : Inv X pins σ H s) (hu : X.A.units < cLine) (hl : SqT X.K H l xs) (hb : SqT X.K H b []) (q : Q (.bl xs.isEmpty) H) : wpAny (model X.prog X.w) X.A (compareOp .Eq (.ref l) (.ref b)) (EP X pins σ Q) X.xe s := by
  obtain ⟨its, rv, tl, _⟩ := I.tuple hl
  obtain ⟨its2, rv2, tl2, _⟩ := I.tuple hb
  cases rv2
  refine SeqAt.eq_tupleAt (e := fun _ => true) tl tl2 hu (fun j _ h2 => by simp at h2) ⟨.bl xs.isEmpty, H, I, ?_, q⟩
  show Value.bool _ = Value.bool _
  have e := rv.length
  cases xs <;> cases its <;> simp at e ⊢
theorem ne_emp_t {l b : Addr} {xs : List V} (I : Inv X pins σ H s) (hu : X.A.units < cLine) (hl : SqT X.K H l xs) (hb : SqT X.K H b []) (q : Q (.bl (!xs.isEmpty)) H) : wpAny (model X.prog X.w) X.A (compareOp .NotEq (.ref l) (.ref b)) (EP X pins σ Q) X.xe s := by
  obtain ⟨its, rv, tl, _⟩ := I.tuple hl
  obtain ⟨its2, rv2, tl2, _⟩ := I.tuple hb
  cases rv2
  refine SeqAt.RcNeAt.tuples (e := fun _ => true) tl tl2 hu (fun j _ h2 => by simp at h2) _ _ _ _ ⟨.bl (!xs.isEmpty), H, I, ?_, q⟩
  show Value.bool _ = Value.bool _
  have e := rv.length
  cases xs <;> cases its <;> simp at e ⊢
theorem eq_emp_l {l b : Addr} {xs : List V} (I : Inv X pins σ H s) (hu : X.A.units < cLine) (hl : SqL X.K H l xs) (hb : SqL X.K H b []) (q : Q (.bl xs.isEmpty) H) : wpAny (model X.prog X.w) X.A (compareOp .Eq (.ref l) (.ref b)) (EP X pins σ Q) X.xe s := by
  obtain ⟨its, rv, tl, _⟩ := I.list hl
  obtain ⟨its2, rv2, tl2, _⟩ := I.list hb
  cases rv2
  have e := rv.length
  cases xs with
  | nil =>
    cases its with
    | nil => exact SeqAt.eq_listAt (e := fun _ => true) tl.isList tl2.isList rfl hu (fun j _ h2 => by simp at h2) ⟨.bl true, H, I, rfl, q⟩
    | cons => simp at e
  | cons x xs =>
    cases its with
    | nil => simp at e
    | cons y its => exact SeqAt.eq_list_lengthsAt tl.isList tl2.isList (by simp) hu ⟨.bl false, H, I, rfl, q⟩
theorem ne_emp_l {l b : Addr} {xs : List V} (I : Inv X pins σ H s) (hu : X.A.units < cLine) (hl : SqL X.K H l xs) (hb : SqL X.K H b []) (q : Q (.bl (!xs.isEmpty)) H) : wpAny (model X.prog X.w) X.A (compareOp .NotEq (.ref l) (.ref b)) (EP X pins σ Q) X.xe s := by
  obtain ⟨its, rv, tl, _⟩ := I.list hl
  obtain ⟨its2, rv2, tl2, _⟩ := I.list hb
  cases rv2
  have e := rv.length
  cases xs with
  | nil =>
    cases its with
    | nil => exact SeqAt.RcNeAt.lists (e := fun _ => true) tl.isList tl2.isList rfl hu (fun j _ h2 => by simp at h2) _ _ _ _ ⟨.bl false, H, I, rfl, q⟩
    | cons => simp at e
  | cons x xs =>
    cases its with
    | nil => simp at e
    | cons y its => exact SeqAt.RcNeAt.lists_lengths tl.isList tl2.isList (by simp) hu _ _ _ _ ⟨.bl true, H, I, rfl, q⟩
theorem okD_and {a b : D} (h : (okD a && okD b) = true) : flat a = true ∧ flat b = true ∧ SeqAt.shaped (py a) = true ∧ SeqAt.shaped (py b) = true := by
  unfold okD at h
  simp only [Bool.and_eq_true] at h
  exact ⟨h.1.1, h.2.1, h.1.2, h.2.2⟩
theorem or_eq (hu : X.A.units + 64 < cLine) : OpR X (compareOp .Eq) (up2 X.K eqR) := by
  intro pins s σ H x y v u Q I rx ry h
  obtain ⟨a, b, M, F, da, db, ok, h, af⟩ := h
  unfold eqR at h
  split at h
  · cases da with
    | lst h1 d1 =>
      cases db with
      | lst h2 d2 =>
        cases d2
        cases rx
        cases ry
        refine eq_emp_l I (by omega) (.inl (.inl (hid_sub _ _ h1))) (.inl (.inl (hid_sub _ _ h2))) ?_
        refine af _ _ h _ _ ok ?_ (Lat.refl _ _)
        cases d1 with
        | nil => exact .bl true
        | cons => exact .bl false
  · cases da
    cases db
    refine op_eq pins s σ H _ _ v u Q I rx ry ⟨rfl, af _ _ h _ _ ok ?_ (Lat.refl _ _)⟩
    simp only [V.int.injEq]
    exact .bl _
  · cases da
    cases db
    refine op_eq pins s σ H _ _ v u Q I rx ry ⟨rfl, af _ _ h _ _ ok ?_ (Lat.refl _ _)⟩
    simp only [V.str.injEq]
    exact .bl _
  · cases da with
    | tup h1 d1 =>
      cases db with
      | tup h2 d2 =>
        cases d2
        cases rx
        cases ry
        refine eq_emp_t I (by omega) (sqT_same hid_sub h1) (sqT_same hid_sub h2) ?_
        have e := d1.length
        refine af _ _ h _ _ ok ?_ (Lat.refl _ _)
        rename_i xs' _ _
        cases d1 with
        | nil => exact .bl true
        | cons => exact .bl false
  · split at h
    · next e =>
      cases da
      obtain ⟨ys, e1, d1⟩ := ok _ _ e
      cases db with
      | lst h2 d2 =>
        cases d2
        cases rx
        cases ry
        refine eq_emp_l I (by omega) (.inl (.inl e1)) (.inl (.inl (hid_sub _ _ h2))) ?_
        refine af _ _ h _ _ ok ?_ (Lat.refl _ _)
        cases d1 with
        | nil => exact .bl true
        | cons => exact .bl false
    · exact h.elim
  · obtain ⟨h0, h⟩ := h
    obtain ⟨f1, f2, s1, s2⟩ := okD_and h0
    exact op_eqD hu pins s σ H x y v u Q I rx ry ⟨py a, py b, da.dp f1, db.dp f2, s1, s2, af _ _ h _ _ ok (.bl _) (Lat.refl _ _)⟩
theorem or_ne (hu : X.A.units + 64 < cLine) : OpR X (compareOp .NotEq) (up2 X.K neR) := by
  intro pins s σ H x y v u Q I rx ry h
  obtain ⟨a, b, M, F, da, db, ok, h, af⟩ := h
  unfold neR at h
  split at h
  · cases da with
    | lst h1 d1 =>
      cases db with
      | lst h2 d2 =>
        cases d2
        cases rx
        cases ry
        refine ne_emp_l I (by omega) (.inl (.inl (hid_sub _ _ h1))) (.inl (.inl (hid_sub _ _ h2))) ?_
        refine af _ _ h _ _ ok ?_ (Lat.refl _ _)
        cases d1 with
        | nil => exact .bl false
        | cons => exact .bl true
  · cases da
    cases db
    refine op_ne pins s σ H _ _ v u Q I rx ry ⟨rfl, af _ _ h _ _ ok ?_ (Lat.refl _ _)⟩
    simp only [V.int.injEq]
    exact .bl _
  · cases da
    cases db
    refine op_ne pins s σ H _ _ v u Q I rx ry ⟨rfl, af _ _ h _ _ ok ?_ (Lat.refl _ _)⟩
    simp only [V.str.injEq]
    exact .bl _
  · cases da with
    | tup h1 d1 =>
      cases db with
      | tup h2 d2 =>
        cases d2
        cases rx
        cases ry
        refine ne_emp_t I (by omega) (sqT_same hid_sub h1) (sqT_same hid_sub h2) ?_
        refine af _ _ h _ _ ok ?_ (Lat.refl _ _)
        cases d1 with
        | nil => exact .bl false
        | cons => exact .bl true
  · split at h
    · next e =>
      cases da
      obtain ⟨ys, e1, d1⟩ := ok _ _ e
      cases db with
      | lst h2 d2 =>
        cases d2
        cases rx
        cases ry
        refine ne_emp_l I (by omega) (.inl (.inl e1)) (.inl (.inl (hid_sub _ _ h2))) ?_
        refine af _ _ h _ _ ok ?_ (Lat.refl _ _)
        cases d1 with
        | nil => exact .bl false
        | cons => exact .bl true
    · exact h.elim
  · obtain ⟨h0, h⟩ := h
    obtain ⟨f1, f2, s1, s2⟩ := okD_and h0
    exact op_neD hu pins s σ H x y v u Q I rx ry ⟨py a, py b, da.dp f1, db.dp f2, s1, s2, af _ _ h _ _ ok (.bl _) (Lat.refl _ _)⟩
end
end Fx

namespace Fx
open PySem PySem.Spec PyProof.Rows L2
variable [Grd]

/-! tests -/
def tstD (T : TEd) : TTd := fun ds M F => T ds M fun d M1 => match d with
  | .bl b => F b M1
  | _ => False
/-- by truth: a bool, a list, a tuple, None, an int -/
def truD (T : TEd) : TTd := fun ds M F => T ds M fun d M1 => match d with
  | .bl b => F b M1
  | .non => F false M1
  | .int i => F (i != 0) M1
  | .tup xs => F (!xs.isEmpty) M1
  | .lst xs => F (!xs.isEmpty) M1
  | _ => False
def andT (T U : TTd) : TTd := fun ds M F => T ds M fun b M1 => br b (U ds M1 F) (F false M1)
def orT (T U : TTd) : TTd := fun ds M F => T ds M fun b M1 => br b (F true M1) (U ds M1 F)
def notT (T : TTd) : TTd := fun ds M F => T ds M fun b M1 => F (!b) M1
def andV (T U : TEd) : TEd := fun ds M F => T ds M fun d M1 => match d with
  | .bl b => br b (U ds M1 F) (F (.bl false) M1)
  | _ => False
def orV (T U : TEd) : TEd := fun ds M F => T ds M fun d M1 => match d with
  | .bl b => br b (F (.bl true) M1) (U ds M1 F)
  | _ => False
def notV (T : TEd) : TEd := fun ds M F => T ds M fun d M1 => match d with
  | .bl b => F (.bl (!b)) M1
  | _ => False
def ifE (C : TTd) (T U : TEd) : TEd := fun ds M F => C ds M fun b M1 => br b (T ds M1 F) (U ds M1 F)
section
variable {X : Cx} {e a b c : Expr} {rest : List Expr} {T U : TEd} {A B C : TTd} {pos : Pos}
theorem dt_val (h : DE X e T) (he : ∀ whole, isTrue e X.env whole = (do let v ← whole; standAt e.pos; holding [v] (truthy v)) := by intro _; rfl) : DT X e (tstD T) := (pt_val h he).fimp fun σ H Q ⟨ds, M, F, ev, ok, h, af⟩ =>
  ⟨ds, M, _, ev, ok, h, fun d M1 h1 v H1 ok1 dt l1 => by
    cases d with
    | bl k =>
      cases dt
      exact ⟨k, rfl, af k M1 h1 H1 ok1 l1⟩
    | _ => exact h1.elim⟩
theorem dt_tru (h : DE X e T) (he : ∀ whole, isTrue e X.env whole = (do let v ← whole; standAt e.pos; holding [v] (truthy v)) := by intro _; rfl) : DT X e (truD T) := (pt_truth h he).fimp fun σ H Q ⟨ds, M, F, ev, ok, h, af⟩ =>
  ⟨ds, M, _, ev, ok, h, fun d M1 h1 v H1 ok1 dt l1 => by
    cases dt with
    | bl k => exact ⟨k, rfl, af _ M1 h1 H1 ok1 l1⟩
    | non => exact ⟨false, rfl, af _ M1 h1 H1 ok1 l1⟩
    | int i => exact ⟨_, rfl, af _ M1 h1 H1 ok1 l1⟩
    | tup q dd =>
      refine ⟨_, .inr (.inl ⟨_, sqT_same hid_sub q, rfl⟩), af _ M1 ?_ H1 ok1 l1⟩
      cases dd <;> exact h1
    | lst q dd =>
      refine ⟨_, .inl ⟨_, .inl (.inl (hid_sub _ _ q)), rfl⟩, af _ M1 ?_ H1 ok1 l1⟩
      cases dd <;> exact h1
    | _ => exact h1.elim⟩
theorem emb_andT {K : PySem.W.Frag} : ∀ σ H Q, embT K (andT A B) σ H Q → tAnd (embT K A) (embT K B) σ H Q := fun σ H Q ⟨ds, M, F, ev, ok, h, af⟩ =>
  ⟨ds, M, _, ev, ok, h, fun k M1 h1 H1 ok1 l1 => by
    cases k with
    | true => exact iteT ⟨ds, M1, F, ev.mono l1, ok1, h1, fun k M2 h2 H2 ok2 l2 => af k M2 h2 H2 ok2 (l1.trans l2)⟩
    | false => exact iteF (af _ M1 h1 H1 ok1 l1)⟩
theorem emb_orT {K : PySem.W.Frag} : ∀ σ H Q, embT K (orT A B) σ H Q → tOr (embT K A) (embT K B) σ H Q := fun σ H Q ⟨ds, M, F, ev, ok, h, af⟩ =>
  ⟨ds, M, _, ev, ok, h, fun k M1 h1 H1 ok1 l1 => by
    cases k with
    | false => exact iteF ⟨ds, M1, F, ev.mono l1, ok1, h1, fun k M2 h2 H2 ok2 l2 => af k M2 h2 H2 ok2 (l1.trans l2)⟩
    | true => exact iteT (af _ M1 h1 H1 ok1 l1)⟩
theorem dw_and1 (h : DT X a A) : DW X (.BoolOp .And [a] pos) A := pw_and1 h
theorem dw_or1 (h : DT X a A) : DW X (.BoolOp .Or [a] pos) A := pw_or1 h
theorem dw_and (h : DT X a A) (r : DW X (.BoolOp .And (b :: rest) pos) B) : DW X (.BoolOp .And (a :: b :: rest) pos) (andT A B) := (pw_and h r).fimp emb_andT
theorem dw_or (h : DT X a A) (r : DW X (.BoolOp .Or (b :: rest) pos) B) : DW X (.BoolOp .Or (a :: b :: rest) pos) (orT A B) := (pw_or h r).fimp emb_orT
theorem dt_w (h : DW X e A) : DT X e A := h.pt
theorem dt_not (h : DT X a A) : DT X (.UnaryOp .Not a pos) (notT A) := (pt_not h).fimp fun σ H Q ⟨ds, M, F, ev, ok, h, af⟩ => ⟨ds, M, _, ev, ok, h, fun k M1 h1 H1 ok1 l1 => af _ M1 h1 H1 ok1 l1⟩
theorem de_one {op : BoolOp} (h : DE X a T) : DE X (.BoolOp op [a] pos) T := pe_one h
theorem de_and (h : DE X a T) (r : DE X (.BoolOp .And (b :: rest) pos) U) : DE X (.BoolOp .And (a :: b :: rest) pos) (andV T U) := (pe_and h r).fimp fun σ H Q ⟨ds, M, F, ev, ok, h, af⟩ =>
  ⟨ds, M, _, ev, ok, h, fun d M1 h1 v H1 ok1 dt l1 => by
    cases dt with
    | bl k =>
      cases k with
      | true => exact ⟨true, rfl, iteT ⟨ds, M1, F, ev.mono l1, ok1, h1, af.later l1⟩⟩
      | false => exact ⟨false, rfl, iteF (af _ M1 h1 _ H1 ok1 (.bl false) l1)⟩
    | _ => exact h1.elim⟩
theorem de_or (h : DE X a T) (r : DE X (.BoolOp .Or (b :: rest) pos) U) : DE X (.BoolOp .Or (a :: b :: rest) pos) (orV T U) := (pe_or h r).fimp fun σ H Q ⟨ds, M, F, ev, ok, h, af⟩ =>
  ⟨ds, M, _, ev, ok, h, fun d M1 h1 v H1 ok1 dt l1 => by
    cases dt with
    | bl k =>
      cases k with
      | false => exact ⟨false, rfl, iteF ⟨ds, M1, F, ev.mono l1, ok1, h1, af.later l1⟩⟩
      | true => exact ⟨true, rfl, iteT (af _ M1 h1 _ H1 ok1 (.bl true) l1)⟩
    | _ => exact h1.elim⟩
theorem de_not (h : DE X a T) : DE X (.UnaryOp .Not a pos) (notV T) := (pe_not h).fimp fun σ H Q ⟨ds, M, F, ev, ok, h, af⟩ =>
  ⟨ds, M, _, ev, ok, h, fun d M1 h1 v H1 ok1 dt l1 => by
    cases dt with
    | bl k => exact ⟨k, rfl, af _ M1 h1 _ H1 ok1 (.bl _) l1⟩
    | _ => exact h1.elim⟩
theorem de_if (hc : DT X c C) (ha : DE X a T) (hb : DE X b U) : DE X (.IfExp c a b pos) (ifE C T U) := (pe_ifExp hc ha hb).fimp fun σ H Q ⟨ds, M, F, ev, ok, h, af⟩ =>
  ⟨ds, M, _, ev, ok, h, fun k M1 h1 H1 ok1 l1 => by
    cases k with
    | true => exact iteT ⟨ds, M1, F, ev.mono l1, ok1, h1, af.later l1⟩
    | false => exact iteF ⟨ds, M1, F, ev.mono l1, ok1, h1, af.later l1⟩⟩
end

/-! targets -/
inductive Tg where
  | nm (j : Nat)
  | tp (ts : List Tg)
mutual
def gV (K : PySem.W.Frag) : Tg → TG
  | .nm j => gName j
  | .tp ts => gTup K ts.length (gsV K ts)
def gsV (K : PySem.W.Frag) : List Tg → TGs
  | [] => gNil
  | t :: ts => gCons (gV K t) (gsV K ts)
end
mutual
def gD : Tg → D → Ds → (Ds → Prop) → Prop
  | .nm j, d, ds, F => F (ds.set j (some d))
  | .tp ts, .tup xs, ds, F => gsD ts xs ds F
  | .tp _, _, _, _ => False
def gsD : List Tg → List D → Ds → (Ds → Prop) → Prop
  | [], [], ds, F => F ds
  | t :: ts, x :: xs, ds, F => gD t x ds fun ds1 => gsD ts xs ds1 F
  | _, _, _, _ => False
end
mutual
def slots : Tg → List Nat
  | .nm j => [j]
  | .tp ts => slotss ts
def slotss : List Tg → List Nat
  | [] => []
  | t :: ts => slots t ++ slotss ts
end
theorem wipe_set {σ : L2.St} {j : Nat} {o : Option V} : ∀ {vs : List Nat}, j ∈ vs → wipe (σ.set j o) vs = wipe σ vs
  | [], h => by cases h
  | v :: vs, h => by
    unfold wipe
    by_cases e : j ∈ vs
    · rw [wipe_set e]
    · have e2 : j = v := by
        rcases List.mem_cons.mp h with z | z
        · exact z
        · exact absurd z e
      subst e2
      have : ∀ (ws : List Nat), j ∉ ws → wipe (σ.set j o) ws = (wipe σ ws).set j o := by
        intro ws
        induction ws with
        | nil => intro _; rfl
        | cons w ws ih =>
          intro hw
          unfold wipe
          rw [ih fun z => hw (List.mem_cons_of_mem _ z), List.set_comm]
          intro z
          exact hw (by rw [z]; exact List.mem_cons_self)
      rw [this vs e, List.set_set]
section
variable {K : PySem.W.Frag} {M : Mp} {H : Hp}
mutual
theorem gD_ok : ∀ (t : Tg) {d : D} {ds : Ds} {F : Ds → Prop} {v : V} {σ : L2.St} {Q : L2.St → Hp → Prop}, Dt K (hid M H) v d → Env K M H σ ds → gD t d ds F →
    (∀ ds' σ', F ds' → Env K M H σ' ds' → (∀ vs, (∀ j ∈ slots t, j ∈ vs) → wipe σ' vs = wipe σ vs) → Q σ' H) → gV K t v σ H Q
  | .nm j, d, ds, F, v, σ, Q, dt, ev, g, q => by
    unfold gV
    unfold gD at g
    exact q _ _ g (ev.set j dt) fun vs hv => wipe_set (hv j (by simp [slots]))
  | .tp ts, d, ds, F, v, σ, Q, dt, ev, g, q => by
    unfold gV
    cases dt <;> (unfold gD at g; first | exact g.elim | skip)
    next h1 d1 =>
      refine ⟨_, _, rfl, sqT_same hid_sub h1, ?_, gsD_ok ts d1 ev g fun ds' σ' f ev' w => q ds' σ' f ev' fun vs hv => w vs (by simpa [slots] using hv)⟩
      rw [d1.length]
      exact gsD_len ts _ g
theorem gsD_ok : ∀ (ts : List Tg) {xs : List D} {ds : Ds} {F : Ds → Prop} {vs : List V} {σ : L2.St} {Q : L2.St → Hp → Prop}, Dts K (hid M H) vs xs → Env K M H σ ds → gsD ts xs ds F →
    (∀ ds' σ', F ds' → Env K M H σ' ds' → (∀ ws, (∀ j ∈ slotss ts, j ∈ ws) → wipe σ' ws = wipe σ ws) → Q σ' H) → gsV K ts vs σ H Q
  | [], xs, ds, F, vs, σ, Q, dt, ev, g, q => by
    cases dt with
    | nil =>
      unfold gsV
      unfold gsD at g
      exact ⟨rfl, q ds σ g ev fun _ _ => rfl⟩
    | cons _ _ => unfold gsD at g; exact g.elim
  | t :: ts, xs, ds, F, vs, σ, Q, dt, ev, g, q => by
    cases dt with
    | nil => unfold gsD at g; exact g.elim
    | cons h1 h2 =>
      unfold gsV
      unfold gsD at g
      refine ⟨_, _, rfl, gD_ok t h1 ev g fun ds1 σ1 f1 ev1 w1 => gsD_ok ts h2 ev1 f1 fun ds2 σ2 f2 ev2 w2 => q ds2 σ2 f2 ev2 fun ws hw => ?_⟩
      rw [w2 ws fun j hj => hw j (by rw [slotss]; exact List.mem_append_right _ hj), w1 ws fun j hj => hw j (by rw [slotss]; exact List.mem_append_left _ hj)]
theorem gsD_len : ∀ (ts : List Tg) {ds : Ds} {F : Ds → Prop} (xs : List D), gsD ts xs ds F → xs.length = ts.length
  | [], _, _, [], _ => rfl
  | [], _, _, _ :: _, g => by unfold gsD at g; exact g.elim
  | _ :: _, _, _, [], g => by unfold gsD at g; exact g.elim
  | t :: ts, ds, F, x :: xs, g => by
    unfold gsD at g
    obtain ⟨ds', g'⟩ := gD_some t g
    rw [List.length_cons, List.length_cons, gsD_len ts xs g']
theorem gD_some : ∀ (t : Tg) {d : D} {ds : Ds} {F : Ds → Prop}, gD t d ds F → ∃ ds', F ds'
  | .nm j, d, ds, F, g => by
    unfold gD at g
    exact ⟨_, g⟩
  | .tp ts, .tup xs, ds, F, g => by
    unfold gD at g
    exact gsD_some ts g
  | .tp ts, .non, ds, F, g => by unfold gD at g; exact g.elim
  | .tp ts, .bl _, ds, F, g => by unfold gD at g; exact g.elim
  | .tp ts, .int _, ds, F, g => by unfold gD at g; exact g.elim
  | .tp ts, .str _, ds, F, g => by unfold gD at g; exact g.elim
  | .tp ts, .lst _, ds, F, g => by unfold gD at g; exact g.elim
  | .tp ts, .slst _, ds, F, g => by unfold gD at g; exact g.elim
  | .tp ts, .dic _, ds, F, g => by unfold gD at g; exact g.elim
  | .tp ts, .ref _, ds, F, g => by unfold gD at g; exact g.elim
  | .tp ts, .ty _, ds, F, g => by unfold gD at g; exact g.elim
  | .tp ts, .dtp _ _, ds, F, g => by unfold gD at g; exact g.elim
  | .tp ts, .obj _ _ _, ds, F, g => by unfold gD at g; exact g.elim
theorem gsD_some : ∀ (ts : List Tg) {xs : List D} {ds : Ds} {F : Ds → Prop}, gsD ts xs ds F → ∃ ds', F ds'
  | [], [], ds, F, g => by
    unfold gsD at g
    exact ⟨_, g⟩
  | [], _ :: _, _, _, g => by unfold gsD at g; exact g.elim
  | _ :: _, [], _, _, g => by unfold gsD at g; exact g.elim
  | t :: ts, x :: xs, ds, F, g => by
    unfold gsD at g
    obtain ⟨ds', g'⟩ := gD_some t g
    exact gsD_some ts g'
end
end

/-! statements -/
def nextD : TSd := fun B ds M => B.nx ds M
def seqD (T U : TSd) : TSd := fun B ds M => T { B with nx := U B } ds M
def asgD (T : TEd) (t : Tg) : TSd := fun B ds M => T ds M fun d M1 => gD t d ds fun ds1 => B.nx ds1 M1
def dropD (T : TEd) : TSd := fun B ds M => T ds M fun _ M1 => B.nx ds M1
def retD (T : TEd) : TSd := fun B ds M => T ds M B.rt
def retN : TSd := fun B _ M => B.rt .non M
def ifS (C : TTd) (T U : TSd) : TSd := fun B ds M => C ds M fun b M1 => br b (T B ds M1) (U B ds M1)
section
variable {X : Cx} {st : Stmt} {rest sa sb : List Stmt} {e c tg : Expr} {T : TEd} {C : TTd} {S U : TSd} {t : Tg} {pos : Pos}
theorem dss_nil : DSs X [] nextD := pss_nil.fimp fun E σ H ⟨ds, M, B, ev, ok, h, a⟩ => a.nx _ _ h _ _ ev ok (Lat.refl M H)
theorem dss_one (h : DS X st S) : DSs X [st] S := pss_one h
theorem dss_cons (h : DS X st S) (r : DSs X rest U) : DSs X (st :: rest) (seqD S U) := (pss_cons h r).fimp fun E σ H ⟨ds, M, B, ev, ok, h, a⟩ =>
  ⟨ds, M, _, ev, ok, h, ⟨fun ds' M' h' σ' H' ev' ok' l => ⟨ds', M', B, ev', ok', h', a.later l⟩, a.rt, a.bk, a.ct⟩⟩
theorem ds_set {x : Str} {pos' : Pos} (i : Nat) (hN : X.N.Nodup) (he : DE X e T) (hi : X.N[i]? = some x := by rfl) (hx : Loc X.env.scope x := by first | exact Or.inl rfl | exact Or.inr rfl) (hs : swapsWith e (some (.Name x pos')) pos.line X.env = pure false := by rfl) (hf : X.fn x = true ∨ X.env.scope.names.lookup x = some .local := by first | exact .inl rfl | exact .inr rfl | assumption) :
    DS X (.Assign [.Name x pos'] e pos) (asgD T (.nm i)) := (ps_set hN hi hx he hs hf).fimp fun E σ H ⟨ds, M, B, ev, ok, h, a⟩ =>
  ⟨ds, M, _, ev, ok, h, fun d M1 h1 v H1 ok1 dt l1 => a.nx _ _ h1 _ _ ((ev.mono l1).set i dt) ok1 l1⟩
theorem ds_asg (he : DE X e T) (hg : PG X tg (gV X.K t)) (hs : swapsWithSole [tg] e pos.line X.env = pure false := by rfl) (hw : swappedStores [tg] e X.env = pure none := by rfl)
    (h1 : (assignEach [tg] X.env).map (·.2) = [assign tg X.env] := by rfl) : DS X (.Assign [tg] e pos) (asgD T t) := (ps_asg he hg hs hw h1).fimp fun E σ H ⟨ds, M, B, ev, ok, h, a⟩ =>
  ⟨ds, M, _, ev, ok, h, fun d M1 h1 v H1 ok1 dt l1 => gD_ok t dt (ev.mono l1) h1 fun ds' σ' f ev' _ => a.nx _ _ f _ _ ev' ok1 l1⟩
theorem ds_expr (he : DE X e T) (hs : swapsWith e none pos.line X.env = pure false := by rfl) : DS X (.Expr e pos) (dropD T) := (ps_expr he hs).fimp fun E σ H ⟨ds, M, B, ev, ok, h, a⟩ =>
  ⟨ds, M, _, ev, ok, h, fun d M1 h1 v H1 ok1 dt l1 => a.nx _ _ h1 _ _ (ev.mono l1) ok1 l1⟩
theorem ds_ret (he : DE X e T) : DS X (.Return (some e) pos) (retD T) := (ps_ret he).fimp fun E σ H ⟨ds, M, B, ev, ok, h, a⟩ => ⟨ds, M, _, ev, ok, h, a.rt⟩
theorem ds_retN : DS X (.Return none pos) retN := ps_retN.fimp fun E σ H ⟨ds, M, B, ev, ok, h, a⟩ => a.rt _ _ h _ _ ok .non (Lat.refl M H)
theorem ds_pass : DS X (.Pass pos) nextD := ps_pass.fimp fun E σ H ⟨ds, M, B, ev, ok, h, a⟩ => a.nx _ _ h _ _ ev ok (Lat.refl M H)
theorem ds_if (hc : DT X c C) (ha : DSs X sa S) (hb : DSs X sb U) : DS X (.If c sa sb pos) (ifS C S U) := (ps_if hc ha hb).fimp fun E σ H ⟨ds, M, B, ev, ok, h, a⟩ =>
  ⟨ds, M, _, ev, ok, h, fun k M1 h1 H1 ok1 l1 => by
    cases k with
    | true => exact iteT ⟨ds, M1, B, ev.mono l1, ok1, h1, a.later l1⟩
    | false => exact iteF ⟨ds, M1, B, ev.mono l1, ok1, h1, a.later l1⟩⟩
/-- a, b = e1, e2 -/
def parD (i j : Nat) (U : TAd) : TSd := fun B ds M => U ds M fun xs M1 => match xs with
  | [a, b] => B.nx ((ds.set i (some a)).set j (some b)) M1
  | _ => False
theorem ds_par {x y : Str} {a b : Expr} {U : TAd} {px py pt : Pos} {kt k2 : Nat} {pt2 : Pos} (i j : Nat) (hc : X.calm = true) (hN : X.N.Nodup) (hij : i ≠ j) (ha : DA X [a, b] U) (hi : X.N[i]? = some x := by rfl) (hj : X.N[j]? = some y := by rfl)
    (hx : X.env.scope.names.lookup x = some .local := by rfl) (hy : X.env.scope.names.lookup y = some .local := by rfl)
    (hw : swappedStores [.Tuple [.Name x px, .Name y py] kt pt] (.Tuple [a, b] k2 pt2) X.env = pure (some [x, y]) := by rfl)
    (hs : swapsWithSole [.Tuple [.Name x px, .Name y py] kt pt] (.Tuple [a, b] k2 pt2) pos.line X.env = pure false := by rfl) :
    DS X (.Assign [.Tuple [.Name x px, .Name y py] kt pt] (.Tuple [a, b] k2 pt2) pos) (parD i j U) := (ps_par hc hN hi hj hij hx hy ha hw hs).fimp fun E σ H ⟨ds, M, B, ev, ok, h, af⟩ =>
  ⟨ds, M, _, ev, ok, h, fun xs M1 h1 vs H1 ok1 dts l1 => by
    match xs, vs, dts, h1 with
    | [d1, d2], [v1, v2], .cons e1 (.cons e2 .nil), h1 => exact ⟨v1, v2, rfl, af.nx _ _ h1 _ _ (((ev.mono l1).set i e1).set j e2) ok1 l1⟩
    | [], _, _, h1 => exact h1.elim
    | [_], _, _, h1 => exact h1.elim
    | _ :: _ :: _ :: _, _, _, h1 => exact h1.elim⟩
end
section
variable {X : Cx} {e : Expr} {es : List Expr} {x : Str} {pos : Pos} {k : Nat} {t : Tg} {ts : List Tg}
theorem dg_nm (j : Nat) (hN : X.N.Nodup) (hi : X.N[j]? = some x := by rfl) (hx : Loc X.env.scope x := by first | exact Or.inl rfl | exact Or.inr rfl) (hf : X.fn x = true ∨ X.env.scope.names.lookup x = some .local := by first | exact .inl rfl | exact .inr rfl | assumption) : PG X (.Name x pos) (gV X.K (.nm j)) := by
  unfold gV
  exact pg_name hN hi hx hf
theorem dgs_nil : PGs X [] (gsV X.K []) := by unfold gsV; exact pgs_nil
theorem dgs_cons (h1 : PG X e (gV X.K t)) (h2 : PGs X es (gsV X.K ts)) (hs : (assignEach (e :: es) X.env).map (·.2) = assign e X.env :: (assignEach es X.env).map (·.2) := by rfl) : PGs X (e :: es) (gsV X.K (t :: ts)) := by
  unfold gsV
  exact pgs_cons h1 h2 hs
theorem dg_tp (hc : X.calm = true) (h : PGs X es (gsV X.K ts)) (hn : (assignEach es X.env).length = ts.length := by rfl) (hst : (assignEach es X.env).findIdx? (·.1) = none := by rfl) : PG X (.Tuple es k pos) (gV X.K (.tp ts)) := by
  unfold gV
  exact pg_tup hc h hn hst
end

/-! what is walked: its items are known ahead -/
abbrev TId := Ds → Mp → (List D → Mp → Prop) → Prop
def Walks (K : PySem.W.Frag) (J : It) (xs : List D) (M0 : Mp) (H0 : Hp) : Prop := ∀ (i : Nat) (M : Mp) (H : Hp), HpOk K M H → Lat M0 H0 M H →
  (∀ d, xs[i]? = some d → J.go i H ∧ ∀ x H', J.yld i H x H' → Dt K (hid M H') x d ∧ HpOk K M H' ∧ Lat M H M H') ∧ (i = xs.length → J.stop i H)
def embI (K : PySem.W.Frag) (T : TId) : TI := fun σ H R => ∃ ds M F, Env K M H σ ds ∧ HpOk K M H ∧ T ds M F ∧ ∀ xs M', F xs M' → ∀ H' J, HpOk K M' H' → Lat M H M' H' → Walks K J xs M' H' → R J H'
abbrev DI (X : Cx) (tg iter : Expr) (T : TId) : Prop := PI X tg iter (embI X.K T)
theorem _root_.L2.PI.fimp {X : Cx} {tg iter : Expr} {t u : TI} (h : PI X tg iter t) (i : ∀ σ H R, u σ H R → t σ H R) : PI X tg iter u := ⟨fun pins s σ H R I q => h.run pins s σ H R I (i σ H R q)⟩

def forD (T : TId) (t : Tg) (S : TSd) : TSd := fun B ds M => T ds M fun xs M1 => ∃ W : Nat → Ds → Mp → Prop, W 0 ds M1 ∧
  (∀ i d ds' M', xs[i]? = some d → W i ds' M' → gD t d ds' fun ds2 => S { B with nx := W (i + 1), ct := W (i + 1), bk := B.nx } ds2 M') ∧ ∀ ds' M', W xs.length ds' M' → B.nx ds' M'
theorem emb_for {K : PySem.W.Frag} {T : TId} {t : Tg} {S : TSd} : ∀ E σ H, embS K (forD T t S) E σ H → tFor (embI K T) (gV K t) (embS K S) E σ H := fun E σ H ⟨ds, M, B, ev, ok, h, a⟩ =>
  ⟨ds, M, _, ev, ok, h, fun xs M1 ⟨W, w0, wt, wd⟩ H1 J ok1 l1 wk =>
    ⟨fun i m σ' H' => m = xs.length - i ∧ i ≤ xs.length ∧ ∃ ds' M', W i ds' M' ∧ Env K M' H' σ' ds' ∧ HpOk K M' H' ∧ Lat M1 H1 M' H', ⟨xs.length, by simp, Nat.zero_le _, ds, M1, w0, ev.mono l1, ok1, Lat.refl _ _⟩, fun i m σ' H' ⟨em, hi, ds', M', w', ev', ok', l'⟩ => by
      obtain ⟨wgo, wstop⟩ := wk i M' H' ok' l'
      by_cases hlt : i < xs.length
      · obtain ⟨go, yl⟩ := wgo xs[i] (by simp [hlt])
        refine .inr ⟨go, fun σ2 H2 => ∃ ds2 M2, W (i + 1) ds2 M2 ∧ Env K M2 H2 σ2 ds2 ∧ HpOk K M2 H2 ∧ Lat M1 H1 M2 H2, fun σ2 H2 ⟨ds2, M2, w2, ev2, ok2, l2⟩ => ⟨xs.length - (i + 1), by omega, rfl, hlt, ds2, M2, w2, ev2, ok2, l2⟩, fun x H2 y => ?_⟩
        obtain ⟨dt, ok2, l2⟩ := yl x H2 y
        refine gD_ok t dt (ev'.mono l2) (wt i xs[i] ds' M' (by simp [hlt]) w') fun ds3 σ3 f3 ev3 _ => ⟨ds3, M', _, ev3, ok2, f3, ?_⟩
        have lt : Lat M1 H1 M' H2 := l'.trans l2
        exact ⟨fun ds4 M4 w4 σ4 H4 ev4 ok4 l4 => ⟨ds4, M4, w4, ev4, ok4, lt.trans l4⟩, a.rt.later (l1.trans lt), fun ds4 M4 b4 σ4 H4 ev4 ok4 l4 => a.nx _ _ b4 _ _ ev4 ok4 ((l1.trans lt).trans l4), fun ds4 M4 w4 σ4 H4 ev4 ok4 l4 => ⟨ds4, M4, w4, ev4, ok4, lt.trans l4⟩⟩
      · have e : i = xs.length := by omega
        subst e
        exact .inl ⟨wstop rfl, a.nx _ _ (wd _ _ w') _ _ ev' ok' (l1.trans l')⟩⟩⟩
theorem ds_for {X : Cx} {tg iter : Expr} {body : List Stmt} {T : TId} {t : Tg} {S : TSd} {pos : Pos} (hp : PassesOwn (model X.prog X.w) X.A X.env X.xe) (hc : X.calm = true) (hi : DI X tg iter T) (hg : PG X tg (gV X.K t)) (hb : DSs X body S)
    (hs : ∀ x, foldedSetIterable iter X.env x = pure x := by intro _; rfl) : DS X (.For tg iter body [] pos) (forD T t S) := (ps_for hp hc hi hg hb hs).fimp emb_for

/-! while: W by a measure -/
def whileD (C : TTd) (S : TSd) : TSd := fun B ds M => ∃ W : Nat → Ds → Mp → Prop, (∃ m, W m ds M) ∧ ∀ m ds' M', W m ds' M' → C ds' M' fun b M1 => br b
  (S { B with nx := fun ds2 M2 => ∃ m', m' < m ∧ W m' ds2 M2, ct := fun ds2 M2 => ∃ m', m' < m ∧ W m' ds2 M2, bk := B.nx } ds' M1)
  (B.nx ds' M1)
theorem ds_while {X : Cx} {c : Expr} {body : List Stmt} {C : TTd} {S : TSd} {pos : Pos} (hp : PassesOwn (model X.prog X.w) X.A X.env X.xe) (hc : DT X c C) (hb : DSs X body S) : DS X (.While c body [] pos) (whileD C S) := (ps_while hp hc hb).fimp fun E σ H ⟨ds, M, B, ev, ok, ⟨W, ⟨m0, w0⟩, wt⟩, a⟩ =>
  ⟨fun m σ' H' => ∃ ds' M', W m ds' M' ∧ Env X.K M' H' σ' ds' ∧ HpOk X.K M' H' ∧ Lat M H M' H', ⟨m0, ds, M, w0, ev, ok, Lat.refl _ _⟩, fun m σ' H' ⟨ds', M', w', ev', ok', l'⟩ =>
    ⟨ds', M', _, ev', ok', wt m ds' M' w', fun b M1 h1 H1 ok1 l1 => by
      have lt := l'.trans l1
      cases b with
      | true =>
        refine iteT ⟨fun σ2 H2 => ∃ ds2 M2, (∃ m', m' < m ∧ W m' ds2 M2) ∧ Env X.K M2 H2 σ2 ds2 ∧ HpOk X.K M2 H2 ∧ Lat M H M2 H2, fun σ2 H2 ⟨ds2, M2, ⟨m', hm, w2⟩, ev2, ok2, l2⟩ => ⟨m', hm, ds2, M2, w2, ev2, ok2, l2⟩, ds', M1, _, ev'.mono l1, ok1, h1, ?_⟩
        exact ⟨fun ds4 M4 w4 σ4 H4 ev4 ok4 l4 => ⟨ds4, M4, w4, ev4, ok4, lt.trans l4⟩, a.rt.later lt, fun ds4 M4 b4 σ4 H4 ev4 ok4 l4 => a.nx _ _ b4 _ _ ev4 ok4 (lt.trans l4), fun ds4 M4 w4 σ4 H4 ev4 ok4 l4 => ⟨ds4, M4, w4, ev4, ok4, lt.trans l4⟩⟩
      | false => exact iteF (a.nx _ _ h1 _ _ (ev'.mono l1) ok1 lt)⟩⟩
end Fx

namespace Fx
open PySem PySem.Spec PyProof.Rows L2
variable [Grd]

/-! items of a text -/
def signs (z : Str) : List D := z.cps.toList.map fun c => D.str ⟨#[c]⟩
/-- for x in e: a list, a tuple, a text -/
def seqI (T : TEd) : TId := fun ds M F => T ds M fun d M1 => match d with
  | .lst xs => F xs M1
  | .slst xs => F xs M1
  | .tup xs => F xs M1
  | .str z => F (signs z) M1
  | _ => False
def rngI (U : TAd) : TId := fun ds M F => U ds M fun xs M1 => match xs with
  | [.int n] => (-1000000 ≤ n ∧ n ≤ 1000000) ∧ F ((List.range n.toNat).map fun i => D.int (i : Nat)) M1
  | _ => False
def rng2I (U : TAd) : TId := fun ds M F => U ds M fun xs M1 => match xs with
  | [.int a, .int b] => (-1000000 ≤ a ∧ a ≤ 1000000 ∧ -1000000 ≤ b ∧ b ≤ 1000000) ∧ F ((List.range (b - a).toNat).map fun i => D.int (a + (i : Nat))) M1
  | _ => False
def enumL (k : Nat) : List D → List D
  | [] => []
  | d :: ds => .tup [.int (k : Nat), d] :: enumL (k + 1) ds
def enumI (U : TAd) : TId := fun ds M F => U ds M fun xs M1 => match xs with
  | [.lst xs] => F (enumL 0 xs) M1
  | [.slst xs] => F (enumL 0 xs) M1
  | _ => False
def zipL : List D → List D → List D
  | x :: xs, y :: ys => .tup [x, y] :: zipL xs ys
  | _, _ => []
def zipI (U : TAd) : TId := fun ds M F => U ds M fun xs M1 => match xs with
  | [.lst xs, .lst ys] => F (zipL xs ys) M1
  | _ => False
theorem enumL_get : ∀ (xs : List D) (k i : Nat), (enumL k xs)[i]? = (xs[i]?).map fun d => D.tup [.int ((k + i : Nat) : Int), d]
  | [], _, _ => by simp [enumL]
  | x :: xs, k, 0 => by simp [enumL]
  | x :: xs, k, i + 1 => by
    have := enumL_get xs (k + 1) i
    simp only [enumL, List.getElem?_cons_succ, this]
    congr 1
    funext d
    have e : k + 1 + i = k + (i + 1) := by omega
    rw [e]
theorem enumL_len : ∀ (xs : List D) (k : Nat), (enumL k xs).length = xs.length
  | [], _ => rfl
  | x :: xs, k => by simp [enumL, enumL_len xs]
theorem zipL_get : ∀ (xs ys : List D) (i : Nat) (d : D), (zipL xs ys)[i]? = some d → ∃ x y, xs[i]? = some x ∧ ys[i]? = some y ∧ d = .tup [x, y]
  | [], _, _, _, h => by simp [zipL] at h
  | _ :: _, [], _, _, h => by simp [zipL] at h
  | x :: xs, y :: ys, 0, d, h => by
    simp [zipL] at h
    exact ⟨x, y, rfl, rfl, h.symm⟩
  | x :: xs, y :: ys, i + 1, d, h => by
    simp only [zipL, List.getElem?_cons_succ] at h ⊢
    exact zipL_get xs ys i d h
theorem zipL_len : ∀ (xs ys : List D), (zipL xs ys).length = min xs.length ys.length
  | [], ys => by simp [zipL]
  | _ :: _, [] => by simp [zipL]
  | x :: xs, y :: ys => by simp [zipL, zipL_len xs ys]

section
variable {K : PySem.W.Frag}
theorem walks_l {a : Addr} {vs : List V} {xs : List D} {M0 : Mp} {H0 : Hp} (h : SqL K (hid M0 H0) a vs) (d : Dts K (hid M0 H0) vs xs) : Walks K (Itl K a) xs M0 H0 := fun i M H ok l => by
  have hq : SqL K H a vs := Same.seq hid_sub (Same.seq l.same h)
  refine ⟨fun x hx => ?_, fun e => ⟨vs, hq, by rw [d.length]; omega⟩⟩
  obtain ⟨v, e1, e2⟩ := d.get hx
  refine ⟨⟨vs, v, hq, e1⟩, fun y H' ⟨e, q⟩ => ?_⟩
  subst e
  have e3 := q vs hq
  rw [e1] at e3
  cases e3
  exact ⟨e2.mono l.same, ok, Lat.refl _ _⟩
theorem walks_t {a : Addr} {vs : List V} {xs : List D} {M0 : Mp} {H0 : Hp} (h : SqT K (hid M0 H0) a vs) (d : Dts K (hid M0 H0) vs xs) : Walks K (Itt K a) xs M0 H0 := fun i M H ok l => by
  have hq : SqT K H a vs := sqT_same hid_sub (sqT_same l.same h)
  refine ⟨fun x hx => ?_, fun e => ⟨vs, hq, by rw [d.length]; omega⟩⟩
  obtain ⟨v, e1, e2⟩ := d.get hx
  refine ⟨⟨vs, v, hq, e1⟩, fun y H' ⟨e, q⟩ => ?_⟩
  subst e
  have e3 := q vs hq
  rw [e1] at e3
  cases e3
  exact ⟨e2.mono l.same, ok, Lat.refl _ _⟩
theorem walks_s {z : Str} {M0 : Mp} {H0 : Hp} : Walks K (Its z) (signs z) M0 H0 := fun i M H ok l => by
  refine ⟨fun x hx => ?_, fun e => ?_⟩
  · unfold signs at hx
    rw [List.getElem?_map] at hx
    cases q : z.cps.toList[i]? with
    | none => rw [q] at hx; cases hx
    | some c =>
      rw [q] at hx
      cases hx
      have hi : i < z.cps.size := by
        have := (List.getElem?_eq_some_iff.mp q).1
        simpa using this
      refine ⟨hi, fun y H' ⟨e, c', hc, ey⟩ => ?_⟩
      subst e
      subst ey
      have e2 : z.cps.toList[i]? = some c' := by simpa using hc
      rw [q] at e2
      cases e2
      exact ⟨.str _, ok, Lat.refl _ _⟩
  · subst e
    show z.cps.size ≤ _
    unfold signs
    simp
theorem walks_r {lo : Int} {n : Nat} {M0 : Mp} {H0 : Hp} : Walks K (Itr lo n) ((List.range n).map fun i => D.int (lo + (i : Nat))) M0 H0 := fun i M H ok l => by
  refine ⟨fun x hx => ?_, fun e => ?_⟩
  · rw [List.getElem?_map] at hx
    cases q : (List.range n)[i]? with
    | none => rw [q] at hx; cases hx
    | some c =>
      rw [q] at hx
      obtain ⟨h1, h2⟩ := List.getElem?_eq_some_iff.mp q
      rw [List.getElem_range] at h2
      subst h2
      cases hx
      rw [List.length_range] at h1
      refine ⟨h1, fun y H' ⟨e, ey⟩ => ?_⟩
      subst e
      subst ey
      exact ⟨.int _, ok, Lat.refl _ _⟩
  · show n ≤ i
    rw [List.length_map, List.length_range] at e
    omega
theorem walks_e {a : Addr} {vs : List V} {xs : List D} {M0 : Mp} {H0 : Hp} (h : SqL K (hid M0 H0) a vs) (d : Dts K (hid M0 H0) vs xs) : Walks K (Ite K a) (enumL 0 xs) M0 H0 := fun i M H ok l => by
  have hq : SqL K H a vs := Same.seq hid_sub (Same.seq l.same h)
  refine ⟨fun x hx => ?_, fun e => ⟨vs, hq, by rw [enumL_len] at e; rw [d.length]; omega⟩⟩
  rw [enumL_get] at hx
  cases q : xs[i]? with
  | none => rw [q] at hx; cases hx
  | some x' =>
    rw [q] at hx
    cases hx
    obtain ⟨v, e1, e2⟩ := d.get q
    refine ⟨⟨vs, v, hq, e1⟩, fun y H' ⟨T, z, ey, nT, eH, hz⟩ => ?_⟩
    subst ey
    subst eH
    have e3 := hz vs hq
    rw [e1] at e3
    cases e3
    obtain ⟨ok2, l2⟩ := ok.lay (p := T) (o := .tup [.int (i : Nat), v]) nT
    refine ⟨.tup (xs := [.int (i : Nat), v]) (.inl (.inl ?_)) (.cons ?_ (.cons ((e2.mono l.same).mono l2.same) .nil)), ok2, l2⟩
    · rw [hid_of (ok.free nT)]
      exact upd_same
    · rw [Nat.zero_add]
      exact .int _
theorem walks_z {a b : Addr} {vs ws : List V} {xs ys : List D} {M0 : Mp} {H0 : Hp} (h : SqL K (hid M0 H0) a vs) (d : Dts K (hid M0 H0) vs xs) (h' : SqL K (hid M0 H0) b ws) (d' : Dts K (hid M0 H0) ws ys) : Walks K (Itz K a b) (zipL xs ys) M0 H0 := fun i M H ok l => by
  have hq : SqL K H a vs := Same.seq hid_sub (Same.seq l.same h)
  have hq' : SqL K H b ws := Same.seq hid_sub (Same.seq l.same h')
  refine ⟨fun x hx => ?_, fun e => ⟨vs, ws, hq, hq', by rw [zipL_len] at e; rw [d.length, d'.length]; omega⟩⟩
  obtain ⟨x1, y1, g1, g2, rfl⟩ := zipL_get _ _ _ _ hx
  obtain ⟨v, e1, e2⟩ := d.get g1
  obtain ⟨w, f1, f2⟩ := d'.get g2
  refine ⟨⟨vs, ws, v, w, hq, hq', e1, f1⟩, fun y H' ⟨T, z, z', ey, nT, eH, hz, hz'⟩ => ?_⟩
  subst ey
  subst eH
  have e3 := hz vs hq
  rw [e1] at e3
  cases e3
  have e4 := hz' ws hq'
  rw [f1] at e4
  cases e4
  obtain ⟨ok2, l2⟩ := ok.lay (p := T) (o := .tup [v, w]) nT
  refine ⟨.tup (.inl (.inl ?_)) (.cons ((e2.mono l.same).mono l2.same) (.cons ((f2.mono l.same).mono l2.same) .nil)), ok2, l2⟩
  rw [hid_of (ok.free nT)]
  exact upd_same
end

section
variable {X : Cx} {tg e e2 : Expr} {T : TEd} {U : TAd} {p pos tpos : Pos} {elts : List Expr} {kk : Nat}
theorem di_seq (he : DE X e T) : DI X tg e (seqI T) := ⟨fun pins s σ H R I ⟨ds, M, F, ev, ok, h, af⟩ =>
  thn (he.run pins s σ H (fun x H1 => (∃ a, x = .ref a ∧ (∃ xs, SqL X.K H1 a xs) ∧ R (Itl X.K a) H1) ∨ (∃ a, x = .ref a ∧ (∃ xs, SqT X.K H1 a xs) ∧ R (Itt X.K a) H1) ∨ ∃ z, x = .str z ∧ R (Its z) H1) I
      ⟨ds, M, _, ev, ok, h, fun d M1 h1 v H1 ok1 dt l1 => by
        cases dt with
        | lst q dd => exact .inl ⟨_, rfl, ⟨_, .inl (.inl (hid_sub _ _ q))⟩, af _ M1 h1 H1 _ ok1 l1 (walks_l (.inl (.inl q)) dd)⟩
        | slst q dd => exact .inl ⟨_, rfl, ⟨_, Same.seq hid_sub q⟩, af _ M1 h1 H1 _ ok1 l1 (walks_l q dd)⟩
        | tup q dd => exact .inr (.inl ⟨_, rfl, ⟨_, sqT_same hid_sub q⟩, af _ M1 h1 H1 _ ok1 l1 (walks_t q dd)⟩)
        | str z => exact .inr (.inr ⟨z, rfl, af _ M1 h1 H1 _ ok1 l1 walks_s⟩)
        | _ => exact h1.elim⟩) fun v s1 ⟨x, H1, I1, r1, q1⟩ => by
    rcases q1 with ⟨a, rfl, ⟨xs, hq⟩, q⟩ | ⟨a, rfl, ⟨xs, hq⟩, q⟩ | ⟨z, rfl, q⟩
    · cases r1
      obtain ⟨its, rv, pl, hz⟩ := I1.list hq
      exact wpAny_pyIter_list pl.isList (pi_one (tk := s1.toks) I1 _ (turn_list a _) ⟨_, Heap.get?_push_size _ rfl, rfl, rfl⟩ q)
    · cases r1
      obtain ⟨its, rv, pl, hz⟩ := I1.tuple hq
      exact wpAny_pyIter_tuple (show s1.heap.IsTuple a its.toArray from pl) (pi_one (tk := s1.toks) I1 _ (turn_tuple a _) ⟨_, Heap.get?_push_size _ rfl, rfl, rfl⟩ q)
    · obtain ⟨t, rfl⟩ := r1
      cases ha : z.cps.all (· < 128)
      · exact wpAny_pyIter_wide ha (pi_one (tk := s1.toks) I1 _ (turn_str _ z t "str_iterator" (.inr rfl)) ⟨_, Heap.get?_push_size _ rfl, rfl, rfl⟩ q)
      · exact wpAny_pyIter_ascii ha (pi_one (tk := s1.toks) I1 _ (turn_str _ z t "str_ascii_iterator" (.inl rfl)) ⟨_, Heap.get?_push_size _ rfl, rfl, rfl⟩ q)⟩
theorem di_rng1 (hg : Gl X "range") (hm : X.mg "range" = none) (ha : DA X [e] U) (hs : starEach [e] X.env = [(false, eval e X.env)] := by rfl) : DI X tg (.Call (.Name "range" p) [e] [] pos) (rngI U) := (pi_range1 hg hm ha hs).fimp fun σ H R ⟨ds, M, F, ev, ok, h, af⟩ =>
  ⟨ds, M, _, ev, ok, h, fun xs M1 h1 vs H1 ok1 dts l1 => by
    split at h1
    · next n =>
      cases dts with
      | cons d1 d2 =>
        cases d2
        cases d1
        refine ⟨n, rfl, by omega, by omega, af _ M1 h1.2 H1 _ ok1 l1 ?_⟩
        have := walks_r (K := X.K) (lo := 0) (n := n.toNat) (M0 := M1) (H0 := H1)
        simpa using this
    · exact h1.elim⟩
theorem di_rng2 (hg : Gl X "range") (hm : X.mg "range" = none) (ha : DA X [e, e2] U) (hs : starEach [e, e2] X.env = [(false, eval e X.env), (false, eval e2 X.env)] := by rfl) (hs2 : starEach [e2] X.env = [(false, eval e2 X.env)] := by rfl) :
    DI X tg (.Call (.Name "range" p) [e, e2] [] pos) (rng2I U) := (pi_range2 hg hm ha hs hs2).fimp fun σ H R ⟨ds, M, F, ev, ok, h, af⟩ =>
  ⟨ds, M, _, ev, ok, h, fun xs M1 h1 vs H1 ok1 dts l1 => by
    split at h1
    · next n m =>
      cases dts with
      | cons d1 d2 =>
        cases d2 with
        | cons d2 d3 =>
          cases d3
          cases d1
          cases d2
          exact ⟨n, m, rfl, ⟨by omega, by omega, by omega, by omega⟩, af _ M1 h1.2 H1 _ ok1 l1 walks_r⟩
    · exact h1.elim⟩
theorem di_enum (hg : Gl X "enumerate") (hm : X.mg "enumerate" = none) (ha : DA X [e] U) (hs : starEach [e] X.env = [(false, eval e X.env)] := by rfl) : DI X (.Tuple elts kk tpos) (.Call (.Name "enumerate" p) [e] [] pos) (enumI U) := (pi_enum hg hm ha hs).fimp fun σ H R ⟨ds, M, F, ev, ok, h, af⟩ =>
  ⟨ds, M, _, ev, ok, h, fun xs M1 h1 vs H1 ok1 dts l1 => by
    split at h1
    · cases dts with
      | cons d1 d2 =>
        cases d2
        cases d1 with
        | lst q dd => exact ⟨_, _, rfl, .inl (.inl (hid_sub _ _ q)), af _ M1 h1 H1 _ ok1 l1 (walks_e (.inl (.inl q)) dd)⟩
    · cases dts with
      | cons d1 d2 =>
        cases d2
        cases d1 with
        | slst q dd => exact ⟨_, _, rfl, Same.seq hid_sub q, af _ M1 h1 H1 _ ok1 l1 (walks_e q dd)⟩
    · exact h1.elim⟩
theorem di_zip (hg : Gl X "zip") (hm : X.mg "zip" = none) (ha : DA X [e, e2] U) (hs : starEach [e, e2] X.env = (false, eval e X.env) :: starEach [e2] X.env := by rfl) (hpl : (backTo pos (starEach [e2] X.env)).any (·.1) = false := by rfl) :
    DI X (.Tuple elts kk tpos) (.Call (.Name "zip" p) [e, e2] [] pos) (zipI U) := (pi_zip hg hm ha hs hpl).fimp fun σ H R ⟨ds, M, F, ev, ok, h, af⟩ =>
  ⟨ds, M, _, ev, ok, h, fun xs M1 h1 vs H1 ok1 dts l1 => by
    split at h1
    · cases dts with
      | cons d1 d2 =>
        cases d2 with
        | cons d2 d3 =>
          cases d3
          cases d1 with
          | lst q dd =>
            cases d2 with
            | lst q' dd' => exact ⟨_, _, _, _, rfl, .inl (.inl (hid_sub _ _ q)), .inl (.inl (hid_sub _ _ q')), af _ M1 h1 H1 _ ok1 l1 (walks_z (.inl (.inl q)) dd (.inl (.inl q')) dd')⟩
    · exact h1.elim⟩
end

/-! list comprehensions -/
def wipeD (ds : Ds) : List Nat → Ds
  | [] => ds
  | v :: vs => (wipeD ds vs).set v none
def yesD : TTd := fun _ M F => F true M
def lcD (T : TId) (t : Tg) (C : TTd) (E : TEd) (vs : List Nat) : TEd := fun ds M F => T ds M fun xs M1 => ∀ L, M1 L = none → ∃ W : Nat → List D → Mp → Prop, W 0 [] (updM M1 L (.lst [])) ∧
  (∀ i d acc M', xs[i]? = some d → W i acc M' → acc.length < 1000000 ∧ gD t d (wipeD ds vs) fun ds2 => C ds2 M' fun b M2 => br b
    (E ds2 M2 fun y M3 => M3 L = some (.lst acc) ∧ W (i + 1) (acc ++ [y]) (updM M3 L (.lst (acc ++ [y]))))
    (W (i + 1) acc M2)) ∧ ∀ acc M', W xs.length acc M' → M' L = some (.lst acc) ∧ F (.lst acc) (delM M' L)
theorem env_wipe {K : PySem.W.Frag} {M : Mp} {H : Hp} {σ : L2.St} {ds : Ds} (h : Env K M H σ ds) : ∀ vs : List Nat, Env K M H (wipe σ vs) (wipeD ds vs)
  | [] => h
  | v :: vs => by
    have ih := env_wipe h vs
    unfold wipe wipeD
    refine ⟨by rw [List.length_set, List.length_set]; exact ih.1, fun j u hj => ?_⟩
    rw [List.getElem?_set] at hj
    rw [List.getElem?_set]
    by_cases q : v = j
    · rw [if_pos q] at hj
      split at hj <;> cases hj
    · rw [if_neg q] at hj
      rw [if_neg q]
      exact ih.2 j u hj
abbrev DTs (X : Cx) (ifs : List Expr) (C : TTd) : Prop := PTs X ifs (embT X.K C)
theorem dts_nil {X : Cx} : DTs X [] yesD := ⟨fun pins s σ H Q I ⟨ds, M, F, ev, ok, h, af⟩ => pts_nil.run pins s σ H Q I (af _ _ h _ ok (Lat.refl _ _))⟩
theorem dts_one {X : Cx} {c : Expr} {C : TTd} (h : DT X c C) : DTs X [c] C := pts_one h

theorem emb_lc {K : PySem.W.Frag} {T : TId} {t : Tg} {C : TTd} {E : TEd} {vs : List Nat} (hv : ∀ j ∈ slots t, j ∈ vs) : ∀ σ H Q, emb K (lcD T t C E vs) σ H Q → tLc (embI K T) (gV K t) (embT K C) (emb K E) vs σ H Q := fun σ H Q ⟨ds, M, F, ev, ok, h, af⟩ =>
  ⟨ds, M, _, ev, ok, h, fun xs M1 h1 H1 J ok1 l1 wk L hL => by
    obtain ⟨W, w0, wt, wd⟩ := h1 L (ok1.free hL)
    obtain ⟨ok2, l2⟩ := ok1.put (p := L) (o := .lst []) (m := .lst []) (.inr hL) ⟨[], upd_same, .nil⟩
    refine ⟨fun i m H' => m = xs.length - i ∧ i ≤ xs.length ∧ ∃ acc M', W i acc M' ∧ HpOk K M' H' ∧ Lat M1 H1 M' H', ⟨xs.length, by simp, Nat.zero_le _, [], _, w0, ok2, l2⟩, fun i m H' ⟨em, hi, acc, M', w', ok', l'⟩ => ?_⟩
    obtain ⟨wgo, wstop⟩ := wk i M' H' ok' l'
    by_cases hlt : i < xs.length
    · obtain ⟨go, yl⟩ := wgo xs[i] (by simp [hlt])
      obtain ⟨hz, wt'⟩ := wt i xs[i] acc M' (by simp [hlt]) w'
      refine .inr ⟨go, fun H2 => ∃ acc2 M2, W (i + 1) acc2 M2 ∧ HpOk K M2 H2 ∧ Lat M1 H1 M2 H2, fun H2 ⟨acc2, M2, w2, ok2, l2⟩ => ⟨xs.length - (i + 1), by omega, rfl, hlt, acc2, M2, w2, ok2, l2⟩, fun x H2 y => ?_⟩
      obtain ⟨dt, ok3, l3⟩ := yl x H2 y
      have lt : Lat M1 H1 M' H2 := l'.trans l3
      refine gD_ok t dt (env_wipe (ev.mono (l1.trans lt)) vs) wt' fun ds3 σ3 f3 ev3 hw => ⟨?_, ds3, M', _, ev3, ok3, f3, fun b M3 h3 H3 ok4 l4 => ?_⟩
      · rw [hw vs hv]
        clear hw f3 ev3 dt y yl
        have : ∀ ws : List Nat, (∀ j ∈ ws, j ∈ vs) → wipe (wipe σ vs) ws = wipe σ vs := by
          intro ws
          induction ws with
          | nil => intro _; rfl
          | cons w ws ih =>
            intro hsub
            show (wipe (wipe σ vs) ws).set w none = wipe σ vs
            rw [ih fun j hj => hsub j (List.mem_cons_of_mem _ hj)]
            have hwm := hsub w List.mem_cons_self
            have key : ∀ us : List Nat, w ∈ us → (wipe σ us).set w none = wipe σ us := by
              intro us
              induction us with
              | nil => intro z; cases z
              | cons u us ih2 =>
                intro hu
                unfold wipe
                by_cases e : w = u
                · subst e
                  rw [List.set_set]
                · rw [List.set_comm _ _ (Ne.symm e), ih2 ((List.mem_cons.mp hu).resolve_left e)]
            exact key vs hwm
        exact this vs fun _ z => z
      · cases b with
        | true =>
          refine iteT ⟨ds3, M3, _, ev3.mono l4, ok4, h3, fun y M4 ⟨eL, w4⟩ v H4 ok5 dt5 l5 => ?_⟩
          obtain ⟨av, e1, e2⟩ := ok5 _ _ eL
          obtain ⟨ok6, l6⟩ := ok5.put (p := L) (o := .lst (av ++ [v])) (m := .lst (acc ++ [y])) (.inl (by rw [eL]; simp)) ⟨av ++ [v], upd_same, by
            have q : Same (hid M4 H4) (hid (updM M4 L (.lst (acc ++ [y]))) (upd H4 L (.lst (av ++ [v])))) := fun b o hb => by
              obtain ⟨n, e⟩ := hid_some hb
              have nb : b ≠ L := fun z => by rw [z, eL] at n; cases n
              rw [hid_of (by rw [updM_ne nb]; exact n), upd_ne nb]
              exact e
            exact (e2.append (.cons dt5 .nil)).mono q⟩
          exact ⟨av, e1, by rw [e2.length]; exact big_lt hz, _, _, w4, ok6, ((lt.trans l4).trans l5).trans l6⟩
        | false => exact iteF ⟨acc, M3, h3, ok4, lt.trans l4⟩
    · have e : i = xs.length := by omega
      subst e
      obtain ⟨eL, f⟩ := wd _ _ w'
      obtain ⟨av, e1, e2⟩ := ok' _ _ eL
      obtain ⟨ok3, l3⟩ := ok'.frz L
      refine .inl ⟨wstop rfl, af _ _ f _ _ ok3 (.lst ?_ (e2.mono l3.same)) ((l1.trans l').trans l3)⟩
      rw [hid_of delM_same]
      exact e1⟩
section
variable {X : Cx} {elt tg iter : Expr} {ifs : List Expr} {scope : Scope} {own : List (Str × Nat)} {pos : Pos} {T : TId} {t : Tg} {C : TTd} {E : TEd}
theorem de_lc (vs : List Nat) (hc : X.calm = true) (hN : X.N.Nodup) (hi : DI X tg iter T) (ok : BlkOk X.N X.env.scope scope own) (hv : ∀ j ∈ slots t, j ∈ own.map (·.2))
    (hg : ∀ (s : Shared) (H : Hp) (Ca : Addr) (cl : List (Str × Addr)) (fp : List Addr), PG (X.blk s H scope (compEnvC scope cl Ca X.env) fp) tg (gV X.K t)) (ht : ∀ (s : Shared) (H : Hp) (Ca : Addr) (cl : List (Str × Addr)) (fp : List Addr), DTs (X.blk s H scope (compEnvC scope cl Ca X.env) fp) ifs C)
    (he : ∀ (s : Shared) (H : Hp) (Ca : Addr) (cl : List (Str × Addr)) (fp : List Addr), DE (X.blk s H scope (compEnvC scope cl Ca X.env) fp) elt E) (hs : ∀ x, foldedSetIterable iter X.env x = pure x := by intro _; rfl) (hvs : own.map (·.2) = vs := by rfl) :
    DE X (.ListComp elt [⟨tg, iter, ifs, 0⟩] scope pos) (lcD T t C E vs) := by
  subst hvs
  exact (pe_lc hc hN hi ok hg ht he hs).fimp (emb_lc hv)
theorem ds_setLc {y : Str} {py spos : Pos} (vs : List Nat) (i : Nat) (hc : X.calm = true) (hN : X.N.Nodup) (hi : DI X tg iter T) (ok : BlkOk X.N X.env.scope scope own) (hv : ∀ j ∈ slots t, j ∈ own.map (·.2))
    (hg : ∀ (s : Shared) (H : Hp) (Ca : Addr) (cl : List (Str × Addr)) (fp : List Addr), PG (X.blk s H scope (compEnvC scope cl Ca X.env) fp) tg (gV X.K t)) (ht : ∀ (s : Shared) (H : Hp) (Ca : Addr) (cl : List (Str × Addr)) (fp : List Addr), DTs (X.blk s H scope (compEnvC scope cl Ca X.env) fp) ifs C)
    (he : ∀ (s : Shared) (H : Hp) (Ca : Addr) (cl : List (Str × Addr)) (fp : List Addr), DE (X.blk s H scope (compEnvC scope cl Ca X.env) fp) elt E) (hsw : swapsWith (.ListComp elt [⟨tg, iter, ifs, 0⟩] scope pos) (some (.Name y py)) spos.line X.env = pure true) (hy : X.N[i]? = some y := by rfl) (hyl : X.env.scope.names.lookup y = some .local := by rfl)
    (hs : ∀ x, foldedSetIterable iter X.env x = pure x := by intro _; rfl) (hvs : own.map (·.2) = vs := by rfl) :
    DS X (.Assign [.Name y py] (.ListComp elt [⟨tg, iter, ifs, 0⟩] scope pos) spos) (asgD (lcD T t C E vs) (.nm i)) := by
  subst hvs
  exact (ps_setLc hc hN hy hyl hsw hi ok hg ht he hs).fimp fun Z σ H ⟨ds, M, B, ev, ok, h, a⟩ => emb_lc hv σ H _ ⟨ds, M, _, ev, ok, h, fun d M1 h1 v H1 ok1 dt l1 => a.nx _ _ h1 _ _ ((ev.mono l1).set i dt) ok1 l1⟩
end
mutual
theorem gD_mono : ∀ (t : Tg) {d : D} {ds : Ds} {F F' : Ds → Prop}, (∀ x, F x → F' x) → gD t d ds F → gD t d ds F'
  | .nm j, d, ds, F, F', h, g => by
    unfold gD at g ⊢
    exact h _ g
  | .tp ts, .tup xs, ds, F, F', h, g => by
    unfold gD at g ⊢
    exact gsD_mono ts h g
  | .tp ts, .non, ds, F, F', h, g => by unfold gD at g; exact g.elim
  | .tp ts, .bl _, ds, F, F', h, g => by unfold gD at g; exact g.elim
  | .tp ts, .int _, ds, F, F', h, g => by unfold gD at g; exact g.elim
  | .tp ts, .str _, ds, F, F', h, g => by unfold gD at g; exact g.elim
  | .tp ts, .lst _, ds, F, F', h, g => by unfold gD at g; exact g.elim
  | .tp ts, .slst _, ds, F, F', h, g => by unfold gD at g; exact g.elim
  | .tp ts, .dic _, ds, F, F', h, g => by unfold gD at g; exact g.elim
  | .tp ts, .ref _, ds, F, F', h, g => by unfold gD at g; exact g.elim
  | .tp ts, .ty _, ds, F, F', h, g => by unfold gD at g; exact g.elim
  | .tp ts, .dtp _ _, ds, F, F', h, g => by unfold gD at g; exact g.elim
  | .tp ts, .obj _ _ _, ds, F, F', h, g => by unfold gD at g; exact g.elim
theorem gsD_mono : ∀ (ts : List Tg) {xs : List D} {ds : Ds} {F F' : Ds → Prop}, (∀ x, F x → F' x) → gsD ts xs ds F → gsD ts xs ds F'
  | [], [], ds, F, F', h, g => by
    unfold gsD at g ⊢
    exact h _ g
  | [], _ :: _, _, _, _, _, g => by unfold gsD at g; exact g.elim
  | _ :: _, [], _, _, _, _, g => by unfold gsD at g; exact g.elim
  | t :: ts, x :: xs, ds, F, F', h, g => by
    unfold gsD at g ⊢
    exact gD_mono t (fun ds1 g1 => gsD_mono ts h g1) g
end
/-- where neither the test nor the element changes anything -/
theorem lc_pure {T : TId} {t : Tg} {C : TTd} {E : TEd} {vs : List Nat} {ds : Ds} {M : Mp} {F : DK} {xs : List D} (keep : D → Bool) (v : D → D) (hl : xs.length ≤ 1000000) (hT : ∀ G : List D → Mp → Prop, G xs M → T ds M G)
    (he : ∀ d ∈ xs, gD t d (wipeD ds vs) fun ds2 => (∀ M' (G : Bool → Mp → Prop), G (keep d) M' → C ds2 M' G) ∧ (keep d = true → ∀ M' (G : DK), G (v d) M' → E ds2 M' G))
    (hF : F (.lst ((xs.filter keep).map v)) M) : lcD T t C E vs ds M F := by
  refine hT _ fun L hL => ⟨fun i acc M' => acc = ((xs.take i).filter keep).map v ∧ M' = updM M L (.lst acc), ⟨rfl, rfl⟩, fun i d acc M' hd ⟨e1, e2⟩ => ?_, fun acc M' ⟨e1, e2⟩ => ?_⟩
  · have hi : i < xs.length := (List.getElem?_eq_some_iff.mp hd).1
    have hlen : acc.length < 1000000 := by
      rw [e1, List.length_map]
      have h1 := List.length_filter_le keep (xs.take i)
      have h2 : (xs.take i).length ≤ i := by rw [List.length_take]; exact Nat.min_le_left _ _
      omega
    refine ⟨hlen, gD_mono t (fun ds2 ⟨hc, hE⟩ => hc M' _ ?_) (he d (List.mem_of_getElem? hd))⟩
    have et : xs.take (i + 1) = xs.take i ++ [d] := by rw [List.take_add_one, hd]; rfl
    cases hk : keep d with
    | true =>
      refine hE hk M' _ ⟨by rw [e2]; exact updM_same, ?_, ?_⟩
      · rw [et, List.filter_append, List.map_append, ← e1, List.filter_cons, if_pos hk]
        rfl
      · rw [e2]
        funext b
        unfold updM
        split <;> rfl
    | false =>
      refine ⟨?_, e2⟩
      rw [et, List.filter_append, List.map_append, ← e1, List.filter_cons, if_neg (by rw [hk]; decide)]
      show _ = _ ++ []
      rw [List.append_nil]
  · rw [List.take_length] at e1
    refine ⟨by rw [e2]; exact updM_same, ?_⟩
    have em : delM M' L = M := by
      rw [e2]
      funext b
      unfold delM updM
      by_cases z : b = L
      · rw [if_pos z, z, hL]
      · rw [if_neg z, if_neg z]
    rw [em, e1]
    exact hF
end Fx

namespace Fx
open PySem PySem.Spec PyProof.Rows L2
variable [Grd]

/-! dicts by keys -/
def valD (kvs : List (Key × D)) (k : Key) : Option D := (kvs.find? fun kv => decide (kv.1 = k)).map (·.2)
def putD (kvs : List (Key × D)) (k : Key) (v : D) : List (Key × D) :=
  if (kvs.any fun kv => decide (kv.1 = k)) = true then kvs.map (fun kv => if kv.1 = k then (kv.1, v) else kv) else kvs ++ [(k, v)]
section
variable {K : PySem.W.Frag} {G : Hp}
theorem Dtk.val : ∀ {xs : List (Key × V)} {ds : List (Key × D)} {k : Key} {d : D}, Dtk K G xs ds → valD ds k = some d → ∃ v, valV xs k = some v ∧ Dt K G v d
  | _, _, _, _, .nil, e => by simp [valD] at e
  | _, _, k, d, .cons (k := k') (v := v) (d := d') h1 h2, e => by
    unfold valD at e
    unfold valV
    rw [List.find?_cons] at e ⊢
    by_cases q : k' = k
    · simp only [q, decide_true] at e ⊢
      cases e
      exact ⟨v, rfl, h1⟩
    · simp only [q, decide_false] at e ⊢
      exact Dtk.val h2 e
theorem Dtk.any : ∀ {xs : List (Key × V)} {ds : List (Key × D)} {k : Key}, Dtk K G xs ds → (xs.any fun kv => decide (kv.1 = k)) = (ds.any fun kv => decide (kv.1 = k))
  | _, _, _, .nil => rfl
  | _, _, k, .cons h1 h2 => by
    rw [List.any_cons, List.any_cons, Dtk.any h2]
theorem Dtk.map : ∀ {xs : List (Key × V)} {ds : List (Key × D)} {k : Key} {v : V} {d : D}, Dtk K G xs ds → Dt K G v d → Dtk K G (xs.map fun kv => if kv.1 = k then (kv.1, v) else kv) (ds.map fun kv => if kv.1 = k then (kv.1, d) else kv)
  | _, _, _, _, _, .nil, _ => .nil
  | _, _, k, v, d, .cons (k := k') h1 h2, h => by
    rw [List.map_cons, List.map_cons]
    by_cases q : k' = k
    · simp only [q, if_true]
      exact .cons h (Dtk.map h2 h)
    · simp only [q, if_false]
      exact .cons h1 (Dtk.map h2 h)
theorem Dtk.append : ∀ {xs ys : List (Key × V)} {ds es : List (Key × D)}, Dtk K G xs ds → Dtk K G ys es → Dtk K G (xs ++ ys) (ds ++ es)
  | _, _, _, _, .nil, h => h
  | _, _, _, _, .cons h1 h2, h => .cons h1 (Dtk.append h2 h)
theorem Dtk.put {xs : List (Key × V)} {ds : List (Key × D)} {k : Key} {v : V} {d : D} (h : Dtk K G xs ds) (e : Dt K G v d) : Dtk K G (putK xs k v) (putD ds k d) := by
  unfold putK putD
  rw [h.any]
  split
  · exact h.map e
  · exact h.append (.cons e .nil)
theorem Dtk.length : ∀ {xs : List (Key × V)} {ds : List (Key × D)}, Dtk K G xs ds → xs.length = ds.length
  | _, _, .nil => rfl
  | _, _, .cons _ h2 => by rw [List.length_cons, List.length_cons, h2.length]
end

/-! e[i] -/
def atD (xs : List D) (i : Int) (F : D → Prop) : Prop := match atI xs i with
  | some d => F d
  | none => False
def keyD (kvs : List (Key × D)) (k : Key) (F : D → Prop) : Prop := match valD kvs k with
  | some d => F d
  | none => False
def ixR : R2d
  | .lst xs, .int i, M, F => atD xs i fun d => F d M
  | .tup xs, .int i, M, F => atD xs i fun d => F d M
  | .str z, .int i, M, F => z.length ≤ 1000000 ∧ match atI z.cps.toList i with
    | some c => F (.str ⟨#[c]⟩) M
    | none => False
  | .ref a, .int i, M, F => match M a with
    | some (.lst xs) => atD xs i fun d => F d M
    | _ => False
  | .ref a, .str k, M, F => match M a with
    | some (.dic kvs) => keyD kvs (.inr k) fun d => F d M
    | _ => False
  | _, _, _, _ => False
theorem Dts.atI {K : PySem.W.Frag} {G : Hp} {vs : List V} {ds : List D} {i : Int} {d : D} (h : Dts K G vs ds) (e : atI ds i = some d) : ∃ v, L2.atI vs i = some v ∧ Dt K G v d := by
  unfold L2.atI at e ⊢
  rw [h.length]
  cases q : ixN ds.length i with
  | none => rw [q] at e; cases e
  | some j =>
    rw [q] at e
    exact h.get e
section
variable {X : Cx}
theorem ix_dict (hu : X.A.units + 1 < cLine) : IxR X (fun x y H Q => ∃ a v, x = .ref a ∧ DGet H a y (some v) ∧ Q v H) := by
  intro value slice pins s σ H x y v u Q I rx ry h hs
  obtain ⟨a, z, rfl, g, q⟩ := h
  cases rx
  exact tail_any (dict_typeIs I g) PySem.F.slot_dict_getitem.lookup (d_getItem hu I g ry fun w' s3 I3 r3 => ⟨z, H, I3, r3, q⟩) hs
theorem or_ix (hu : X.A.units + 1 < cLine) : IxR X (up2 X.K ixR) := by
  intro value slice pins s σ H x y v u Q I rx ry h hs
  obtain ⟨a, b, M, F, da, db, ok, h, af⟩ := h
  cases da <;> cases db <;> first | exact h.elim | skip
  · next z i =>
    obtain ⟨hz, h⟩ := h
    split at h
    · next c e => exact ix_str value slice pins s σ H _ _ v u Q I rx ry ⟨z, i, c, rfl, rfl, big_le hz, e, af _ _ h _ _ ok (.str _) (Lat.refl _ _)⟩ hs
    · exact h.elim
  · next h1 d1 i =>
    replace h : atD _ _ _ := h
    unfold atD at h
    split at h
    · next e =>
      obtain ⟨w, e1, e2⟩ := d1.atI e
      exact ix_list value slice pins s σ H _ _ v u Q I rx ry ⟨_, _, _, w, rfl, rfl, .inl (.inl (hid_sub _ _ h1)), e1, af _ _ h _ _ ok e2 (Lat.refl _ _)⟩ hs
    · exact h.elim
  · next h1 d1 i =>
    replace h : atD _ _ _ := h
    unfold atD at h
    split at h
    · next e =>
      obtain ⟨w, e1, e2⟩ := d1.atI e
      exact ix_tup value slice pins s σ H _ _ v u Q I rx ry ⟨_, _, _, w, rfl, rfl, sqT_same hid_sub h1, e1, af _ _ h _ _ ok e2 (Lat.refl _ _)⟩ hs
    · exact h.elim
  · next a i =>
    simp only [ixR] at h
    split at h
    · next e =>
      obtain ⟨ys, e1, d1⟩ := ok _ _ e
      unfold atD at h
      split at h
      · next e3 =>
        obtain ⟨w, e4, e5⟩ := d1.atI e3
        exact ix_list value slice pins s σ H _ _ v u Q I rx ry ⟨_, _, _, w, rfl, rfl, .inl (.inl e1), e4, af _ _ h _ _ ok e5 (Lat.refl _ _)⟩ hs
      · exact h.elim
    · exact h.elim
  · next a k =>
    simp only [ixR] at h
    split at h
    · next e =>
      obtain ⟨ys, e1, d1⟩ := ok _ _ e
      unfold keyD at h
      split at h
      · next e3 =>
        obtain ⟨w, e4, e5⟩ := d1.val e3
        exact ix_dict hu value slice pins s σ H _ _ v u Q I rx ry ⟨a, w, rfl, by
          have g := DGet.k (k := .inr k) e1
          rw [e4] at g
          exact g, af _ _ h _ _ ok e5 (Lat.refl _ _)⟩ hs
      · exact h.elim
    · exact h.elim
end

/-! slices -/
def cutL {α : Type} (xs : List α) (lo hi : Option Int) : List α := (xs.drop (HT.sIx xs.length 0 lo)).take (HT.sIx xs.length xs.length hi - HT.sIx xs.length 0 lo)
theorem Dts.cut {K : PySem.W.Frag} {G : Hp} {vs : List V} {ds : List D} (lo hi : Option Int) (h : Dts K G vs ds) : Dts K G (cutV vs lo hi) (cutL ds lo hi) := by
  unfold cutV cutL
  rw [h.length]
  exact (h.drop _).take _
abbrev TOd := Ds → Mp → (Option Int → Mp → Prop) → Prop
def noO : TOd := fun _ M F => F none M
def someO (T : TEd) : TOd := fun ds M F => T ds M fun d M1 => match d with
  | .int i => F (some i) M1
  | _ => False
def slR : D → Option Int → Option Int → Mp → DK → Prop
  | .lst xs, lo, hi, M, F => F (.lst (cutL xs lo hi)) M
  | .slst xs, lo, hi, M, F => F (.lst (cutL xs lo hi)) M
  | .tup xs, lo, hi, M, F => F (.tup (cutL xs lo hi)) M
  | .str z, lo, hi, M, F => z.length ≤ 1000000 ∧ F (.str (cutS z lo hi)) M
  | _, _, _, _, _ => False
def sliD (T : TEd) (A B : TOd) : TEd := fun ds M F => T ds M fun d M1 => A ds M1 fun lo M2 => B ds M2 fun hi M3 => slR d lo hi M3 F
def embO (K : PySem.W.Frag) (T : TOd) : TO := fun σ H Q => ∃ ds M F, Env K M H σ ds ∧ HpOk K M H ∧ T ds M F ∧ ∀ b M', F b M' → ∀ H', HpOk K M' H' → Lat M H M' H' → Q b H'
abbrev DO (X : Cx) (e : Option Expr) (T : TOd) : Prop := PO X e (embO X.K T)
section
variable {X : Cx} {e : Expr} {lo hi : Option Expr} {T : TEd} {A B : TOd} {p2 pos : Pos}
theorem do_none : DO X none noO := ⟨fun pins s σ H Q I ⟨ds, M, F, ev, ok, h, af⟩ => po_none.run pins s σ H Q I (af _ _ h _ ok (Lat.refl _ _))⟩
theorem do_some (h : DE X e T) : DO X (some e) (someO T) := ⟨fun pins s σ H Q I ⟨ds, M, F, ev, ok, hh, af⟩ => (po_some h).run pins s σ H Q I ⟨ds, M, _, ev, ok, hh, fun d M1 h1 v H1 ok1 dt l1 => by
  cases dt with
  | int i => exact ⟨i, rfl, af _ _ h1 _ ok1 l1⟩
  | _ => exact h1.elim⟩⟩
theorem cut_all {α : Type} {xs : List α} {lo hi : Option Int} (h1 : HT.sIx xs.length 0 lo = 0) (h2 : HT.sIx xs.length xs.length hi = xs.length) : cutL xs lo hi = xs := by
  unfold cutL
  rw [h1, h2]
  simp
def rSl (K : PySem.W.Frag) : V → Option Int → Option Int → Hp → VK → Prop := fun x lo hi H Q => ∃ d M F, Dt K (hid M H) x d ∧ HpOk K M H ∧ slR d lo hi M F ∧ AftE K M H F Q
theorem sl_d : SlR X (rSl X.K) := by
  intro pins s σ H x v vl vu lo hi sl Q I rx hs pl pu h
  obtain ⟨d, M, F, dt, ok, h, af⟩ := h
  cases dt with
  | lst h1 d1 => exact sl_list pins s σ H _ v vl vu lo hi sl Q I rx hs pl pu ⟨_, _, rfl, .inl (.inl (hid_sub _ _ h1)), af.layL ok (d1.cut lo hi) h⟩
  | slst h1 d1 => exact sl_list pins s σ H _ v vl vu lo hi sl Q I rx hs pl pu ⟨_, _, rfl, Same.seq hid_sub h1, af.layL ok (d1.cut lo hi) h⟩
  | tup h1 d1 =>
    refine sl_tupA pins s σ H _ v vl vu lo hi sl Q I rx hs pl pu ⟨_, _, rfl, sqT_same hid_sub h1, fun ⟨z1, z2⟩ => ?_, fun _ => af.layT ok (d1.cut lo hi) h⟩
    rw [d1.length] at z1 z2
    have h2 := h
    simp only [slR] at h2
    rw [cut_all z1 z2] at h2
    exact af _ _ h2 _ _ ok (.tup h1 d1) (Lat.refl _ _)
  | str z => exact sl_str pins s σ H _ v vl vu lo hi sl Q I rx hs pl pu ⟨z, rfl, big_le h.1, af _ _ h.2 _ _ ok (.str _) (Lat.refl _ _)⟩
  | _ => exact h.elim
theorem de_sli (he : DE X e T) (ha : DO X lo A) (hb : DO X hi B) : DE X (.Subscript e (.Slice lo hi none p2) pos) (sliD T A B) := (pe_slice sl_d he ha hb).fimp fun σ H Q ⟨ds, M, F, ev, ok, h, af⟩ =>
  ⟨ds, M, _, ev, ok, h, fun d M1 h1 v H1 ok1 dt l1 => ⟨ds, M1, _, ev.mono l1, ok1, h1, fun o M2 h2 H2 ok2 l2 => ⟨ds, M2, _, (ev.mono l1).mono l2, ok2, h2, fun o2 M3 h3 H3 ok3 l3 => ⟨d, M3, F, (dt.mono l2.same).mono l3.same, ok3, h3, af.later ((l1.trans l2).trans l3)⟩⟩⟩⟩
/-- e[::-1] -/
def revD (T : TEd) : TEd := fun ds M F => T ds M fun d M1 => match d with
  | .lst xs => F (.lst xs.reverse) M1
  | .slst xs => F (.lst xs.reverse) M1
  | _ => False
/-- the same, as a list that may change -/
def revM (T : TEd) : TEd := fun ds M F => T ds M fun d M1 => match d with
  | .lst xs => ∀ p, M1 p = none → F (.ref p) (updM M1 p (.lst xs.reverse))
  | _ => False
theorem de_rev {k : Nat} {p1 p2 p3 : Pos} (he : DE X e T) : DE X (.Subscript e (.Slice none none (some (.UnaryOp .USub (.Constant (.int 1) k p1) p2)) p3) pos) (revD T) := (pe_revL he).fimp fun σ H Q ⟨ds, M, F, ev, ok, h, af⟩ =>
  ⟨ds, M, _, ev, ok, h, fun d M1 h1 v H1 ok1 dt l1 => by
    cases dt with
    | lst q dd => exact ⟨_, _, rfl, .inl (.inl (hid_sub _ _ q)), (af.later l1).layL ok1 dd.rev h1⟩
    | slst q dd => exact ⟨_, _, rfl, Same.seq hid_sub q, (af.later l1).layL ok1 dd.rev h1⟩
    | _ => exact h1.elim⟩
theorem AftE.layM {K : PySem.W.Frag} {M : Mp} {H : Hp} {F : DK} {Q : VK} {vs : List V} {xs : List D} (a : AftE K M H F Q) (ok : HpOk K M H) (d : Dts K (hid M H) vs xs) (f : ∀ p, M p = none → F (.ref p) (updM M p (.lst xs))) : ∀ p, H p = none → Q (.ref p) (upd H p (.lst vs)) := fun p np => by
  have e : Same (hid M H) (hid (updM M p (.lst xs)) (upd H p (.lst vs))) := fun b o hb => by
    obtain ⟨n, e⟩ := hid_some hb
    have nb : b ≠ p := ne_of_none e np
    rw [hid_of (by rw [updM_ne nb]; exact n), upd_ne nb]
    exact e
  obtain ⟨ok2, l2⟩ := ok.put (p := p) (o := .lst vs) (m := .lst xs) (.inr np) ⟨vs, upd_same, d.mono e⟩
  exact a _ _ (f p (ok.free np)) _ _ ok2 (.ref p) l2
theorem de_revM {k : Nat} {p1 p2 p3 : Pos} (he : DE X e T) : DE X (.Subscript e (.Slice none none (some (.UnaryOp .USub (.Constant (.int 1) k p1) p2)) p3) pos) (revM T) := (pe_revL he).fimp fun σ H Q ⟨ds, M, F, ev, ok, h, af⟩ =>
  ⟨ds, M, _, ev, ok, h, fun d M1 h1 v H1 ok1 dt l1 => by
    cases dt with
    | lst q dd => exact ⟨_, _, rfl, .inl (.inl (hid_sub _ _ q)), (af.later l1).layM ok1 dd.rev h1⟩
    | _ => exact h1.elim⟩
end

/-! built-in calls -/
abbrev RB := List D → Mp → DK → Prop
def bltD (r : RB) (U : TAd) : TEd := fun ds M F => U ds M fun xs M1 => r xs M1 F
def upC (K : PySem.W.Frag) (r : RB) : List V → Hp → VK → Prop := fun vs H Q => ∃ xs M F, Dts K (hid M H) vs xs ∧ HpOk K M H ∧ r xs M F ∧ AftE K M H F Q
section
variable {X : Cx} {x : Str} {p pos : Pos} {e : Expr} {es : List Expr} {U : TAd} {r : RB} {id T : String}
theorem emb_blt {K : PySem.W.Frag} : ∀ σ H Q, emb K (bltD r U) σ H Q → tCB (upC K r) (embA K U) σ H Q := fun σ H Q ⟨ds, M, F, ev, ok, h, af⟩ =>
  ⟨ds, M, _, ev, ok, h, fun xs M1 h1 vs H1 ok1 dts l1 => ⟨xs, M1, F, dts, ok1, h1, af.later l1⟩⟩
theorem de_blt (hc : CallR X (.builtin id) (upC X.K r)) (hg : Gl X x) (hm : X.mg x = none) (hv : bootBuiltins x = some (.builtin id)) (ha : DA X (e :: es) U) (hn : x ≠ "__name__" := by decide) (hdb : (x == ("__debug__" : Str)) = false := by decide)
    (he : starEach (e :: es) X.env = (false, eval e X.env) :: starEach es X.env := by rfl) (hpl : (backTo pos (starEach es X.env)).any (·.1) = false := by rfl) : DE X (.Call (.Name x p) (e :: es) [] pos) (bltD r U) := (pe_callB hc hg hm hv ha hn hdb he hpl).fimp emb_blt
theorem de_bltTy (hc : CallR X (.type T) (upC X.K r)) (hg : Gl X x) (hm : X.mg x = none) (hv : bootBuiltins x = some (.type T)) (ha : DA X (e :: es) U) (hn : x ≠ "__name__" := by decide) (hdb : (x == ("__debug__" : Str)) = false := by decide)
    (he : starEach (e :: es) X.env = (false, eval e X.env) :: starEach es X.env := by rfl) (hpl : (backTo pos (starEach es X.env)).any (·.1) = false := by rfl) : DE X (.Call (.Name x p) (e :: es) [] pos) (bltD r U) := (pe_callTy hc hg hm hv ha hn hdb he hpl).fimp emb_blt
/-- a built-in class by its name -/
theorem de_ty {n : String} (hg : Gl X x) (hm : X.mg x = none) (hv : bootBuiltins x = some (.type n)) (hn : x ≠ "__name__" := by decide) (hdb : (x == ("__debug__" : Str)) = false := by decide) : DE X (.Name x pos) (cD (.ty n)) := (pe_bltn (v := .ty n) hg hm hv rfl hn hdb).fimp (emb_c fun _ => .ty n)
end
theorem one_of {K : PySem.W.Frag} {G : Hp} {vs : List V} {d : D} (h : Dts K G vs [d]) : ∃ v, vs = [v] ∧ Dt K G v d := by
  cases h with
  | cons h1 h2 => cases h2; exact ⟨_, rfl, h1⟩
theorem two_of {K : PySem.W.Frag} {G : Hp} {vs : List V} {d e : D} (h : Dts K G vs [d, e]) : ∃ v w, vs = [v, w] ∧ Dt K G v d ∧ Dt K G w e := by
  cases h with
  | cons h1 h2 =>
    obtain ⟨w, rfl, h3⟩ := one_of h2
    exact ⟨_, w, rfl, h1, h3⟩
def lenR : RB
  | [.lst xs], M, F => F (.int xs.length) M
  | [.slst xs], M, F => F (.int xs.length) M
  | [.tup xs], M, F => F (.int xs.length) M
  | [.str z], M, F => z.length ≤ 1000000 ∧ F (.int z.length) M
  | [.ref a], M, F => match M a with
    | some (.lst xs) => F (.int xs.length) M
    | _ => False
  | _, _, _ => False
inductive Ty6 where
  | str | tup | int | bool | lst | dict
def Ty6.name : Ty6 → String
  | .str => "str"
  | .tup => "tuple"
  | .int => "int"
  | .bool => "bool"
  | .lst => "list"
  | .dict => "dict"
def isT : Ty6 → D → Option Bool
  | c, .non => some false
  | c, .bl _ => some (match c with | .bool => true | .int => true | _ => false)
  | c, .int _ => some (match c with | .int => true | _ => false)
  | c, .str _ => some (match c with | .str => true | _ => false)
  | c, .tup _ => some (match c with | .tup => true | _ => false)
  | c, .lst _ => some (match c with | .lst => true | _ => false)
  | c, .dic _ => some (match c with | .dict => true | _ => false)
  | _, _ => none
def isiR (c : Ty6) : RB
  | [d, .ty _], M, F => match isT c d with
    | some b => F (.bl b) M
    | none => False
  | _, _, _ => False
def isBl : D → Bool
  | .bl _ => true
  | _ => false
def getBl : D → Bool
  | .bl b => b
  | _ => false
def allR : RB
  | [.lst xs], M, F => xs.all isBl = true ∧ F (.bl (xs.all getBl)) M
  | _, _, _ => False
def anyR : RB
  | [.lst xs], M, F => xs.all isBl = true ∧ F (.bl (xs.any getBl)) M
  | _, _, _ => False
def tupleR : RB
  | [.lst xs], M, F => F (.tup xs) M
  | [.slst xs], M, F => F (.tup xs) M
  | [.tup xs], M, F => F (.tup xs) M
  | [.ref a], M, F => match M a with
    | some (.lst xs) => F (.tup xs) M
    | _ => False
  | _, _, _ => False
def listR : RB
  | [.lst xs], M, F => F (.lst xs) M
  | [.slst xs], M, F => F (.lst xs) M
  | [.tup xs], M, F => F (.lst xs) M
  | [.ref a], M, F => match M a with
    | some (.lst xs) => F (.lst xs) M
    | _ => False
  | _, _, _ => False
def ordR : RB
  | [.str z], M, F => match z.cps.toList with
    | [c] => F (.int (c : Nat)) M
    | _ => False
  | _, _, _ => False
theorem bls_of {K : PySem.W.Frag} {G : Hp} : ∀ {vs : List V} {xs : List D}, Dts K G vs xs → xs.all isBl = true → vs = (xs.map getBl).map V.bl
  | _, _, .nil, _ => rfl
  | _, _, .cons h1 h2, h => by
    rw [List.all_cons, Bool.and_eq_true] at h
    rw [List.map_cons, List.map_cons, ← bls_of h2 h.2]
    cases h1 <;> first | rfl | (exact absurd h.1 (by simp [isBl]))
section
variable {X : Cx}
theorem cb_len : CallR X (.builtin "len") (upC X.K lenR) := by
  intro pins s σ H vs us Q I rv h
  obtain ⟨xs, M, F, dts, ok, h, af⟩ := h
  unfold lenR at h
  split at h
  · obtain ⟨v, rfl, dt⟩ := one_of dts
    cases dt with
    | lst q dd => exact call_len pins s σ H _ us Q I rv ⟨_, _, rfl, .inl ⟨_, .inl (.inl (hid_sub _ _ q)), rfl⟩, by rw [dd.length]; exact af _ _ h _ _ ok (.int _) (Lat.refl _ _)⟩
  · obtain ⟨v, rfl, dt⟩ := one_of dts
    cases dt with
    | slst q dd => exact call_len pins s σ H _ us Q I rv ⟨_, _, rfl, .inl ⟨_, Same.seq hid_sub q, rfl⟩, by rw [dd.length]; exact af _ _ h _ _ ok (.int _) (Lat.refl _ _)⟩
  · obtain ⟨v, rfl, dt⟩ := one_of dts
    cases dt with
    | tup q dd => exact call_len pins s σ H _ us Q I rv ⟨_, _, rfl, .inr ⟨_, sqT_same hid_sub q, rfl⟩, by rw [dd.length]; exact af _ _ h _ _ ok (.int _) (Lat.refl _ _)⟩
  · obtain ⟨v, rfl, dt⟩ := one_of dts
    cases dt
    exact call_len pins s σ H _ us Q I rv ⟨_, _, rfl, ⟨big_le h.1, rfl⟩, af _ _ h.2 _ _ ok (.int _) (Lat.refl _ _)⟩
  · split at h
    · next e =>
      obtain ⟨v, rfl, dt⟩ := one_of dts
      cases dt
      obtain ⟨ys, e1, d1⟩ := ok _ _ e
      exact call_len pins s σ H _ us Q I rv ⟨_, _, rfl, .inl ⟨_, .inl (.inl e1), rfl⟩, by rw [d1.length]; exact af _ _ h _ _ ok (.int _) (Lat.refl _ _)⟩
    · exact h.elim
  · exact h.elim
theorem tyx_t {K : PySem.W.Frag} {H : Hp} {a : Addr} {xs : List V} (h : SqT K H a xs) : TyX K H (.ref a) (.type "tuple") := by
  rcases h with (h | ⟨o, h⟩) | ⟨o, _, _, h, c, _⟩
  · exact .base (.tup h)
  · exact .fTuple h
  · exact .kTuple h c
theorem cb_isi (c : Ty6) : CallR X (.builtin "isinstance") (fun vs H Q => ∃ v d M F, vs = [v, .ty c.name] ∧ Dt X.K (hid M H) v d ∧ HpOk X.K M H ∧ (match isT c d with | some b => F (.bl b) M | none => False) ∧ AftE X.K M H F Q) := by
  intro pins s σ H vs us Q I rv h
  obtain ⟨v, d, M, F, rfl, dt, ok, h, af⟩ := h
  have key : ∀ (t : String) (b : Bool), TyX X.K H v (.type t) → kitB t c.name = some b → F (.bl b) M → wpAny (model X.prog X.w) X.A (call (.builtin "isinstance") us) (EP X pins σ Q) X.xe s := fun t b ty e f =>
    call_isi pins s σ H _ us Q I rv ⟨_, _, .type t, .type c.name, b, rfl, .ty _, ty, kit_ty e, af _ _ f _ _ ok (.bl b) (Lat.refl _ _)⟩
  cases dt with
  | non => exact key "NoneType" _ (.base .non) (by cases c <;> decide +kernel) h
  | bl b => cases c <;> exact key "bool" _ (.base (.bl b)) (by decide +kernel) h
  | int i => cases c <;> exact key "int" _ (.base (.int i)) (by decide +kernel) h
  | str z => cases c <;> exact key "str" _ (.base (.str z)) (by decide +kernel) h
  | tup q dd => cases c <;> exact key "tuple" _ (tyx_t (sqT_same hid_sub q)) (by decide +kernel) h
  | lst q dd => cases c <;> exact key "list" _ (.base (.lst (hid_sub _ _ q))) (by decide +kernel) h
  | dic q dd => cases c <;> exact key "dict" _ (.base (.dK (hid_sub _ _ q))) (by decide +kernel) h
  | _ => exact h.elim
end
end Fx

namespace Fx
open PySem PySem.Spec PyProof.Rows L2
variable [Grd]

def isiD (c : Ty6) (T : TEd) : TEd := fun ds M F => T ds M fun d M1 => match isT c d with
  | some b => F (.bl b) M1
  | none => False
section
variable {X : Cx} {x : Str} {p p2 pos : Pos} {e : Expr} {T : TEd}
theorem de_isi (c : Ty6) (hx : DE X e T) (hg : Gl X "isinstance") (hm : X.mg "isinstance" = none) (hg2 : Gl X x) (hm2 : X.mg x = none) (hv2 : bootBuiltins x = some (.type c.name)) (hn2 : x ≠ "__name__" := by decide) (hdb2 : (x == ("__debug__" : Str)) = false := by decide)
    (he : starEach [e, .Name x p2] X.env = (false, eval e X.env) :: starEach [.Name x p2] X.env := by rfl) (hpl : (backTo pos (starEach [.Name x p2] X.env)).any (·.1) = false := by rfl) (hs2 : starEach [.Name x p2] X.env = (false, eval (.Name x p2) X.env) :: starEach [] X.env := by rfl) :
    DE X (.Call (.Name "isinstance" p) [e, .Name x p2] [] pos) (isiD c T) := (pe_callB (cb_isi c) hg hm boot_isinstance (pa_cons hx (pa_cons (pe_bltn (v := .ty c.name) hg2 hm2 hv2 rfl hn2 hdb2) pa_nil hs2) he) (by decide) (by decide) he hpl).fimp fun σ H Q ⟨ds, M, F, ev, ok, h, af⟩ =>
  ⟨ds, M, _, ev, ok, h, fun d M1 h1 v H1 ok1 dt l1 => ⟨v, d, M1, F, rfl, dt, ok1, h1, af.later l1⟩⟩
theorem cb_all (hc : X.calm = true) : CallR X (.builtin "all") (upC X.K allR) := by
  intro pins s σ H vs us Q I rv h
  obtain ⟨xs, M, F, dts, ok, h, af⟩ := h
  unfold allR at h
  split at h
  · obtain ⟨v, rfl, dt⟩ := one_of dts
    cases dt with
    | lst q dd =>
      have e := bls_of dd h.1
      subst e
      refine cr_all hc pins s σ H _ us Q I rv ⟨_, _, rfl, .inl (.inl (hid_sub _ _ q)), af _ _ h.2 _ _ ok ?_ (Lat.refl _ _)⟩
      rw [List.all_map]
      exact .bl _
  · exact h.elim
theorem cb_any (hc : X.calm = true) : CallR X (.builtin "any") (upC X.K anyR) := by
  intro pins s σ H vs us Q I rv h
  obtain ⟨xs, M, F, dts, ok, h, af⟩ := h
  unfold anyR at h
  split at h
  · obtain ⟨v, rfl, dt⟩ := one_of dts
    cases dt with
    | lst q dd =>
      have e := bls_of dd h.1
      subst e
      refine cr_any hc pins s σ H _ us Q I rv ⟨_, _, rfl, .inl (.inl (hid_sub _ _ q)), af _ _ h.2 _ _ ok ?_ (Lat.refl _ _)⟩
      rw [List.any_map]
      exact .bl _
  · exact h.elim
theorem cb_tuple : CallR X (.type "tuple") (upC X.K tupleR) := by
  intro pins s σ H vs us Q I rv h
  obtain ⟨xs, M, F, dts, ok, h, af⟩ := h
  unfold tupleR at h
  split at h
  · obtain ⟨v, rfl, dt⟩ := one_of dts
    cases dt with
    | lst q dd => exact call_tuple_of pins s σ H _ us Q I rv ⟨_, _, rfl, .inl ⟨.inl (.inl (hid_sub _ _ q)), af.layT ok dd h⟩⟩
  · obtain ⟨v, rfl, dt⟩ := one_of dts
    cases dt with
    | slst q dd => exact call_tuple_of pins s σ H _ us Q I rv ⟨_, _, rfl, .inl ⟨Same.seq hid_sub q, af.layT ok dd h⟩⟩
  · obtain ⟨v, rfl, dt⟩ := one_of dts
    cases dt with
    | tup q dd => exact call_tuple_of pins s σ H _ us Q I rv ⟨_, _, rfl, .inr ⟨sqT_same hid_sub q, af _ _ h _ _ ok (.tup q dd) (Lat.refl _ _)⟩⟩
  · split at h
    · next e =>
      obtain ⟨v, rfl, dt⟩ := one_of dts
      cases dt
      obtain ⟨ys, e1, d1⟩ := ok _ _ e
      exact call_tuple_of pins s σ H _ us Q I rv ⟨_, _, rfl, .inl ⟨.inl (.inl e1), af.layT ok d1 h⟩⟩
    · exact h.elim
  · exact h.elim
theorem cb_list : CallR X (.type "list") (upC X.K listR) := by
  intro pins s σ H vs us Q I rv h
  obtain ⟨xs, M, F, dts, ok, h, af⟩ := h
  unfold listR at h
  split at h
  · obtain ⟨v, rfl, dt⟩ := one_of dts
    cases dt with
    | lst q dd => exact call_list_of pins s σ H _ us Q I rv ⟨_, _, rfl, .inl (.inl (.inl (hid_sub _ _ q))), af.layL ok dd h⟩
  · obtain ⟨v, rfl, dt⟩ := one_of dts
    cases dt with
    | slst q dd => exact call_list_of pins s σ H _ us Q I rv ⟨_, _, rfl, .inl (Same.seq hid_sub q), af.layL ok dd h⟩
  · obtain ⟨v, rfl, dt⟩ := one_of dts
    cases dt with
    | tup q dd => exact call_list_of pins s σ H _ us Q I rv ⟨_, _, rfl, .inr (sqT_same hid_sub q), af.layL ok dd h⟩
  · split at h
    · next e =>
      obtain ⟨v, rfl, dt⟩ := one_of dts
      cases dt
      obtain ⟨ys, e1, d1⟩ := ok _ _ e
      exact call_list_of pins s σ H _ us Q I rv ⟨_, _, rfl, .inl (.inl (.inl e1)), af.layL ok d1 h⟩
    · exact h.elim
  · exact h.elim
theorem cb_ord : CallR X (.builtin "ord") (upC X.K ordR) := by
  intro pins s σ H vs us Q I rv h
  obtain ⟨xs, M, F, dts, ok, h, af⟩ := h
  unfold ordR at h
  split at h
  · next z =>
    split at h
    · next c e =>
      obtain ⟨v, rfl, dt⟩ := one_of dts
      cases dt
      obtain ⟨⟨l⟩⟩ := z
      simp only at e
      subst e
      exact call_ord pins s σ H _ us Q I rv ⟨_, rfl, rfl, af _ _ h _ _ ok (.int _) (Lat.refl _ _)⟩
    · exact h.elim
  · exact h.elim
end

/-! repr -/
mutual
/-- no address within; texts and ints of a size -/
def shOk : D → Bool
  | .non => true
  | .bl _ => true
  | .int i => decide (i.natAbs.log2 < 1920)
  | .str x => x.cps.toList.all (fun c => decide (c < 1114112))
  | .tup ds => shOks ds
  | .lst ds => shOks ds
  | .slst ds => shOks ds
  | .dic kvs => shOkk kvs
  | .ref _ => false
  | .ty _ => false
  | .dtp _ _ => false
  | .obj _ _ _ => false
def shOks : List D → Bool
  | [] => true
  | d :: ds => shOk d && shOks ds
def shOkk : List (Key × D) → Bool
  | [] => true
  | (.inl i, d) :: ds => decide (i.natAbs.log2 < 1920) && shOk d && shOkk ds
  | (.inr x, d) :: ds => x.cps.toList.all (fun c => decide (c < 1114112)) && shOk d && shOkk ds
end
mutual
/-- no less than the signs of its repr -/
def cst : D → Nat
  | .int _ => 2000
  | .str x => 10 * x.length + 4
  | .tup ds => csts ds + 3
  | .lst ds => csts ds + 3
  | .slst ds => csts ds + 3
  | .dic kvs => cstk kvs + 3
  | _ => 5
def csts : List D → Nat
  | [] => 0
  | d :: ds => cst d + 2 + csts ds
def cstk : List (Key × D) → Nat
  | [] => 0
  | (.inl _, d) :: ds => 2000 + 2 + cst d + 2 + cstk ds
  | (.inr x, d) :: ds => 10 * x.length + 4 + 2 + cst d + 2 + cstk ds
end
mutual
def dep : D → Nat
  | .tup ds => deps ds + 1
  | .lst ds => deps ds + 1
  | .slst ds => deps ds + 1
  | .dic kvs => depk kvs + 1
  | _ => 0
def deps : List D → Nat
  | [] => 0
  | d :: ds => max (dep d) (deps ds)
def depk : List (Key × D) → Nat
  | [] => 0
  | (_, d) :: ds => max (dep d) (depk ds)
end
def shw (d : D) : Str := (py d).shown
theorem tupleText_len (ts : List Str) : (tupleText ts).length ≤ piled ts + 3 := by
  have e3 : (((if ts.length == 1 then ",)" else ")" : String) : Str)).length ≤ 2 := by split <;> decide +kernel
  have e1 : ((("(" : String) : Str)).length = 1 := rfl
  unfold tupleText
  rw [strLen_append, strLen_append, e1]
  cases ts with
  | nil =>
    have : (Str.join ", " ([] : List Str)).length = 0 := rfl
    omega
  | cons t ts =>
    have := join_length_add (t :: ts) (by simp)
    omega
theorem dictText_len (ts : List Str) : (dictText ts).length ≤ piled ts + 3 := by
  have e1 : ((("{" : String) : Str)).length = 1 := rfl
  have e2 : ((("}" : String) : Str)).length = 1 := rfl
  unfold dictText
  rw [strLen_append, strLen_append, e1, e2]
  cases ts with
  | nil =>
    have : (Str.join ", " ([] : List Str)).length = 0 := rfl
    omega
  | cons t ts =>
    have := join_length_add (t :: ts) (by simp)
    omega
theorem listText_len (ts : List Str) : (listText ts).length ≤ piled ts + 3 := by
  have e2 : ((("]" : String) : Str)).length = 1 := rfl
  unfold listText
  rw [strLen_append, e2]
  cases ts with
  | nil =>
    have : (textFrom 0 "[" ([] : List Str)).length = 1 := rfl
    omega
  | cons t ts =>
    have e : textFrom 0 "[" (t :: ts) = textFrom 1 ((("[" : Str) ++ (if 0 > 0 then ", " else "" : String)) ++ t) ts := rfl
    have l : (((("[" : Str) ++ (if 0 > 0 then ", " else "" : String)) ++ t : Str)).length = 1 + t.length := by
      rw [strLen_append, strLen_append]
      rfl
    rw [e, textFrom_length_pos ts 1 _ (by decide), l, piled_cons]
    omega
theorem rlen (x : Str) (h : x.cps.toList.all (fun c => decide (c < 1114112)) = true) : (reprText x).length ≤ 10 * x.length + 4 := by
  have := StrLaws.reprText_len x fun c hc => by
    have q : c < 1114112 := by simpa using List.all_eq_true.mp h c hc
    exact Nat.lt_trans q (by decide)
  omega
theorem ilen {i : Int} (h : i.natAbs.log2 < 1920) : (Str.ofString (toString i)).length ≤ 2000 := by
  have e := int_text_length_le (k := 1920) (by decide) h
  rw [PySem.ofString_length]
  omega
mutual
theorem shw_len : ∀ d : D, shOk d = true → (py d).shown.length ≤ cst d
  | .non, _ => by simp only [py, PyData.shown, cst]; decide
  | .bl b, _ => by cases b <;> (simp only [py, PyData.shown, cst]; decide)
  | .int i, h => by
    simp only [py, PyData.shown, cst]
    exact ilen (by simpa [shOk] using h)
  | .str x, h => by
    simp only [py, PyData.shown, cst]
    exact rlen x (by simpa [shOk] using h)
  | .tup ds, h => by
    simp only [py, PyData.shown, cst]
    have h1 := tupleText_len (PyData.shownAll (pys ds))
    have h2 := shw_lens ds (by simpa [shOk] using h)
    omega
  | .lst ds, h => by
    simp only [py, PyData.shown, cst]
    have h1 := listText_len (PyData.shownAll (pys ds))
    have h2 := shw_lens ds (by simpa [shOk] using h)
    omega
  | .slst ds, h => by
    simp only [py, PyData.shown, cst]
    have h1 := listText_len (PyData.shownAll (pys ds))
    have h2 := shw_lens ds (by simpa [shOk] using h)
    omega
  | .dic kvs, h => by
    simp only [py, PyData.shown, cst]
    have h1 := dictText_len (PyData.shownKv (pyk kvs))
    have h2 := shw_lenk kvs (by simpa [shOk] using h)
    omega
  | .ref _, h => by simp [shOk] at h
  | .ty _, h => by simp [shOk] at h
  | .dtp _ _, h => by simp [shOk] at h
  | .obj _ _ _, h => by simp [shOk] at h
theorem shw_lens : ∀ ds : List D, shOks ds = true → piled (PyData.shownAll (pys ds)) ≤ csts ds
  | [], _ => by simp only [pys, PyData.shownAll, csts, piled_nil]; exact Nat.le_refl _
  | d :: ds, h => by
    have h' : shOk d = true ∧ shOks ds = true := by simpa [shOks] using h
    simp only [pys, PyData.shownAll, csts, piled_cons]
    have h1 := shw_len d h'.1
    have h2 := shw_lens ds h'.2
    omega
theorem shw_lenk : ∀ ds : List (Key × D), shOkk ds = true → piled (PyData.shownKv (pyk ds)) ≤ cstk ds
  | [], _ => by simp only [pyk, PyData.shownKv, cstk, piled_nil]; exact Nat.le_refl _
  | (.inl i, d) :: ds, h => by
    have h' : (i.natAbs.log2 < 1920 ∧ shOk d = true) ∧ shOkk ds = true := by simpa [shOkk] using h
    simp only [pyk, PyData.shownKv, PyData.shown, cstk, piled_cons, strLen_append]
    have h0 := ilen h'.1.1
    have h1 := shw_len d h'.1.2
    have h2 := shw_lenk ds h'.2
    have e : (((": " : String) : Str)).length = 2 := rfl
    omega
  | (.inr x, d) :: ds, h => by
    have h' : (x.cps.toList.all (fun c => decide (c < 1114112)) = true ∧ shOk d = true) ∧ shOkk ds = true := by simpa [shOkk] using h
    simp only [pyk, PyData.shownKv, PyData.shown, cstk, piled_cons, strLen_append]
    have h0 := rlen x h'.1.1
    have h1 := shw_len d h'.1.2
    have h2 := shw_lenk ds h'.2
    have e : (((": " : String) : Str)).length = 2 := rfl
    omega
end
mutual
theorem dep_py : ∀ d : D, (py d).depth = dep d
  | .non => by simp only [py, PyData.depth, dep]
  | .bl b => by simp only [py, PyData.depth, dep]
  | .int i => by simp only [py, PyData.depth, dep]
  | .str x => by simp only [py, PyData.depth, dep]
  | .tup ds => by simp only [py, PyData.depth, dep, deps_py ds]
  | .lst ds => by simp only [py, PyData.depth, dep, deps_py ds]
  | .slst ds => by simp only [py, PyData.depth, dep, deps_py ds]
  | .dic ds => by simp only [py, PyData.depth, dep, depk_py ds]
  | .ref _ => by simp only [py, PyData.depth, dep]
  | .ty _ => by simp only [py, PyData.depth, dep]
  | .dtp _ _ => by simp only [py, PyData.depth, dep]
  | .obj _ _ _ => by simp only [py, PyData.depth, dep]
theorem deps_py : ∀ ds : List D, PyData.depthAll (pys ds) = deps ds
  | [] => by simp only [pys, PyData.depthAll, deps]
  | d :: ds => by simp only [pys, PyData.depthAll, deps, dep_py d, deps_py ds]
theorem depk_py : ∀ ds : List (Key × D), PyData.depthKv (pyk ds) = depk ds
  | [] => by simp only [pyk, PyData.depthKv, depk]
  | (.inl i, d) :: ds => by simp only [pyk, PyData.depthKv, PyData.depth, depk, dep_py d, depk_py ds, Nat.zero_max]
  | (.inr i, d) :: ds => by simp only [pyk, PyData.depthKv, PyData.depth, depk, dep_py d, depk_py ds, Nat.zero_max]
end
section
variable {X : Cx} {pins : List (Addr × Obj)} {σ : L2.St} {H : Hp} {s : Shared} {M : Mp}
mutual
theorem dt_reads (I : Inv X pins σ H s) : ∀ (d : D) (v : V) (u : Value), Dt X.K (hid M H) v d → shOk d = true → RelV v u → ∃ as, Reads s.heap u (py d) as
  | .non, _, _, h, _, r => by cases h; cases r; exact ⟨_, Reads.none⟩
  | .bl b, _, _, h, _, r => by cases h; cases r; exact ⟨_, Reads.bool b⟩
  | .int i, _, _, h, _, r => by cases h; obtain ⟨t, rfl⟩ := r; exact ⟨_, Reads.int i t⟩
  | .str x, _, _, h, _, r => by cases h; obtain ⟨t, rfl⟩ := r; exact ⟨_, Reads.str x t⟩
  | .lst ds, _, _, h, k, r => by
    cases h with
    | lst hs ha =>
      cases r
      obtain ⟨its, rv, ⟨o, n, ho, hc, _, hd⟩, _⟩ := I.list (.inl (.inl (hid_sub _ _ hs)))
      obtain ⟨as, hr⟩ := dts_reads I ds _ its ha (by simpa [shOk] using k) rv
      rw [py]
      exact ⟨_, Reads.list ho hc hd hr⟩
  | .slst ds, _, _, h, k, r => by
    cases h with
    | slst hs ha =>
      cases r
      obtain ⟨its, rv, ⟨o, n, ho, hc, _, hd⟩, _⟩ := I.list (Same.seq hid_sub hs)
      obtain ⟨as, hr⟩ := dts_reads I ds _ its ha (by simpa [shOk] using k) rv
      rw [py]
      exact ⟨_, Reads.list ho hc hd hr⟩
  | .tup ds, _, _, h, k, r => by
    cases h with
    | tup hs ha =>
      cases r
      obtain ⟨its, rv, ⟨o, ho, hc, n, hd⟩, _⟩ := I.tuple (sqT_same hid_sub hs)
      obtain ⟨as, hr⟩ := dts_reads I ds _ its ha (by simpa [shOk] using k) rv
      rw [py]
      exact ⟨_, Reads.tuple ho hc hd hr⟩
  | .dic ds, _, _, h, k, r => by
    cases h with
    | dic hs ha =>
      cases r
      obtain ⟨_, _, vs, kv, o, es, ep, ho, ⟨hc, _, _⟩, hd, _, pr, _⟩ := dk_of I.hok (hid_sub _ _ hs)
      obtain ⟨as, bs, h1, h2⟩ := dtk_reads I ds _ vs es.toList ha (by simpa [shOk] using k) kv pr
      rw [py]
      exact ⟨_, Reads.dict ho hc hd h1 h2⟩
  | .ref _, _, _, _, k, _ => by simp [shOk] at k
  | .ty _, _, _, _, k, _ => by simp [shOk] at k
  | .dtp _ _, _, _, _, k, _ => by simp [shOk] at k
  | .obj _ _ _, _, _, _, k, _ => by simp [shOk] at k
theorem dts_reads (I : Inv X pins σ H s) : ∀ (ds : List D) (vs : List V) (us : List Value), Dts X.K (hid M H) vs ds → shOks ds = true → Vals vs us → ∃ as, ReadsAll s.heap us (pys ds) as
  | [], _, _, h, _, r => by cases h; cases r; rw [pys]; exact ⟨_, ReadsAll.nil⟩
  | d :: ds, _, _, h, k, r => by
    have k' : shOk d = true ∧ shOks ds = true := by simpa [shOks] using k
    cases h with
    | cons h1 h2 =>
      cases r with
      | cons r1 r2 =>
        obtain ⟨as, q1⟩ := dt_reads I d _ _ h1 k'.1 r1
        obtain ⟨bs, q2⟩ := dts_reads I ds _ _ h2 k'.2 r2
        rw [pys]
        exact ⟨_, ReadsAll.cons q1 q2⟩
theorem dtk_reads (I : Inv X pins σ H s) : ∀ (ds : List (Key × D)) (xs : List (Key × V)) (vs : List (Key × Value)) (es : List DictEntry), Dtk X.K (hid M H) xs ds → shOkk ds = true → KV xs vs → Pairs (mixKind X.prog X.w) es vs →
    ∃ as bs, ReadsAll s.heap (es.map (·.key)) ((pyk ds).map (·.1)) as ∧ ReadsAll s.heap (es.map (·.val)) ((pyk ds).map (·.2)) bs
  | [], _, _, _, h, _, r, p => by
    cases h
    cases r
    cases p
    rw [pyk]
    exact ⟨_, _, ReadsAll.nil, ReadsAll.nil⟩
  | (.inl i, d) :: ds, _, _, _, h, k, r, p => by
    have k' : (i.natAbs.log2 < 1920 ∧ shOk d = true) ∧ shOkk ds = true := by simpa [shOkk] using k
    cases h with
    | cons h1 h2 =>
      cases r with
      | cons r1 r2 =>
        cases p with
        | cons p1 p2 p3 =>
          obtain ⟨as, q1⟩ := dt_reads I d _ _ h1 k'.1.2 r1.2
          obtain ⟨bs, cs, q2, q3⟩ := dtk_reads I ds _ _ _ h2 k'.2 r2 p3
          rw [pyk, List.map_cons, List.map_cons, List.map_cons, List.map_cons, p2]
          obtain ⟨t, e⟩ := Value.isInt_shape (k := i) (by rw [← r1.1] at p1; exact p1)
          rw [e]
          exact ⟨_, _, ReadsAll.cons (Reads.int i t) q2, ReadsAll.cons q1 q3⟩
  | (.inr i, d) :: ds, _, _, _, h, k, r, p => by
    have k' : (i.cps.toList.all (fun c => decide (c < 1114112)) = true ∧ shOk d = true) ∧ shOkk ds = true := by simpa [shOkk] using k
    cases h with
    | cons h1 h2 =>
      cases r with
      | cons r1 r2 =>
        cases p with
        | cons p1 p2 p3 =>
          obtain ⟨as, q1⟩ := dt_reads I d _ _ h1 k'.1.2 r1.2
          obtain ⟨bs, cs, q2, q3⟩ := dtk_reads I ds _ _ _ h2 k'.2 r2 p3
          rw [pyk, List.map_cons, List.map_cons, List.map_cons, List.map_cons, p2]
          obtain ⟨t, e⟩ := Value.isStrOf_shape (x := i) (by rw [← r1.1] at p1; exact p1)
          rw [e]
          exact ⟨_, _, ReadsAll.cons (Reads.str i t) q2, ReadsAll.cons q1 q3⟩
end
end
section
variable {X : Cx} {pins : List (Addr × Obj)} {σ : L2.St} {H : Hp} {s : Shared} {M : Mp}
theorem csts_mem {ds : List D} {d : D} (h : d ∈ ds) : cst d ≤ csts ds := by
  induction ds with
  | nil => cases h
  | cons e ds ih =>
    rw [csts]
    rcases List.mem_cons.mp h with z | z
    · rw [z]; omega
    · have := ih z; omega
theorem rep_list {prog : Program} {w : World} {h : Heap} {a : Addr} {o : Obj} {its : List Value} {n : Nat} {ds : List D} {as bs : List Addr} (ho : h.get? a = some o) (hc : o.cls = .type "list") (hd : o.data = .seq its.toArray n) (hr : ReadsAll h its (pys ds) as)
    (hb : ReadAtMost h (PyData.depthAll (pys ds)) bs) (hk : ReprAllK prog w bs h (PyData.depthAll (pys ds)) its (PyData.shownAll (pys ds))) : ∃ cs, ReadAtMost h (PyData.list (pys ds)).depth cs ∧ ReprK prog w cs h (PyData.list (pys ds)).depth (.ref a) (PyData.list (pys ds)).shown := by
  have rd : Reads h (.ref a) (.list (pys ds)) _ := Reads.list ho hc hd hr
  have hna := not_mem_of_deeper rd (by simp only [PyData.depth]; omega) hb
  refine ⟨a :: bs, ReadAtMost.cons rd (by simp only [PyData.depth]; omega) hb, ?_⟩
  simp only [PyData.depth, PyData.shown]
  cases its with
  | nil =>
    have e := hk.length_eq
    cases q : PyData.shownAll (pys ds) with
    | nil => rw [listText_nil]; exact ReprK.listEmpty ho hc hd
    | cons t ts => rw [q] at e; simp at e
  | cons x l => exact ReprK.list ho hc hd hna (by simpa using hk.length_eq) (fun i y e => hk.item i y (by simpa using e))
theorem ents_more {prog : Program} {w : World} {h : Heap} {as as' : List Addr} {d d' : Nat} (hsub : ∀ b ∈ as, b ∈ as') (hd : d ≤ d') : ∀ {l : List DictEntry} {ts : List Str}, ReprEntriesK prog w as h d l ts → ReprEntriesK prog w as' h d' l ts
  | _, _, .nil => .nil
  | _, _, .cons a b c => .cons ((a.more hsub).level_le hd) ((b.more hsub).level_le hd) (ents_more hsub hd c)
mutual
theorem dt_rep (I : Inv X pins σ H s) : ∀ (d : D) (v : V) (u : Value), Dt X.K (hid M H) v d → shOk d = true → cst d ≤ 1000000 → RelV v u → ∃ bs, ReadAtMost s.heap (py d).depth bs ∧ ReprK X.prog X.w bs s.heap (py d).depth u (py d).shown
  | .non, _, _, h, _, _, r => by
    cases h; cases r
    exact ⟨[], (fun _ h => nomatch h), by simp only [py, PyData.shown]; exact .of_is ReprIs.none _ _ _⟩
  | .bl b, _, _, h, _, _, r => by
    cases h; cases r
    exact ⟨[], (fun _ h => nomatch h), by simp only [py, PyData.shown]; exact .of_is (ReprIs.bool b) _ _ _⟩
  | .int i, _, _, h, k, _, r => by
    cases h; obtain ⟨t, rfl⟩ := r
    exact ⟨[], (fun _ h => nomatch h), by simp only [py, PyData.shown]; exact .of_is (ReprIs.int t (by simpa [shOk] using k)) _ _ _⟩
  | .str x, _, _, h, k, z, r => by
    cases h; obtain ⟨t, rfl⟩ := r
    refine ⟨[], (fun _ h => nomatch h), ?_⟩
    simp only [py, PyData.shown]
    have h1 := rlen x (by simpa [shOk] using k)
    simp only [cst] at z
    exact .of_is (ReprIs.str x t (big_le (by omega))) _ _ _
  | .lst ds, _, _, h, k, z, r => by
    cases h with
    | lst hs ha =>
      cases r
      obtain ⟨its, rv, ⟨o, n, ho, hc, _, hd⟩, _⟩ := I.list (.inl (.inl (hid_sub _ _ hs)))
      have k' : shOks ds = true := by simpa [shOk] using k
      obtain ⟨as, hr⟩ := dts_reads I ds _ its ha k' rv
      obtain ⟨bs, hb, hk⟩ := dts_rep I ds _ its ha k' (by simp only [cst] at z; omega) rv
      exact rep_list ho hc hd hr hb hk
  | .slst ds, _, _, h, k, z, r => by
    cases h with
    | slst hs ha =>
      cases r
      obtain ⟨its, rv, ⟨o, n, ho, hc, _, hd⟩, _⟩ := I.list (Same.seq hid_sub hs)
      have k' : shOks ds = true := by simpa [shOk] using k
      obtain ⟨as, hr⟩ := dts_reads I ds _ its ha k' rv
      obtain ⟨bs, hb, hk⟩ := dts_rep I ds _ its ha k' (by simp only [cst] at z; omega) rv
      exact rep_list ho hc hd hr hb hk
  | .tup ds, _, _, h, k, z, r => by
    cases h with
    | tup hs ha =>
      cases r
      obtain ⟨its, rv, ⟨o, ho, hc, n, hd⟩, _⟩ := I.tuple (sqT_same hid_sub hs)
      have k' : shOks ds = true := by simpa [shOk] using k
      obtain ⟨as, hr⟩ := dts_reads I ds _ its ha k' rv
      obtain ⟨bs, hb, hk⟩ := dts_rep I ds _ its ha k' (by simp only [cst] at z; omega) rv
      have rd : Reads s.heap _ (.tuple (pys ds)) _ := Reads.tuple ho hc hd hr
      have hna := not_mem_of_deeper rd (by simp only [PyData.depth]; omega) hb
      simp only [py]
      refine ⟨_ :: bs, ReadAtMost.cons rd (by simp only [PyData.depth]; omega) hb, ?_⟩
      simp only [PyData.depth, PyData.shown]
      exact ReprK.tuple ho hc hd hna hk
  | .dic ds, _, _, h, k, z, r => by
    cases h with
    | dic hs ha =>
      cases r
      obtain ⟨_, hsys, vs, kv, o, es, ep, ho, ⟨hc, _, _⟩, hd, _, pr, _⟩ := dk_of I.hok (hid_sub _ _ hs)
      have k' : shOkk ds = true := by simpa [shOk] using k
      obtain ⟨as, bs, h1, h2⟩ := dtk_reads I ds _ vs es.toList ha k' kv pr
      obtain ⟨cs, hb, hk⟩ := dtk_rep I ds _ vs es.toList ha k' (by simp only [cst] at z; omega) kv pr
      have rd : Reads s.heap _ (.dict (pyk ds)) _ := Reads.dict ho hc hd h1 h2
      have hna := not_mem_of_deeper rd (by simp only [PyData.depth]; omega) hb
      simp only [py]
      refine ⟨_ :: cs, ReadAtMost.cons rd (by simp only [PyData.depth]; omega) hb, ?_⟩
      simp only [PyData.depth, PyData.shown]
      exact ReprK.dict ho hc hd hsys hna hk
  | .ref _, _, _, _, k, _, _ => by simp [shOk] at k
  | .ty _, _, _, _, k, _, _ => by simp [shOk] at k
  | .dtp _ _, _, _, _, k, _, _ => by simp [shOk] at k
  | .obj _ _ _, _, _, _, k, _, _ => by simp [shOk] at k
theorem dts_rep (I : Inv X pins σ H s) : ∀ (ds : List D) (vs : List V) (us : List Value), Dts X.K (hid M H) vs ds → shOks ds = true → csts ds ≤ 1000000 → Vals vs us → ∃ bs, ReadAtMost s.heap (PyData.depthAll (pys ds)) bs ∧ ReprAllK X.prog X.w bs s.heap (PyData.depthAll (pys ds)) us (PyData.shownAll (pys ds))
  | [], _, _, h, _, _, r => by
    cases h; cases r
    simp only [pys, PyData.shownAll]
    exact ⟨[], (fun _ h => nomatch h), .nil⟩
  | d :: ds, _, _, h, k, z, r => by
    have k' : shOk d = true ∧ shOks ds = true := by simpa [shOks] using k
    rw [csts] at z
    cases h with
    | cons h1 h2 =>
      cases r with
      | cons r1 r2 =>
        obtain ⟨b1, hb1, k1⟩ := dt_rep I d _ _ h1 k'.1 (by omega) r1
        obtain ⟨b2, hb2, k2⟩ := dts_rep I ds _ _ h2 k'.2 (by omega) r2
        simp only [pys, PyData.shownAll, PyData.depthAll]
        exact ⟨b1 ++ b2, (hb1.mono (Nat.le_max_left _ _)).append (hb2.mono (Nat.le_max_right _ _)), .cons ((k1.more fun b hb => List.mem_append_left _ hb).level_le (Nat.le_max_left _ _)) (k2.more_le (fun b hb => List.mem_append_right _ hb) (Nat.le_max_right _ _))⟩
theorem dtk_rep (I : Inv X pins σ H s) : ∀ (ds : List (Key × D)) (xs : List (Key × V)) (vs : List (Key × Value)) (es : List DictEntry), Dtk X.K (hid M H) xs ds → shOkk ds = true → cstk ds ≤ 1000000 → KV xs vs → Pairs (mixKind X.prog X.w) es vs →
    ∃ bs, ReadAtMost s.heap (PyData.depthKv (pyk ds)) bs ∧ ReprEntriesK X.prog X.w bs s.heap (PyData.depthKv (pyk ds)) es (PyData.shownKv (pyk ds))
  | [], _, _, _, h, _, _, r, p => by
    cases h; cases r; cases p
    simp only [pyk, PyData.shownKv]
    exact ⟨[], (fun _ h => nomatch h), .nil⟩
  | (.inl i, d) :: ds, _, _, _, h, k, z, r, p => by
    have k' : (i.natAbs.log2 < 1920 ∧ shOk d = true) ∧ shOkk ds = true := by simpa [shOkk] using k
    rw [cstk] at z
    cases h with
    | cons h1 h2 =>
      cases r with
      | cons r1 r2 =>
        cases p with
        | cons p1 p2 p3 =>
          obtain ⟨b1, hb1, k1⟩ := dt_rep I d _ _ h1 k'.1.2 (by omega) r1.2
          obtain ⟨b2, hb2, k2⟩ := dtk_rep I ds _ _ _ h2 k'.2 (by omega) r2 p3
          obtain ⟨t, e⟩ := Value.isInt_shape (k := i) (by rw [← r1.1] at p1; exact p1)
          simp only [pyk, PyData.shownKv, PyData.depthKv, PyData.shown, PyData.depth, Nat.zero_max]
          refine ⟨b1 ++ b2, (hb1.mono (Nat.le_max_left _ _)).append (hb2.mono (Nat.le_max_right _ _)), .cons ?_ ?_ (ents_more (fun b hb => List.mem_append_right _ hb) (Nat.le_max_right _ _) k2)⟩
          · rw [e]
            exact .of_is (ReprIs.int t k'.1.1) _ _ _
          · rw [p2]
            exact (k1.more fun b hb => List.mem_append_left _ hb).level_le (Nat.le_max_left _ _)
  | (.inr i, d) :: ds, _, _, _, h, k, z, r, p => by
    have k' : (i.cps.toList.all (fun c => decide (c < 1114112)) = true ∧ shOk d = true) ∧ shOkk ds = true := by simpa [shOkk] using k
    rw [cstk] at z
    cases h with
    | cons h1 h2 =>
      cases r with
      | cons r1 r2 =>
        cases p with
        | cons p1 p2 p3 =>
          obtain ⟨b1, hb1, k1⟩ := dt_rep I d _ _ h1 k'.1.2 (by omega) r1.2
          obtain ⟨b2, hb2, k2⟩ := dtk_rep I ds _ _ _ h2 k'.2 (by omega) r2 p3
          obtain ⟨t, e⟩ := Value.isStrOf_shape (x := i) (by rw [← r1.1] at p1; exact p1)
          have hl := rlen i k'.1.1
          simp only [pyk, PyData.shownKv, PyData.depthKv, PyData.shown, PyData.depth, Nat.zero_max]
          refine ⟨b1 ++ b2, (hb1.mono (Nat.le_max_left _ _)).append (hb2.mono (Nat.le_max_right _ _)), .cons ?_ ?_ (ents_more (fun b hb => List.mem_append_right _ hb) (Nat.le_max_right _ _) k2)⟩
          · rw [e]
            exact .of_is (ReprIs.str i t (big_le (by omega))) _ _ _
          · rw [p2]
            exact (k1.more fun b hb => List.mem_append_left _ hb).level_le (Nat.le_max_left _ _)
end
end
theorem top_list {prog : Program} {w : World} {A : Around} {E : Value → Shared → Prop} {s : Shared} {Q : Value → Shared → Prop} {a : Addr} {o : Obj} {its : List Value} {n : Nat} {ds : List D} {as bs : List Addr} (gd : A.guards = some []) (hu : A.units + 200 < cLine) (dp : PyData.depthAll (pys ds) + 1 ≤ 100)
    (ho : s.heap.get? a = some o) (hc : o.cls = .type "list") (hd : o.data = .seq its.toArray n) (hr : ReadsAll s.heap its (pys ds) as)
    (hb : ReadAtMost s.heap (PyData.depthAll (pys ds)) bs) (hk : ReprAllK prog w bs s.heap (PyData.depthAll (pys ds)) its (PyData.shownAll (pys ds))) (hsz : (listText (PyData.shownAll (pys ds))).length ≤ sizeLine)
    (q : ∀ (h' : Heap) (t tk : Tok), (∀ b o, s.heap.get? b = some o → h'.get? b = some o) → Q (.str (listText (PyData.shownAll (pys ds))) t) { s with heap := h', toks := tk }) : wpAny (model prog w) A (call (.builtin "repr") [.ref a]) Q E s := by
  have rd : Reads s.heap (.ref a) (.list (pys ds)) _ := Reads.list ho hc hd hr
  have hna := not_mem_of_deeper rd (by simp only [PyData.depth]; omega) hb
  refine call_repr_slot (by omega) ⟨o, ho, hc⟩ F.slot_list_repr.toG ?_
  cases its with
  | nil =>
    have e := hk.length_eq
    cases z : PyData.shownAll (pys ds) with
    | nil =>
      rw [z, listText_nil] at q
      exact call_list_repr_empty ⟨o, ho, hc⟩ ho hd ⟨_, _, rfl, q s.heap _ _ fun _ _ e => e⟩
    | cons t ts => rw [z] at e; simp at e
  | cons x l => exact call_list_reprK ho hc hd hna (by simpa using hk.length_eq) (fun i y e => hk.item i y (by simpa using e)) (show A.in1.guards = some [] from gd) (fun b _ => Clear.nil b) (by show A.units + 1 + _ < cLine; omega) (fun _ _ e => e) (fun h' u tk kp => ⟨_, _, rfl, q h' u tk kp⟩) hsz
def reprR : RB
  | [d], M, F => (shOk d = true ∧ cst d ≤ 1000000 ∧ dep d ≤ 100) ∧ F (.str (shw d)) M
  | _, _, _ => False
theorem cb_repr {X : Cx} (gd : X.A.guards = some []) (hu : X.A.units + 200 < cLine) : CallR X (.builtin "repr") (upC X.K reprR) := by
  intro pins s σ H vs us Q I rv h
  obtain ⟨xs, M, F, dts, ok, h, af⟩ := h
  unfold reprR at h
  split at h
  · next d =>
    obtain ⟨⟨k, z, dp⟩, h⟩ := h
    obtain ⟨v, rfl, dt⟩ := one_of dts
    obtain ⟨u, rfl, rx⟩ := vals1 rv
    have hsz : (py d).shown.length ≤ sizeLine := big_le (Nat.le_trans (shw_len d k) z)
    have q : Q (.str (shw d)) H := af _ _ h _ _ ok (.str _) (Lat.refl _ _)
    have fin : ∀ (h' : Heap) (t tk : Tok), (∀ b o, s.heap.get? b = some o → h'.get? b = some o) → EP X pins σ Q (.str (shw d) t) { s with heap := h', toks := tk } := fun h' t tk kp => ⟨.str (shw d), H, I.kept kp, ⟨t, rfl⟩, q⟩
    have fin0 : EP X pins σ Q (.str (shw d) s.toks) { s with toks := s.toks + 1 } := ⟨.str (shw d), H, I.tok _, ⟨_, rfl⟩, q⟩
    rw [← dep_py] at dp
    have dt0 := dt
    cases dt with
    | non => cases rx; exact PySem.P.repr_of_none (by simpa only [shw, py, PyData.shown] using fin0)
    | bl b => cases rx; exact PySem.P.repr_of_bool (by simpa only [shw, py, PyData.shown] using fin0)
    | int i => obtain ⟨t, rfl⟩ := rx; exact PySem.P.repr_of_int (by simpa [shOk] using k) (by simpa only [shw, py, PyData.shown] using fin0)
    | str x => obtain ⟨t, rfl⟩ := rx; exact PySem.P.repr_of_str (by simpa only [shw, py, PyData.shown] using fin0) (by simpa only [py, PyData.shown] using hsz)
    | lst hs ha =>
      rename_i xs0 ds
      cases rx
      obtain ⟨its, rv', ⟨o, n, ho, hc, _, hd⟩, _⟩ := I.list (.inl (.inl (hid_sub _ _ hs)))
      have k' : shOks ds = true := by simpa [shOk] using k
      obtain ⟨as, hr⟩ := dts_reads I ds _ its ha k' rv'
      obtain ⟨bs, hb, hk⟩ := dts_rep I ds _ its ha k' (by simp only [cst] at z; omega) rv'
      simp only [shw, py, PyData.shown, PyData.depth] at fin dp hsz
      exact top_list gd hu dp ho hc hd hr hb hk hsz fin
    | slst hs ha =>
      rename_i xs0 ds
      cases rx
      obtain ⟨its, rv', ⟨o, n, ho, hc, _, hd⟩, _⟩ := I.list (Same.seq hid_sub hs)
      have k' : shOks ds = true := by simpa [shOk] using k
      obtain ⟨as, hr⟩ := dts_reads I ds _ its ha k' rv'
      obtain ⟨bs, hb, hk⟩ := dts_rep I ds _ its ha k' (by simp only [cst] at z; omega) rv'
      simp only [shw, py, PyData.shown, PyData.depth] at fin dp hsz
      exact top_list gd hu dp ho hc hd hr hb hk hsz fin
    | tup hs ha =>
      rename_i xs0 ds
      cases rx
      obtain ⟨its, rv', ⟨o, ho, hc, n, hd⟩, _⟩ := I.tuple (sqT_same hid_sub hs)
      have k' : shOks ds = true := by simpa [shOk] using k
      obtain ⟨as, hr⟩ := dts_reads I ds _ its ha k' rv'
      obtain ⟨bs, hb, hk⟩ := dts_rep I ds _ its ha k' (by simp only [cst] at z; omega) rv'
      simp only [shw, py, PyData.shown, PyData.depth] at fin dp hsz
      have rd : Reads s.heap _ (.tuple (pys ds)) _ := Reads.tuple ho hc hd hr
      have hna := not_mem_of_deeper rd (by simp only [PyData.depth]; omega) hb
      exact call_repr_slot (by omega) ⟨o, ho, hc⟩ PySem.F.slot_tuple_repr (call_tuple_reprK ho hc hd hna hk (show X.A.in1.guards = some [] from gd) (fun b _ => Clear.nil b) (by show X.A.units + 1 + _ < cLine; omega) (fun _ _ e => e) (fun h' u tk kp => ⟨_, _, rfl, fin h' u tk kp⟩) hsz)
    | dic hs ha =>
      rename_i xs0 ds
      cases rx
      obtain ⟨_, hsys, vs, kv, o, es, ep, ho, ⟨hc, _, _⟩, hd, _, pr, _⟩ := dk_of I.hok (hid_sub _ _ hs)
      have k' : shOkk ds = true := by simpa [shOk] using k
      obtain ⟨as, bs, h1, h2⟩ := dtk_reads I ds _ vs es.toList ha k' kv pr
      obtain ⟨cs, hb, hk⟩ := dtk_rep I ds _ vs es.toList ha k' (by simp only [cst] at z; omega) kv pr
      simp only [shw, py, PyData.shown, PyData.depth] at fin dp hsz
      have rd : Reads s.heap _ (.dict (pyk ds)) _ := Reads.dict ho hc hd h1 h2
      have hna := not_mem_of_deeper rd (by simp only [PyData.depth]; omega) hb
      exact call_repr_slot (by omega) ⟨o, ho, hc⟩ PySem.F.slot_dict_repr (call_dict_reprK ho hc hd hsys hna hk (show X.A.in1.guards = some [] from gd) (fun b _ => Clear.nil b) (by show X.A.units + 1 + _ < cLine; omega) (fun _ _ e => e) (fun h' u tk kp => ⟨_, _, rfl, fin h' u tk kp⟩) hsz)
    | ref _ => simp [shOk] at k
    | ty _ => simp [shOk] at k
    | dtp _ _ => simp [shOk] at k
    | obj _ _ _ => simp [shOk] at k
  · exact h.elim
end Fx

namespace Fx
open PySem PySem.Spec PyProof.Rows L2
variable [Grd]

/-! a op b op' c -/
def chainD (r r' : R2d) (T U W : TEd) : TEd := fun ds M F => T ds M fun a M1 => U ds M1 fun b M2 => r a b M2 fun z M3 => match z with
  | .bl k => br k (W ds M3 fun c M4 => r' b c M4 F) (F (.bl false) M3)
  | _ => False
section
variable {X : Cx} {a b c : Expr} {op op' : CmpOp} {r r' : R2d} {T U W : TEd} {pos : Pos}
theorem emb_chain {K : PySem.W.Frag} : ∀ σ H Q, emb K (chainD r r' T U W) σ H Q → tChain (up2 K r) (up2 K r') (emb K T) (emb K U) (emb K W) σ H Q := fun σ H Q ⟨ds, M, F, ev, ok, h, af⟩ =>
  ⟨ds, M, _, ev, ok, h, fun d M1 h1 v H1 ok1 dt1 l1 => ⟨ds, M1, _, ev.mono l1, ok1, h1, fun d2 M2 h2 v2 H2 ok2 dt2 l2 => ⟨d, d2, M2, _, dt1.mono l2.same, dt2, ok2, h2, fun z M3 h3 v3 H3 ok3 dt3 l3 => by
    cases dt3 with
    | bl k =>
      cases k with
      | true =>
        refine ⟨true, rfl, iteT ⟨ds, M3, _, ev.mono ((l1.trans l2).trans l3), ok3, h3, fun d4 M4 h4 v4 H4 ok4 dt4 l4 => ⟨d2, d4, M4, F, dt2.mono (l3.trans l4).same, dt4, ok4, h4, af.later (((l1.trans l2).trans l3).trans l4)⟩⟩⟩
      | false => exact ⟨false, rfl, iteF (af _ _ h3 _ _ ok3 (.bl false) ((l1.trans l2).trans l3))⟩
    | _ => exact h3.elim⟩⟩⟩
theorem de_chain (h1 : OpR X (compareOp op) (up2 X.K r)) (h2 : OpR X (compareOp op') (up2 X.K r')) (ha : DE X a T) (hb : DE X b U) (hc : DE X c W) (hm : lastMarks [op, op'] [b, c] = false := by with_unfolding_all rfl) : DE X (.Compare a [op, op'] [b, c] pos) (chainD r r' T U W) := (pe_chain h1 h2 ha hb hc hm).fimp emb_chain
/-- - a -/
def negD (T : TEd) : TEd := fun ds M F => T ds M fun d M1 => match d with
  | .int i => F (.int (-i)) M1
  | _ => False
theorem de_neg (ha : DE X a T) : DE X (.UnaryOp .USub a pos) (negD T) := (pe_un un_neg ha).fimp fun σ H Q ⟨ds, M, F, ev, ok, h, af⟩ =>
  ⟨ds, M, _, ev, ok, h, fun d M1 h1 v H1 ok1 dt l1 => by
    cases dt with
    | int i => exact ⟨i, rfl, af _ _ h1 _ _ ok1 (.int _) l1⟩
    | _ => exact h1.elim⟩
/-- a is None, a is not None -/
def isND (T : TEd) : TEd := fun ds M F => T ds M fun d M1 => match d with
  | .non => F (.bl true) M1
  | _ => F (.bl false) M1
def notND (T : TEd) : TEd := fun ds M F => T ds M fun d M1 => match d with
  | .non => F (.bl false) M1
  | _ => F (.bl true) M1
theorem de_isN {k : Nat} {p2 : Pos} (ha : DE X a T) : DE X (.Compare a [.Is] [.Constant .none k p2] pos) (isND T) := (pe_cmpR op_isN ha pe_non (by rfl)).fimp fun σ H Q ⟨ds, M, F, ev, ok, h, af⟩ =>
  ⟨ds, M, _, ev, ok, h, fun d M1 h1 v H1 ok1 dt l1 => ⟨rfl, by
    cases dt <;> exact af _ _ h1 _ _ ok1 (.bl _) l1⟩⟩
theorem de_notN {k : Nat} {p2 : Pos} (ha : DE X a T) : DE X (.Compare a [.IsNot] [.Constant .none k p2] pos) (notND T) := (pe_cmpR op_notN ha pe_non (by rfl)).fimp fun σ H Q ⟨ds, M, F, ev, ok, h, af⟩ =>
  ⟨ds, M, _, ev, ok, h, fun d M1 h1 v H1 ok1 dt l1 => ⟨rfl, by
    cases dt <;> exact af _ _ h1 _ _ ok1 (.bl _) l1⟩⟩
end

/-! comparisons as tests -/
section
variable {X : Cx} {a b c : Expr} {op op' : CmpOp} {r r' : R2d} {T U W : TEd} {pos : Pos}
theorem emb_tst {K : PySem.W.Frag} {t : TE} (h : ∀ σ H Q, emb K T σ H Q → t σ H Q) : ∀ σ H Q, embT K (tstD T) σ H Q → tTest t σ H Q := fun σ H Q ⟨ds, M, F, ev, ok, q, af⟩ => h σ H _ ⟨ds, M, _, ev, ok, q, fun d M1 h1 v H1 ok1 dt l1 => by
  cases dt with
  | bl k => exact ⟨k, rfl, af k M1 h1 H1 ok1 l1⟩
  | _ => exact h1.elim⟩
theorem dt_cmp (ho : OpR X (compareOp op) (up2 X.K r)) (ha : DE X a T) (hb : DE X b U) (hm : behindInMarks op b = false) : DT X (.Compare a [op] [b] pos) (tstD (opD r T U)) := (pt_cmpR ho ha hb hm).fimp (emb_tst emb_op)
theorem dt_chain (h1 : OpR X (compareOp op) (up2 X.K r)) (h2 : OpR X (compareOp op') (up2 X.K r')) (ha : DE X a T) (hb : DE X b U) (hc : DE X c W) (hm : lastMarks [op, op'] [b, c] = false := by with_unfolding_all rfl) : DT X (.Compare a [op, op'] [b, c] pos) (tstD (chainD r r' T U W)) := (pt_chain h1 h2 ha hb hc hm).fimp (emb_tst emb_chain)
theorem dt_isN {k : Nat} {p2 : Pos} (ha : DE X a T) : DT X (.Compare a [.Is] [.Constant .none k p2] pos) (tstD (isND T)) := (pt_cmpR op_isN ha pe_non (by rfl)).fimp (emb_tst fun σ H Q ⟨ds, M, F, ev, ok, h, af⟩ =>
  ⟨ds, M, _, ev, ok, h, fun d M1 h1 v H1 ok1 dt l1 => ⟨rfl, by
    cases dt <;> exact af _ _ h1 _ _ ok1 (.bl _) l1⟩⟩)
theorem dt_notN {k : Nat} {p2 : Pos} (ha : DE X a T) : DT X (.Compare a [.IsNot] [.Constant .none k p2] pos) (tstD (notND T)) := (pt_cmpR op_notN ha pe_non (by rfl)).fimp (emb_tst fun σ H Q ⟨ds, M, F, ev, ok, h, af⟩ =>
  ⟨ds, M, _, ev, ok, h, fun d M1 h1 v H1 ok1 dt l1 => ⟨rfl, by
    cases dt <;> exact af _ _ h1 _ _ ok1 (.bl _) l1⟩⟩)
end

/-! methods of built-in things -/
abbrev RM := D → List D → Mp → DK → Prop
def isLst : D → Mp → Prop
  | .ref a, M => match M a with
    | some (.lst _) => True
    | _ => False
  | .lst _, _ => True
  | _, _ => False
def isStr : D → Mp → Prop
  | .str _, _ => True
  | _, _ => False
def bmD (ty : D → Mp → Prop) (r : RM) (T : TEd) (U : TAd) : TEd := fun ds M F => T ds M fun d M1 => ty d M1 ∧ U ds M1 fun xs M2 => r d xs M2 F
def bm0D (ty : D → Mp → Prop) (r : RM) (T : TEd) : TEd := fun ds M F => T ds M fun d M1 => ty d M1 ∧ r d [] M1 F
def upM (K : PySem.W.Frag) (r : RM) : V → List V → Hp → VK → Prop := fun x vs H Q => ∃ d xs M F, Dt K (hid M H) x d ∧ Dts K (hid M H) vs xs ∧ HpOk K M H ∧ r d xs M F ∧ AftE K M H F Q
theorem tyL {K : PySem.W.Frag} {M : Mp} {H : Hp} {v : V} {d : D} (dt : Dt K (hid M H) v d) (ok : HpOk K M H) (h : isLst d M) : tyV K "list" v H := by
  cases dt with
  | ref a =>
    simp only [isLst] at h
    split at h
    · next e =>
      obtain ⟨xs, e1, _⟩ := ok _ _ e
      exact .inl ⟨rfl, xs, .inl (.inl e1)⟩
    · exact h.elim
  | lst q dd => exact .inl ⟨rfl, _, .inl (.inl (hid_sub _ _ q))⟩
  | _ => exact h.elim
theorem tyS {K : PySem.W.Frag} {M : Mp} {H : Hp} {v : V} {d : D} (dt : Dt K (hid M H) v d) (h : isStr d M) : tyV K "str" v H := by
  cases dt with
  | str z => rfl
  | _ => exact h.elim
section
variable {X : Cx} {o e : Expr} {es : List Expr} {name : Str} {id : String} {apos cpos : Pos} {r : RM} {T : TEd} {U : TAd}
theorem de_bmL (slot : Slot "list" name id) (hty : typeOf (.builtin id) = pure (.type "method_descriptor")) (hm : MtR X id (upM X.K r)) (ho : DE X o T) (ha : DA X (e :: es) U)
    (hbase : attributeBase o name X.env (eval o X.env) = eval o X.env := by rfl)
    (hfew : ((backTo cpos (starEach (e :: es) X.env)).all (fun x => !x.1) && (backToKw cpos (keywordEach [] X.env)).all (fun x => x.1.isSome)
      && decide ((e :: es).length + ([] : List Keyword).length + (if ([] : List Keyword).isEmpty then 0 else 1) < 30)) = true := by rfl)
    (hline : (apos.endLine == cpos.line) = true := by rfl) (hs : starEach (e :: es) X.env = (false, eval e X.env) :: starEach es X.env := by rfl) (hpl : (backTo cpos (starEach es X.env)).any (·.1) = false := by rfl) : DE X (.Call (.Attribute o name apos) (e :: es) [] cpos) (bmD isLst r T U) := by
  refine (pe_bm (r := upM X.K r) PySem.F.plainAttrs_list slot hty hm ho ha ?_ ?_ ?_ ?_ ?_).fimp fun σ H Q ⟨ds, M, F, ev, ok, h, af⟩ => ⟨ds, M, _, ev, ok, h, fun d M1 h1 v H1 ok1 dt l1 => ⟨tyL dt ok1 h1.1, ds, M1, _, ev.mono l1, ok1, h1.2, fun xs M2 h2 vs H2 ok2 dts l2 => ⟨d, xs, M2, F, dt.mono l2.same, dts, ok2, h2, af.later (l1.trans l2)⟩⟩⟩
  all_goals assumption
theorem de_bm0L (slot : Slot "list" name id) (hty : typeOf (.builtin id) = pure (.type "method_descriptor")) (hm : MtR X id (upM X.K r)) (ho : DE X o T)
    (hbase : attributeBase o name X.env (eval o X.env) = eval o X.env := by rfl) (hline : (apos.endLine == cpos.line) = true := by rfl) : DE X (.Call (.Attribute o name apos) [] [] cpos) (bm0D isLst r T) :=
  (pe_bm0 (r := upM X.K r) PySem.F.plainAttrs_list slot hty hm ho hbase hline).fimp fun σ H Q ⟨ds, M, F, ev, ok, h, af⟩ => ⟨ds, M, _, ev, ok, h, fun d M1 h1 v H1 ok1 dt l1 => ⟨tyL dt ok1 h1.1, d, [], M1, F, dt, .nil, ok1, h1.2, af.later l1⟩⟩
/-- s.m(e), s a text -/
def m1D (r : RM) (T U : TEd) : TEd := fun ds M F => T ds M fun d M1 => match d with
  | .str z => U ds M1 fun x M2 => r (.str z) [x] M2 F
  | _ => False
theorem de_m1 {U : TEd} {pos : Pos} (slot : Slot "str" name id) (ty : typeOf (.builtin id) = pure (.type "method_descriptor")) (rule : MtR X id (upM X.K r)) (ho : DE X o T) (he : DE X e U)
    (hs : starEach [e] X.env = [(false, eval e X.env)] := by rfl) (hbase : attributeBase o name X.env (eval o X.env) = eval o X.env := by rfl) (hline : (apos.endLine == pos.line) = true := by rfl) :
    DE X (.Call (.Attribute o name apos) [e] [] pos) (m1D r T U) := (pe_m1 slot ty rule ho he hs hbase hline).fimp fun σ H Q ⟨ds, M, F, ev, ok, h, af⟩ => ⟨ds, M, _, ev, ok, h, fun d M1 h1 v H1 ok1 dt l1 => by
  cases dt with
  | str z => exact ⟨⟨_, rfl⟩, ds, M1, _, ev.mono l1, ok1, h1, fun x M2 h2 v2 H2 ok2 dt2 l2 => ⟨.str z, [x], M2, F, .str z, .cons dt2 .nil, ok2, h2, af.later (l1.trans l2)⟩⟩
  | _ => exact h1.elim⟩
end
def popR : RM
  | .ref a, [], M, F => match M a with
    | some (.lst xs) => match xs.getLast? with
      | some y => F y (updM M a (.lst xs.dropLast))
      | none => False
    | _ => False
  | _, _, _, _ => False
def appR : RM
  | .ref a, [y], M, F => match M a with
    | some (.lst xs) => xs.length < 1000000 ∧ F .non (updM M a (.lst (xs ++ [y])))
    | _ => False
  | _, _, _, _ => False
def extR : RM
  | .ref a, [.lst ys], M, F => match M a with
    | some (.lst xs) => xs.length + ys.length ≤ 1000000 ∧ F .non (updM M a (.lst (xs ++ ys)))
    | _ => False
  | _, _, _, _ => False
def isSt : D → Bool
  | .str _ => true
  | _ => false
def getSt : D → Str
  | .str x => x
  | _ => Str.empty
def joinR : RM
  | .str a, [.lst xs], M, F => xs.all isSt = true ∧ ((xs.map fun d => (getSt d).length).sum + xs.length * a.length ≤ 1000000) ∧ F (.str (Txt.join a (xs.map getSt))) M
  | .str a, [.tup xs], M, F => xs.all isSt = true ∧ ((xs.map fun d => (getSt d).length).sum + xs.length * a.length ≤ 1000000) ∧ F (.str (Txt.join a (xs.map getSt))) M
  | _, _, _, _ => False
theorem strs_of {K : PySem.W.Frag} {G : Hp} : ∀ {vs : List V} {xs : List D}, Dts K G vs xs → xs.all isSt = true → vs = (xs.map getSt).map V.str
  | _, _, .nil, _ => rfl
  | _, _, .cons h1 h2, h => by
    rw [List.all_cons, Bool.and_eq_true] at h
    rw [List.map_cons, List.map_cons, ← strs_of h2 h.2]
    cases h1 <;> first | rfl | (exact absurd h.1 (by simp [isSt]))
/-- the list at a, changed -/
theorem AftE.setM {K : PySem.W.Frag} {M : Mp} {H : Hp} {F : DK} {Q : VK} {a : Addr} {vs : List V} {o : MO} {xs : List D} {d : D} {v : V} (af : AftE K M H F Q) (ok : HpOk K M H) (e : M a = some o) (hd : Dts K (hid M H) vs xs) (dt : Dt K (hid M H) v d) (f : F d (updM M a (.lst xs))) : Q v (upd H a (.lst vs)) := by
  have q : Same (hid M H) (hid (updM M a (.lst xs)) (upd H a (.lst vs))) := fun b u hb => by
    obtain ⟨n, eb⟩ := hid_some hb
    have nb : b ≠ a := fun z => by rw [z, e] at n; cases n
    rw [hid_of (by rw [updM_ne nb]; exact n), upd_ne nb]
    exact eb
  obtain ⟨ok2, l2⟩ := ok.put (p := a) (o := .lst vs) (m := .lst xs) (.inl (by rw [e]; simp)) ⟨vs, upd_same, hd.mono q⟩
  exact af _ _ f _ _ ok2 (dt.mono q) l2
section
variable {X : Cx}
theorem dm_append : MtR X "list.append" (upM X.K appR) := by
  intro pins s σ H x vs v us Q I rx rv h
  obtain ⟨d, xs, M, F, dt, dts, ok, h, af⟩ := h
  unfold appR at h
  split at h
  · split at h
    · next a y _ _ _ zs e =>
      cases dt
      obtain ⟨w, rfl, dw⟩ := one_of dts
      obtain ⟨ys, e1, d1⟩ := ok _ _ e
      exact mt_append pins s σ H _ _ v us Q I rx rv ⟨_, ys, w, rfl, rfl, e1, by rw [d1.length]; exact big_lt h.1, af.setM ok e (d1.append (.cons dw .nil)) .non h.2⟩
    · exact h.elim
  · exact h.elim
theorem dm_extend : MtR X "list.extend" (upM X.K extR) := by
  intro pins s σ H x vs v us Q I rx rv h
  obtain ⟨d, xs, M, F, dt, dts, ok, h, af⟩ := h
  unfold extR at h
  split at h
  · split at h
    · next a y _ _ _ zs e =>
      cases dt
      obtain ⟨w, rfl, dw⟩ := one_of dts
      obtain ⟨ys, e1, d1⟩ := ok _ _ e
      cases dw with
      | lst q dd => exact mt_extend pins s σ H _ _ v us Q I rx rv ⟨_, _, ys, _, rfl, rfl, e1, hid_sub _ _ q, by rw [d1.length, dd.length]; exact big_le h.1, af.setM ok e (d1.append dd) .non h.2⟩
    · exact h.elim
  · exact h.elim
theorem Dts.dropLast {K : PySem.W.Frag} {G : Hp} : ∀ {vs : List V} {ds : List D}, Dts K G vs ds → Dts K G vs.dropLast ds.dropLast
  | _, _, .nil => .nil
  | _, _, .cons _ .nil => .nil
  | _, _, .cons h1 (.cons h2 h3) => .cons h1 (Dts.dropLast (.cons h2 h3))
theorem dm_pop : MtR X "list.pop" (upM X.K popR) := by
  intro pins s σ H x vs v us Q I rx rv h
  obtain ⟨d, xs, M, F, dt, dts, ok, h, af⟩ := h
  unfold popR at h
  split at h
  · split at h
    · next a _ _ _ zs e =>
      split at h
      · next y ey =>
        cases dt
        cases dts
        obtain ⟨ys, e1, d1⟩ := ok _ _ e
        rw [List.getLast?_eq_getElem?] at ey
        obtain ⟨w, ew, dw⟩ := d1.get ey
        exact mt_pop pins s σ H _ _ v us Q I rx rv ⟨_, ys, w, rfl, rfl, e1, by rw [d1.length]; exact ew, af.setM ok e d1.dropLast dw h⟩
      · exact h.elim
    · exact h.elim
  · exact h.elim
theorem dm_join : MtR X "str.join" (upM X.K joinR) := by
  intro pins s σ H x vs v us Q I rx rv h
  obtain ⟨d, xs, M, F, dt, dts, ok, h, af⟩ := h
  unfold joinR at h
  split at h
  · cases dt
    obtain ⟨w, rfl, dw⟩ := one_of dts
    cases dw with
    | lst q dd =>
      have e := strs_of dd h.1
      subst e
      refine mt_join pins s σ H _ _ v us Q I rx rv ⟨_, _, _, rfl, rfl, .inl (.inl (.inl (hid_sub _ _ q))), ?_, af _ _ h.2.2 _ _ ok (.str _) (Lat.refl _ _)⟩
      rw [List.map_map, List.length_map]
      exact Nat.le_trans h.2.1 (by decide)
  · cases dt
    obtain ⟨w, rfl, dw⟩ := one_of dts
    cases dw with
    | tup q dd =>
      have e := strs_of dd h.1
      subst e
      refine mt_join pins s σ H _ _ v us Q I rx rv ⟨_, _, _, rfl, rfl, .inr (sqT_same hid_sub q), ?_, af _ _ h.2.2 _ _ ok (.str _) (Lat.refl _ _)⟩
      rw [List.map_map, List.length_map]
      exact Nat.le_trans h.2.1 (by decide)
  · exact h.elim
end

/-! d[k] = v of a dict that may change -/
def putS (T U W : TEd) : TSd := fun B ds M => W ds M fun v M1 => T ds M1 fun d M2 => U ds M2 fun k M3 => match d, k with
  | .ref a, .str z => match M3 a with
    | some (.dic kvs) => kvs.length < 1000000 ∧ B.nx ds (updM M3 a (.dic (putD kvs (.inr z) v)))
    | _ => False
  | .ref a, .int i => match M3 a with
    | some (.lst xs) => match ixN xs.length i with
      | some j => B.nx ds (updM M3 a (.lst (xs.set j v)))
      | none => False
    | _ => False
  | _, _ => False
/-- {k: v, ..}, the keys written; a dict that may change (true), or that never changes -/
def dispD (m : Bool) (ks : List Str) (U : TAd) : TEd := fun ds M F => ∀ p, M p = none → U ds (updM M p (.dic [])) fun xs M1 => xs.length = ks.length ∧ M1 p = some (.dic []) ∧ match m with
  | true => F (.ref p) (updM M1 p (.dic ((ks.map Sum.inr).zip xs)))
  | false => F (.dic ((ks.map Sum.inr).zip xs)) (delM M1 p)
theorem AftS.setM {K : PySem.W.Frag} {M : Mp} {H : Hp} {B : Endd} {E : Ends} {a : Addr} {ho : HO} {o m : MO} {ds : Ds} {σ : L2.St} (af : AftS K M H B E) (ok : HpOk K M H) (ev : Env K M H σ ds) (e : M a = some o) (hm : Same (hid M H) (hid (updM M a m) (upd H a ho)) → MOk K (updM M a m) (upd H a ho) a m) (f : B.nx ds (updM M a m)) : E.nx σ (upd H a ho) := by
  have q : Same (hid M H) (hid (updM M a m) (upd H a ho)) := fun b u hb => by
    obtain ⟨n, eb⟩ := hid_some hb
    have nb : b ≠ a := fun z => by rw [z, e] at n; cases n
    rw [hid_of (by rw [updM_ne nb]; exact n), upd_ne nb]
    exact eb
  obtain ⟨ok2, l2⟩ := ok.put (p := a) (o := ho) (m := m) (.inl (by rw [e]; simp)) (hm q)
  exact af.nx _ _ f _ _ (ev.mono l2) ok2 l2
section
variable {X : Cx} {o i value : Expr} {T U W : TEd} {pos pos' : Pos}
theorem set_any (hu : X.A.units + 1 < cLine) : PSet X (fun o i v H Q => rSetL o i v H Q ∨ ∃ a H4, o = .ref a ∧ DPut H a i v H4 ∧ Q H4) := by
  intro pins s σ H o i v ov iv u Q I ro ri rv h
  rcases h with h | ⟨a, H4, rfl, g, q⟩
  · exact set_list pins s σ H o i v ov iv u Q I ro ri rv h
  · cases ro
    exact d_setItem hu I g ri rv fun s4 I4 => ⟨H4, I4, q⟩
theorem ds_put (hu : X.A.units + 1 < cLine) (ho : DE X o T) (hi : DE X i U) (hv : DE X value W) (hs : swapsWithSole [.Subscript o i pos'] value pos.line X.env = pure false := by rfl) (hw : swappedStores [.Subscript o i pos'] value X.env = pure none := by rfl)
    (h1 : (assignEach [.Subscript o i pos'] X.env).map (·.2) = [assign (.Subscript o i pos') X.env] := by rfl)
    (ha : ∀ v, assign (.Subscript o i pos') X.env v = (do
      let ov ← holding [v] (eval o X.env)
      let iv ← holding [v, ov] (eval i X.env)
      standAt pos'
      holding [v, ov, iv] (setItem ov iv v)
      release [v, ov, iv] []) := by intro _; rfl) : DS X (.Assign [.Subscript o i pos'] value pos) (putS T U W) := (ps_asg hv (pg_sub ho hi (set_any hu) ha) hs hw h1).fimp fun E σ H ⟨ds, M, B, ev, ok, h, af⟩ =>
  ⟨ds, M, _, ev, ok, h, fun v M1 h1 w H1 ok1 dt1 l1 => ⟨ds, M1, _, ev.mono l1, ok1, h1, fun d M2 h2 x H2 ok2 dt2 l2 => ⟨ds, M2, _, (ev.mono l1).mono l2, ok2, h2, fun k M3 h3 y H3 ok3 dt3 l3 => by
    have lt := (l1.trans l2).trans l3
    have ev3 := ev.mono lt
    have dv := dt1.mono (l2.trans l3).same
    have dx := dt2.mono l3.same
    have af3 := af.later lt
    cases dx with
    | ref a =>
      cases dt3 with
      | str z =>
        simp only at h3
        split at h3
        · next e =>
          obtain ⟨xs, e1, d1⟩ := ok3 _ _ e
          refine .inr ⟨a, _, rfl, DPut.k (k := .inr z) e1 (by rw [d1.length]; exact big_lt h3.1), ?_⟩
          exact af3.setM (m := .dic (putD _ (.inr z) v)) ok3 ev3 e (fun q => ⟨_, upd_same, (d1.mono q).put (dv.mono q)⟩) h3.2
        · exact h3.elim
      | int i =>
        simp only at h3
        split at h3
        · next e =>
          obtain ⟨xs, e1, d1⟩ := ok3 _ _ e
          split at h3
          · next j ej =>
            refine .inl ⟨a, xs, i, j, rfl, rfl, e1, by rw [d1.length]; exact ej, ?_⟩
            exact af3.setM (m := .lst (List.set _ j v)) ok3 ev3 e (fun q => ⟨_, upd_same, (d1.mono q).set j (dv.mono q)⟩) h3
          · exact h3.elim
        · exact h3.elim
      | _ => exact h3.elim
    | _ => exact h3.elim⟩⟩⟩
end
/-- the pairs of a display, the keys written texts -/
inductive Disp (X : Cx) (pos : Pos) : List (Option Expr) → List Expr → List Str → TAd → Prop
  | nil : Disp X pos [] [] [] nilD
  | cons {k : Nat} {p : Pos} {z : Str} {e : Expr} {ks : List (Option Expr)} {vs : List Expr} {zs : List Str} {T : TEd} {U : TAd} : DE X e T → Disp X pos ks vs zs U → Disp X pos (some (.Constant (.str z) k p) :: ks) (e :: vs) (z :: zs) (consD T U)
theorem Disp.pps {X : Cx} {pos : Pos} {ks : List (Option Expr)} {vs : List Expr} {zs : List Str} {U : TAd} (h : Disp X pos ks vs zs U) : ∃ trs, PPs X pos ks vs trs ∧ ks.length = vs.length ∧ ks.all (·.isSome) = true ∧ zs.length = ks.length ∧
    ∀ ds M F σ H (Q : List (V × V) → Hp → Prop), Env X.K M H σ ds → HpOk X.K M H → U ds M F → (∀ xs M', F xs M' → ∀ ws H', HpOk X.K M' H' → Dts X.K (hid M' H') ws xs → Lat M H M' H' → Q ((zs.map V.str).zip ws) H') → tPairs trs σ H Q := by
  induction h with
  | nil => exact ⟨[], pps_nil, rfl, rfl, rfl, fun ds M F σ H Q ev ok u q => q _ _ u _ _ ok .nil (Lat.refl _ _)⟩
  | cons he _ ih =>
    obtain ⟨trs, h1, h2, h3, h4, h5⟩ := ih
    refine ⟨_, pps_cons pe_str he h1, by simp [h2], by simpa using h3, by simp [h4], fun ds M F σ H Q ev ok u q => ?_⟩
    refine ⟨ds, M, _, ev, ok, u, fun d M1 g1 v H1 ok1 dt l1 => ?_⟩
    exact h5 ds M1 _ σ H1 _ (ev.mono l1) ok1 g1 fun xs M2 g2 ws H2 ok2 dts l2 => q _ _ g2 (v :: ws) H2 ok2 (.cons (dt.mono l2.same) dts) (l1.trans l2)
theorem zip_merge : ∀ (zs : List Str) (ws : List V) (acc : List (Key × V)), zs.Nodup → (∀ z ∈ zs, ∀ p ∈ acc, p.1 ≠ Sum.inr z) → mergeK acc ((zs.map Sum.inr).zip ws) = acc ++ (zs.map Sum.inr).zip ws
  | [], ws, acc, _, _ => by simp [mergeK]
  | z :: zs, [], acc, _, _ => by simp [mergeK]
  | z :: zs, w :: ws, acc, nd, h => by
    have nd' := List.nodup_cons.mp nd
    show mergeK (putK acc (Sum.inr z) w) ((zs.map Sum.inr).zip ws) = acc ++ (Sum.inr z, w) :: (zs.map Sum.inr).zip ws
    have e : putK acc (Sum.inr z) w = acc ++ [(Sum.inr z, w)] := by
      unfold putK
      rw [if_neg]
      simp only [List.any_eq_true, decide_eq_true_eq, not_exists, not_and]
      intro p hp
      exact h z List.mem_cons_self p hp
    rw [e, zip_merge zs ws _ nd'.2 fun y hy p hp => ?_, List.append_assoc]
    · rfl
    · rcases List.mem_append.mp hp with q | q
      · exact h y (List.mem_cons_of_mem _ hy) p q
      · have : p = (Sum.inr z, w) := by simpa using q
        subst this
        intro ez
        have : z = y := Sum.inr.inj ez
        subst this
        exact nd'.1 hy
theorem Dtk.zip {K : PySem.W.Frag} {G : Hp} : ∀ (zs : List Str) {ws : List V} {xs : List D}, Dts K G ws xs → Dtk K G ((zs.map Sum.inr).zip ws) ((zs.map Sum.inr).zip xs)
  | [], _, _, _ => by simp; exact .nil
  | z :: zs, _, _, .nil => by simp; exact .nil
  | z :: zs, _, _, .cons h1 h2 => .cons h1 (Dtk.zip zs h2)
section
variable {X : Cx} {pos : Pos} {ks : List (Option Expr)} {vs : List Expr} {zs : List Str} {U : TAd}
theorem de_disp (m : Bool) (h : Disp X pos ks vs zs U) (h0 : ks ≠ []) (h15 : ks.length ≤ 15) (nd : zs.Nodup) : DE X (.Dict ks vs pos) (dispD m zs U) := by
  obtain ⟨trs, h1, h2, h3, h4, h5⟩ := h.pps
  refine (pe_disp h1 h3 h2 h0 h15).fimp fun σ H Q ⟨ds, M, F, ev, ok, t, af⟩ => ?_
  intro p np
  obtain ⟨ok1, l1⟩ := ok.put (p := p) (o := .dK []) (m := .dic []) (.inr np) ⟨[], upd_same, .nil⟩
  refine h5 ds _ _ σ _ _ (ev.mono l1) ok1 (t p (ok.free np)) fun xs M1 ⟨el, eM, f⟩ ws H1 ok2 dts l2 => ?_
  obtain ⟨kv0, e1, d1⟩ := ok2 _ _ eM
  cases d1
  have lw := dts.length
  refine ⟨e1, (zs.map Sum.inr).zip ws, ?_, ?_, ?_⟩
  · clear h5 e1 dts f
    have : ∀ (zs : List Str) (ws : List V), (zs.map V.str).zip ws = ((zs.map Sum.inr).zip ws).map fun kv : Key × V => (kV kv.1, kv.2) := by
      intro zs
      induction zs with
      | nil => intro ws; simp
      | cons z zs ih =>
        intro ws
        cases ws with
        | nil => simp
        | cons w ws => simp only [List.map_cons, List.zip_cons_cons, ih ws]; rfl
    exact this zs ws
  · rw [List.length_zip, List.length_map]
    omega
  · rw [zip_merge zs ws [] nd (fun _ _ _ hp => by cases hp), List.nil_append]
    have q : Same (hid M1 H1) (hid (updM M1 p (.dic ((zs.map Sum.inr).zip xs))) (upd H1 p (.dK ((zs.map Sum.inr).zip ws)))) := fun b u hb => by
      obtain ⟨n, eb⟩ := hid_some hb
      have nb : b ≠ p := fun z => by rw [z, eM] at n; cases n
      rw [hid_of (by rw [updM_ne nb]; exact n), upd_ne nb]
      exact eb
    obtain ⟨ok3, l3⟩ := ok2.put (p := p) (o := .dK ((zs.map Sum.inr).zip ws)) (m := .dic ((zs.map Sum.inr).zip xs)) (.inl (by rw [eM]; simp)) ⟨_, upd_same, Dtk.zip zs (dts.mono q)⟩
    cases m with
    | true => exact af _ _ f _ _ ok3 (.ref p) ((l1.trans l2).trans l3)
    | false =>
      obtain ⟨ok4, l4⟩ := ok3.frz p
      have ed : delM (updM M1 p (.dic ((zs.map Sum.inr).zip xs))) p = delM M1 p := by
        funext b
        unfold delM updM
        split <;> rfl
      rw [ed] at ok4 l4
      refine af _ _ f _ _ ok4 (.dic ?_ (Dtk.zip zs ((dts.mono q).mono l4.same))) (((l1.trans l2).trans l3).trans l4)
      rw [hid_of delM_same]
      exact upd_same
/-- {} -/
theorem de_dic0 : DE X (.Dict [] [] pos) (cD (.dic [])) := pe_dnewK.fimp fun σ H Q ⟨ds, M, F, ev, ok, h, af⟩ => fun p np => by
  obtain ⟨ok2, l2⟩ := ok.lay (p := p) (o := .dK []) np
  refine af _ _ h _ _ ok2 (.dic ?_ .nil) l2
  rw [hid_of (ok.free np)]
  exact upd_same
end

/-! x in e -/
def inR (neg : Bool) : R2d
  | .str x, .str z, M, F => match x.cps.toList with
    | [c] => F (.bl (if neg then !decide (c ∈ z.cps.toList) else decide (c ∈ z.cps.toList))) M
    | _ => False
  | _, _, _, _ => False
section
variable {X : Cx}
theorem or_in : OpR X (compareOp .In) (up2 X.K (inR false)) := by
  intro pins s σ H x y v u Q I rx ry h
  obtain ⟨a, b, M, F, da, db, ok, h, af⟩ := h
  cases da <;> cases db <;> first | exact h.elim | skip
  next x z =>
  simp only [inR] at h
  split at h
  · next c e =>
    obtain ⟨⟨l⟩⟩ := x
    simp only at e
    subst e
    exact op_in_sign pins s σ H _ _ v u Q I rx ry ⟨c, z, rfl, rfl, af _ _ h _ _ ok (.bl _) (Lat.refl _ _)⟩
  · exact h.elim
end
end Fx

namespace Fx
open PySem PySem.Spec PyProof.Rows L2

/-! the law's own call: nothing is shown by repr there -/
theorem callerG : callerA.guards = some [] := rfl
theorem enterG {P : Program} {w : World} {K : PySem.W.Frag} {mg mb : Str → Option Value} {k : Nat} {fa a : Addr} {fd : FuncData} {x : Str} {R : RD} {s₁ : Shared} {vs : List Value} {ns : List Int}
    (KX : K.In s₁.heap) (gn : s₁.heap.Ns mainGlobals mg) (bn : s₁.heap.Ns builtinsNs mb) (bb : ∀ x : Str, x ≠ "__name__" → mb x = bootBuiltins x) (lim : s₁.heap.NoLimit) (gen : s₁.gens = #[])
    (ha : s₁.heap.get? a = some { cls := .type "list", data := .seq vs.toArray }) (hi : IntsAre vs ns) (hl : ns.length ≤ sizeLine) (hr : Room k callerA)
    (F : ∀ base : Heap, K.In base → base.Ns mainGlobals mg → FnG P w K mg base CX0 k fa fd [x] (SpD K 1 R)) (hbind : ∀ (s : Shared) (u : Value), BindsTo s fd ⟨[u], []⟩ [(x, u)])
    (hR : ∀ M : Mp, R [.slst (ns.map D.int)] M fun d _ => d = .bl true) :
    codeAny (model P w) callerA (.call (.ref fa) ⟨[.ref a], []⟩) (fun r s' => r = .ok (.ret (.bool true)) ∧ OldK s₁.heap s'.heap ∧ s'.os = s₁.os ∧ AllBare s'.gens) s₁ := by
  have rel := vals_ints hi
  have ln := hi.length
  have main : ∀ H : Hp, Only H → SqL K H a (ns.map V.int) → HOk P w H s₁.heap → (∀ b, H b ≠ none → b = a) → (H a ≠ none → K.lookup a = none) →
      codeAny (model P w) callerA (.call (.ref fa) ⟨[.ref a], []⟩) (fun r s' => r = .ok (.ret (.bool true)) ∧ OldK s₁.heap s'.heap ∧ s'.os = s₁.os ∧ AllBare s'.gens) s₁ := by
    intro H only sq hok hA hK
    have out : ∀ {b : Addr} {o : Obj} {es : Array DictEntry} {ep : Nat}, s₁.heap.get? b = some o → o.data = .dict es ep → H b = none := by
      intro b o es ep e d
      refine Decidable.byContradiction fun n => ?_
      have eb := hA b n
      rw [eb, ha] at e
      cases e
      cases d
    have keepNs : ∀ {b : Addr} {m : Str → Option Value}, s₁.heap.Ns b m → (hidT s₁.heap H).Ns b m := fun ⟨o, es, ep, e, d, r⟩ => ⟨o, es, ep, hidT_get e (out e d), d, r⟩
    have kb : K.In (hidT s₁.heap H) := fun b o e => hidT_get (KX b o e) (Decidable.byContradiction fun n => by
      have eb := hA b n
      rw [eb] at n e
      rw [hK n] at e
      cases e)
    have md : Mod K mg (hidT s₁.heap H) := ⟨kb, keepNs gn, ⟨mb, keepNs bn, bb⟩, let ⟨mc, h1, h2⟩ := lim; ⟨mc, keepNs h1, h2⟩⟩
    have en : Env0 P w K mg (hidT s₁.heap H) callerA [] s₁ H := ⟨rfl, md, fun b o e => of_hidT e, Nat.le_of_eq (hidT_size _ _), trivial, fun b hb => absurd (show b ∈ ([] : List Addr) from hb) (by simp), hok, .of_eq gen⟩
    have wish : SpD K 1 R [.ref a] H (fun v _ => v = .bl true) fun _ _ _ => False := by
      have e : hid (fun _ => none) H = H := by funext b; rfl
      refine ⟨[.slst (ns.map D.int)], fun _ => none, _, rfl, .cons (.slst (by rw [e]; exact sq) (Dts.ints ns)) .nil, ⟨(fun b o z => by cases z), trivial⟩, hR _, ?_⟩
      intro d M' ed v H' _ dt _
      subst ed
      cases dt
      rfl
    refine codeAny_mono ((F _ kb (keepNs gn)).go callerA [] s₁ H ⟨[.ref a], []⟩ [.ref a] [.ref a] _ _ callerG hr en (hbind s₁ (.ref a)) (.cons rfl .nil) wish) fun r s' h => ?_
    match r, h with
    | .error e, h => exact h.elim
    | .ok .next, h => exact h.elim
    | .ok .brk, h => exact h.elim
    | .ok .cont, h => exact h.elim
    | .ok (.ret u), ⟨v, H', os, bare, un, hok', rv, q⟩ =>
      have q' : v = .bl true := q
      subst q'
      obtain rfl : u = Value.bool true := rv
      refine ⟨rfl, OldK.of_keep fun b o e => ?_, os, bare⟩
      cases eb : H b with
      | none => exact un.keep b o e eb (by intro z; exact absurd (show b ∈ ([] : List Addr) from z) (by simp)) (by simp)
      | some y =>
        rcases only b with z | ⟨ob, xs, z⟩
        · rw [eb] at z; cases z
        · obtain ⟨e1, _⟩ := hok b _ z
          obtain ⟨e2, _⟩ := hok' b _ (un.frzs b ob _ z)
          rw [e] at e1
          cases e1
          exact e2
  cases hk : K.lookup a with
  | some o =>
    have e := KX a o hk
    rw [ha] at e
    cases e
    exact main (fun _ => none) (fun _ => .inl rfl) (.inr ⟨_, vs.toArray, _, hk, rfl, rfl, rfl, by rw [List.size_toArray, ln]; exact hl, by simpa using rel⟩) (fun b u z => by cases (show (none : Option HO) = some u from z)) (fun b z => absurd rfl z) fun z => absurd rfl z
  | none =>
    have at_a : ∀ (b : Addr), b = a → (fun b => if b = a then some (HO.frz { cls := .type "list", data := .seq vs.toArray } (.lst (ns.map V.int))) else none) b = some (HO.frz { cls := .type "list", data := .seq vs.toArray } (.lst (ns.map V.int))) := fun b e => if_pos e
    have off_a : ∀ (b : Addr), b ≠ a → (fun b => if b = a then some (HO.frz { cls := .type "list", data := .seq vs.toArray } (.lst (ns.map V.int))) else none) b = none := fun b e => if_neg e
    refine main (fun b => if b = a then some (HO.frz { cls := .type "list", data := .seq vs.toArray } (.lst (ns.map V.int))) else none) (fun b => ?_) (.inl (.inr ⟨_, at_a a rfl⟩)) (fun b u z => ?_) (fun b z => ?_) fun _ => hk
    · by_cases hb : b = a
      · exact .inr ⟨_, _, at_a b hb⟩
      · exact .inl (off_a b hb)
    · by_cases hb : b = a
      · rw [at_a b hb] at z
        cases z
        subst hb
        exact ⟨ha, by rw [List.length_map]; exact hl, vs, _, rel, ha⟩
      · rw [off_a b hb] at z
        cases z
    · by_cases hb : b = a
      · exact hb
      · exact absurd (off_a b hb) z
theorem walkG {l : PySem.W.OpenLaw} {n k : Nat} {q : Program} {loose : List Str} {XP : (Str → Option Value) → Heap → Prop} {YP : World → Heap → Prop} {d : DefRec} {K : Params → PySem.W.Frag} {R : RD} {x : Str}
    (hn : l.most = some n) (hn2 : n ≤ sizeLine) (hdf : d.params.defaults = []) (hr : Room k callerA)
    (hY : ∀ (w : World) (h : Heap), YP w h → (K w.params).In h)
    (F : ∀ (w : World) (mg : Str → Option Value) (fa : Addr) (h : Heap), (K w.params).In h → h.Ns mainGlobals mg → mg d.name = some (.ref fa) →
      ∃ fd : FuncData, (∀ (s : Shared) (u : Value), BindsTo s fd ⟨[u], []⟩ [(x, u)]) ∧
        ∀ base : Heap, (K w.params).In base → base.Ns mainGlobals mg → FnG l.prog w (K w.params) mg base CX0 k fa fd [x] (SpD (K w.params) 1 R))
    (hR : ∀ (ns : List Int) (M : Mp), ns.length ≤ n → R [.slst (ns.map D.int)] M fun d _ => d = .bl true) :
    PySem.W.WalkO q loose XP YP l.row.toRowW d [] (fun f vs => PySem.call f vs) := by
  refine Att.attach_call hn hdf fun w s₀ s₁ mg mb fa o pm cd doc a vs ns G Y ho hd hcd hmg hobj hints hlen hg => ?_
  have KX := hY w _ Y
  obtain ⟨fd, hb, hF⟩ := F w mg fa _ KX G.T.g hmg
  exact enterG KX G.T.g G.T.b G.T.builtins G.T.nolimit hg hobj hints (Nat.le_trans hlen hn2) hr hF hb fun M => hR ns M hlen
/-! what is known of a name of the module -/
structure FnH (P : Program) (w : World) (K : PySem.W.Frag) (mg : Str → Option Value) (base : Heap) (k : Nat) (x : Str) (f : Addr) (fd : FuncData) (ps : List Str) (R : RD) : Prop where
  fn : FnG P w K mg base CX0 k f fd ps (SpD K ps.length R)
  hn : ∀ xs M F, R xs M F → xs.length = ps.length
  gm : mg x = some (.ref f)
  kp : PySem.W.keepIn K (.ref f) = true
  bi : Binds K fd ps []
/-- a constant of the module -/
def GV (K : PySem.W.Frag) (mg : Str → Option Value) (x : Str) (d : D) : Prop := ∃ u v, mg x = some u ∧ RelV v u ∧ ∀ G, Dt K G v d
theorem GV.str {K : PySem.W.Frag} {mg : Str → Option Value} {x z : Str} {t : Tok} (h : mg x = some (.str z t)) : GV K mg x (.str z) := ⟨_, .str z, h, ⟨t, rfl⟩, fun _ => .str z⟩
theorem GV.int {K : PySem.W.Frag} {mg : Str → Option Value} {x : Str} {i : Int} {t : Tok} (h : mg x = some (.int i t)) : GV K mg x (.int i) := ⟨_, .int i, h, ⟨t, rfl⟩, fun _ => .int i⟩
theorem u200 {A : Around} {k : Nat} (hr : Room k A) : A.units + 200 < cLine := by have := hr.un; omega
section
variable [Grd]
variable {X : Cx} {j k : Nat} {f : Addr} {fd : FuncData} {ps ks : List Str} {R : RD} {x : Str} {p pos : Pos} {e : Expr} {es : List Expr} {kws : List Keyword} {U W : TAd} {d : D}
theorem dk (h : GV X.K X.mg x d) (hg : Gl X x := by rfl) (hdb : (x == ("__debug__" : Str)) = false := by decide) : DE X (.Name x pos) (cD d) := by
  obtain ⟨u, v, h1, h2, h3⟩ := h
  exact de_glob hg h1 h2 h3 hdb
theorem dcall (h : FnH X.prog X.w X.K X.mg X.base j x f fd ps R) (gd : X.A.guards = some []) (hr : Room k X.A) (ha : DA X (e :: es) U) (hjk : j ≤ k := by decide) (hg : Gl X x := by rfl) (hdb : (x == ("__debug__" : Str)) = false := by decide) (he : starEach (e :: es) X.env = (false, eval e X.env) :: starEach es X.env := by rfl) (hpl : (backTo pos (starEach es X.env)).any (·.1) = false := by rfl) :
    DE X (.Call (.Name x p) (e :: es) [] pos) (callD R U) := de_call h.fn h.hn gd (hr.mono hjk) hg h.gm h.kp h.bi ha hdb he hpl
variable {g : List Value → List Value → List Value} {gV : List V → List V → List V} {gD : List D → List D → List D}
theorem dcallK0 (h : FnH X.prog X.w X.K X.mg X.base j x f fd ps R) (hb : KBinds X.K fd ps ks g gV) (hgd : ∀ G vs ws xs ys, Dts X.K G vs xs → Dts X.K G ws ys → Dts X.K G (gV vs ws) (gD xs ys)) (gd : X.A.guards = some []) (hr : Room k X.A) (hkw : DQ X kws W) (hjk : j ≤ k := by decide) (hg : Gl X x := by rfl)
    (hall : (backToKw pos (keywordEach kws X.env)).all (·.1.isSome) = true := by rfl) (hks : (backToKw pos (keywordEach kws X.env)).filterMap (·.1) = ks := by rfl) (hdb : (x == ("__debug__" : Str)) = false := by decide)
    (hpl : ((backTo pos (starEach [] X.env)).any (·.1) || (backToKw pos (keywordEach kws X.env)).any (·.1.isNone)) = false := by rfl) :
    DE X (.Call (.Name x p) [] kws pos) (callKD R gD nilD W) := de_callK0 h.fn h.hn gd (hr.mono hjk) hg h.gm h.kp hb hgd hkw hall hks hdb hpl
end
/-- keywords alone: in the order of the parameters; two of them, the other way round -/
def kid {α : Type} (us ws : List α) : List α := match us with
  | [] => ws
  | _ :: _ => []
def kswap {α : Type} (us ws : List α) : List α := match us, ws with
  | [], [a, b] => [b, a]
  | _, _ => []
section
variable {K : PySem.W.Frag} {x qual : Str} {st : Stmt} {f : Addr} {fd : FuncData} {ps ks : List Str}
theorem kb_id (F : Fun K x qual st f fd) (hp : ps ≠ [])
    (h : ∀ (kV doc pm : Value) (an : Option Addr) (cdv ct : Value) (ws : List Value), ws.length = ps.length → bindArgs (PySem.W.fnOf x qual (defArgs st) (defBody st) (defScope st) .none kV doc pm an cdv ct) ⟨[], ps.zip ws⟩ = pure (ps.zip ws)) : KBinds K fd ps ps kid kid := by
  obtain ⟨oc, od, kV, doc, pm, an, cdv, ct, osl, rfl, lk, hcd⟩ := F.ex
  refine ⟨fun s us ws _ hl => ?_, fun {vs us zs ws} r1 r2 => ?_⟩
  · cases us with
    | nil => exact .of_eq (h kV doc pm an cdv ct ws hl)
    | cons u us => exact absurd (List.length_eq_zero_iff.mp hl.symm) hp
  · cases r1 with
    | nil => exact r2
    | cons _ _ => exact .nil
theorem kb_swap {p q : Str} (F : Fun K x qual st f fd)
    (h : ∀ (kV doc pm : Value) (an : Option Addr) (cdv ct : Value) (a b : Value), bindArgs (PySem.W.fnOf x qual (defArgs st) (defBody st) (defScope st) .none kV doc pm an cdv ct) ⟨[], [(q, a), (p, b)]⟩ = pure [(p, b), (q, a)]) : KBinds K fd [p, q] [q, p] kswap kswap := by
  obtain ⟨oc, od, kV, doc, pm, an, cdv, ct, osl, rfl, lk, hcd⟩ := F.ex
  refine ⟨fun s us ws _ hl => ?_, fun {vs us zs ws} r1 r2 => ?_⟩
  · match us, ws, hl with
    | [], [a, b], _ => exact .of_eq (h kV doc pm an cdv ct a b)
    | [], [], hl => cases hl
    | [], [_], hl => cases hl
    | [], _ :: _ :: _ :: _, hl => cases hl
    | _ :: _, _, hl => cases hl
  · cases r1 with
    | nil =>
      cases r2 with
      | nil => exact .nil
      | cons a r2 =>
        cases r2 with
        | nil => exact .nil
        | cons b r2 =>
          cases r2 with
          | nil => exact .cons b (.cons a .nil)
          | cons _ _ => exact .nil
    | cons _ _ => exact .nil
theorem gd_id : ∀ (G : Hp) (vs ws : List V) (xs ys : List D), Dts K G vs xs → Dts K G ws ys → Dts K G (kid vs ws) (kid xs ys) := fun G vs ws xs ys h1 h2 => by
  cases h1 with
  | nil => exact h2
  | cons _ _ => exact .nil
theorem gd_swap : ∀ (G : Hp) (vs ws : List V) (xs ys : List D), Dts K G vs xs → Dts K G ws ys → Dts K G (kswap vs ws) (kswap xs ys) := fun G vs ws xs ys h1 h2 => by
  cases h1 with
  | nil =>
    cases h2 with
    | nil => exact .nil
    | cons a h2 =>
      cases h2 with
      | nil => exact .nil
      | cons b h2 =>
        cases h2 with
        | nil => exact .cons b (.cons a .nil)
        | cons _ _ => exact .nil
  | cons _ _ => exact .nil
end
end Fx

namespace Fx
open PySem PySem.Spec PyProof.Rows L2

/-! zip of two sequences (true: a list, false: a tuple), with strict=True -/
def SqI (b : Bool) (h : Heap) (it l : Addr) (k : Nat) : Prop := if b then h.IsListIter it l k else h.IsTupleIter it l k
def SqS (b : Bool) (h : Heap) (l : Addr) (xs : Array Value) : Prop := if b then h.IsList l xs else h.IsTuple l xs
theorem SqI.at {b : Bool} {h h' : Heap} {it l : Addr} {k : Nat} (x : SqI b h it l k) (q : ∀ o, h.get? it = some o → h'.get? it = some o) : SqI b h' it l k := by
  cases b
  · exact Heap.IsTupleIter.at (h := h) x q
  · exact Heap.IsListIter.at (h := h) x q
theorem SqS.at {b : Bool} {h h' : Heap} {l : Addr} {xs : Array Value} (x : SqS b h l xs) (q : ∀ o, h.get? l = some o → h'.get? l = some o) : SqS b h' l xs := by
  cases b
  · exact Heap.IsTuple.at (h := h) x q
  · exact Heap.IsList.at (h := h) x q
section
variable {prog : Program} {w : World} {A : Around} {E : Value → Shared → Prop} {s : Shared}
theorem nx_item {b : Bool} {it l : Addr} {k : Nat} {xs : Array Value} {x : Value} {Q : Value → Shared → Prop} (hi : SqI b s.heap it l k) (hs : SqS b s.heap l xs) (hx : xs[k]? = some x)
    (hQ : ∀ h', SqI b h' it l (k + 1) → Heap.SameBut it s.heap h' → Q x { s with heap := h' }) : wpAny (model prog w) A (Builtin.SmallTypes.nextOf (.ref it)) Q E s := by
  cases b
  · exact RZ.nextOf_tuple_item hi hs hx hQ
  · exact wpAny_nextOf_list_item hi hs hx hQ
theorem nx_end {b : Bool} {it l : Addr} {k : Nat} {xs : Array Value} {Q : Value → Shared → Prop} (hh : A.handled = none) (hi : SqI b s.heap it l k) (hs : SqS b s.heap l xs) (hx : xs[k]? = none)
    (hE : ∀ h' e, Heap.ExtBut it s.heap h' → (∃ o, h'.get? e = some o ∧ o.cls = .type "StopIteration") → E (.ref e) { s with heap := h' }) : wpAny (model prog w) A (Builtin.SmallTypes.nextOf (.ref it)) Q E s := by
  cases b
  · exact RZ.nextOf_tuple_end hh hi hs hx hE
  · exact wpAny_nextOf_list_end hh hi hs hx hE
theorem ne_item {b : Bool} {it l : Addr} {k : Nat} {xs : Array Value} {x : Value} {Q : Option Value → Shared → Prop} (hi : SqI b s.heap it l k) (hs : SqS b s.heap l xs) (hx : xs[k]? = some x)
    (hQ : ∀ h', SqI b h' it l (k + 1) → Heap.SameBut it s.heap h' → Q (some x) { s with heap := h' }) : wpAny (model prog w) A (Builtin.SmallTypes.nextOrEnd (.ref it)) Q E s := by
  unfold Builtin.SmallTypes.nextOrEnd
  exact wpAny_bind (wpAny_attempt (nx_item hi hs hx fun h' a1 a2 => wpAny_pure (hQ h' a1 a2)))
theorem ne_end {b : Bool} {it l : Addr} {k : Nat} {xs : Array Value} {Q : Option Value → Shared → Prop} (hh : A.handled = none) (hi : SqI b s.heap it l k) (hs : SqS b s.heap l xs) (hx : xs[k]? = none)
    (hQ : ∀ h', Heap.ExtBut it s.heap h' → Q none { s with heap := h' }) : wpAny (model prog w) A (Builtin.SmallTypes.nextOrEnd (.ref it)) Q E s := by
  unfold Builtin.SmallTypes.nextOrEnd
  refine wpAny_bind (wpAny_attempt (nx_end hh hi hs hx fun h' e q1 ⟨o, q2, q3⟩ => ?_))
  exact wpAny_bind (wpAny_isInstance (T := "StopIteration") (b := true) ⟨o, q2, q3⟩ isSubtype_stop (wpAny_pure (hQ h' q1)))
end
abbrev ZipS (h : Heap) (z TI TO : Addr) (f0 : Value) : Prop := h.get? z = some { cls := .type "zip", dict := none, data := .fields #[f0, .bool false, .bool true, .ref TI, .ref TO], slots := #[] }
section
variable {prog : Program} {w : World} {A : Around} {E : Value → Shared → Prop} {s : Shared}
theorem stop_it {α : Type} {Q : α → Shared → Prop} (hh : A.handled = none) (hE : ∀ h' e, (∀ c o, s.heap.get? c = some o → h'.get? c = some o) → (∃ o, h'.get? e = some o ∧ o.cls = .type "StopIteration") → E (.ref e) { s with heap := h' }) :
    wpAny (model prog w) A (Builtin.SmallTypes.stopIteration (α := α)) Q E s := by
  unfold Builtin.SmallTypes.stopIteration
  simp only [newExc, newTuple, raiseNew]
  refine wpAny_bind (wpAny_bind (wpAny_newObj_type (wpAny_bind (m := firstArgMember _ _) (wpAny_of_eq (a := Value.none) (by first | rfl | (simp only [firstArgMember]; rfl)) (wpAny_newObj_type ?_ (by size_fits)))) (by size_fits)))
  refine wpAny_bind (wpAny_handled ?_)
  rw [hh]
  refine wpAny_bind (wpAny_pure (wpAny_throw ?_))
  exact hE _ _ (fun c o e => Heap.get?_push_of_some _ (Heap.get?_push_of_some _ e)) ⟨_, Heap.get?_push_size _ rfl, rfl⟩
end
section
variable {prog : Program} {w : World} {A : Around} {E : Value → Shared → Prop} {s : Shared} {z TI TO i1 i2 l1 l2 : Addr} {b1 b2 : Bool} {k : Nat} {xs ys : Array Value} {x y a b : Value}
theorem zs_item {Q : Value → Shared → Prop} (D : ZipApart z TI TO i1 i2 l1 l2) (hz : ZipS s.heap z TI TO .none) (hI : IsPair s.heap TI (.ref i1) (.ref i2)) (hO : IsPair s.heap TO a b)
    (h1 : SqI b1 s.heap i1 l1 k) (h2 : SqI b2 s.heap i2 l2 k) (g1 : SqS b1 s.heap l1 xs) (g2 : SqS b2 s.heap l2 ys) (hx : xs[k]? = some x) (hy : ys[k]? = some y)
    (hQ : ∀ h', ZipS h' z TI TO (rawInt s.heap.objs.size) → IsPair h' TO x y → SqI b1 h' i1 l1 (k + 1) → SqI b2 h' i2 l2 (k + 1) → IsPair h' s.heap.objs.size x y → h'.objs.size = s.heap.objs.size + 1 →
      (∀ c o, c ≠ z → c ≠ TO → c ≠ i1 → c ≠ i2 → s.heap.get? c = some o → h'.get? c = some o) → Q (.ref s.heap.objs.size) { s with heap := h' }) :
    wpAny (model prog w) A (Builtin.«zip.__next__» ⟨[.ref z], []⟩) (fun fin s' => ∃ v, fin = .done (.ret v) ∧ Q v s') E s := by
  show wpAny _ _ (field (.ref z) 2 >>= fun _ => _) _ _ _
  refine wpAny_bind (wpAny_field hz rfl (x := Value.bool true) rfl ?_)
  show wpAny _ _ (field (.ref z) 3 >>= fun _ => _) _ _ _
  refine wpAny_bind (wpAny_field hz rfl (x := Value.ref TI) rfl (wpAny_bind (wpAny_seqItems hI rfl ?_)))
  show wpAny _ _ (Builtin.SmallTypes.ownedTupleIsFree (.ref z) >>= fun _ => _) _ _ _
  unfold Builtin.SmallTypes.ownedTupleIsFree
  refine wpAny_bind (wpAny_bind (wpAny_field hz rfl (x := Value.none) rfl (wpAny_pure ?_)))
  rw [if_pos rfl]
  refine wpAny_bind (wpAny_rule (wpAny_bind (wpAny_field hz rfl (x := Value.ref TO) rfl ?_)))
  refine wpAny_bind (wpAny_setField_rec hz (by simp) fun t1 z1 c1 => wpAny_bind ?_)
  replace z1 : ZipS t1 z TI TO .ellipsis := z1
  simp only [List.zipIdx_cons, List.zipIdx_nil, List.forIn_cons, List.forIn_nil]
  refine wpAny_bind (wpAny_bind (wpAny_onRaise ?_))
  show wpAny _ _ (Builtin.SmallTypes.nextOrEnd (.ref i1)) _ _ _
  have up1 : ∀ c o, c ≠ z → s.heap.get? c = some o → t1.get? c = some o := fun c o q e => c1.extBut _ _ q e
  refine ne_item (h1.at fun o e => up1 _ o D.i1z e) (g1.at fun o e => up1 _ o D.l1z e) hx fun t2 j2 c2 => ?_
  have up2 : ∀ c o, c ≠ z → c ≠ i1 → s.heap.get? c = some o → t2.get? c = some o := fun c o q r e => c2.extBut _ _ r (up1 c o q e)
  have o2 : IsPair t2 TO a b := up2 _ _ D.TOz D.TOi1 hO
  refine wpAny_bind (wpAny_seqItems o2 rfl (wpAny_bind (wpAny_updateSeq_pair o2 fun t3 o3 c3 => ?_)))
  replace o3 : IsPair t3 TO x b := o3
  have up3 : ∀ c o, c ≠ z → c ≠ i1 → c ≠ TO → s.heap.get? c = some o → t3.get? c = some o := fun c o q r u e => c3.extBut _ _ u (up2 c o q r e)
  refine wpAny_bind (wpAny_letGo (wpAny_pure (wpAny_bind (wpAny_bind (wpAny_onRaise ?_)))))
  show wpAny _ _ (Builtin.SmallTypes.nextOrEnd (.ref i2)) _ _ _
  refine ne_item (h2.at fun o e => up3 _ o D.i2z D.i12.symm D.TOi2.symm e) (g2.at fun o e => up3 _ o D.l2z D.l2i1 D.l2TO e) hy fun t4 j4 c4 => ?_
  have o4 : IsPair t4 TO x b := c4.extBut _ _ D.TOi2 o3
  refine wpAny_bind (wpAny_seqItems o4 rfl (wpAny_bind (wpAny_updateSeq_pair o4 fun t5 o5 c5 => ?_)))
  replace o5 : IsPair t5 TO x y := o5
  refine wpAny_bind (wpAny_letGo (wpAny_pure (wpAny_pure (wpAny_bind (wpAny_seqItems o5 rfl (wpAny_bind (wpAny_newTuple ?_)))))))
  have n5 : t5.objs.size = s.heap.objs.size := by rw [c5.1, c4.1, c3.1, c2.1, c1.1]
  have z5 : ZipS t5 z TI TO .ellipsis := c5.extBut _ _ D.TOz.symm (c4.extBut _ _ D.i2z.symm (c3.extBut _ _ D.TOz.symm (c2.extBut _ _ D.i1z.symm z1)))
  have up5 : ∀ c o, c ≠ z → c ≠ TO → c ≠ i1 → c ≠ i2 → s.heap.get? c = some o → t5.get? c = some o := fun c o q1 q2 q3 q4 e => c5.extBut _ _ q2 (c4.extBut _ _ q4 (up3 c o q1 q3 q2 e))
  have j5 : SqI b1 t5 i1 l1 (k + 1) := j2.at fun o e => c5.extBut _ _ D.TOi1.symm (c4.extBut _ _ D.i12 (c3.extBut _ _ D.TOi1.symm e))
  have m5 : SqI b2 t5 i2 l2 (k + 1) := j4.at fun o e => c5.extBut _ _ D.TOi2.symm e
  have lz : z < t5.objs.size := Heap.lt_size z5
  show wpAny _ _ (Builtin.SmallTypes.ownedTupleHandOut (.ref z) (.ref t5.objs.size) >>= fun _ => _) _ _ _
  unfold Builtin.SmallTypes.ownedTupleHandOut
  have z6 : ZipS (t5.push { cls := .type "tuple", data := .seq #[x, y] }) z TI TO .ellipsis := Heap.get?_push_of_some _ z5
  refine wpAny_bind (wpAny_bind (wpAny_setField_rec z6 (by simp) fun t7 z7 c7 => ?_))
  replace z7 : ZipS t7 z TI TO (rawInt t5.objs.size) := z7
  refine wpAny_setField_rec z7 (by simp) fun t8 z8 c8 => ?_
  replace z8 : ZipS t8 z TI TO (rawInt t5.objs.size) := z8
  have up8 : ∀ c o, c ≠ z → t5.get? c = some o → t8.get? c = some o := fun c o q e => c8.extBut _ _ q (c7.extBut _ _ q (Heap.get?_push_of_some _ e))
  have p8 : IsPair t8 t5.objs.size x y := c8.extBut _ _ (Nat.ne_of_gt lz) (c7.extBut _ _ (Nat.ne_of_gt lz) (Heap.get?_push_size _ rfl))
  have n8 : t8.objs.size = t5.objs.size + 1 := by rw [c8.1, c7.1, Heap.size_push]
  rw [n5] at z8 p8 n8
  refine wpAny_pure ⟨_, rfl, ?_⟩
  show Q (.ref t5.objs.size) { s with heap := t8 }
  rw [n5]
  exact hQ t8 z8 (up8 _ _ D.TOz o5) (j5.at fun o e => up8 _ o D.i1z e) (m5.at fun o e => up8 _ o D.i2z e) p8 n8 fun c o q1 q2 q3 q4 e => up8 c o q1 (up5 c o q1 q2 q3 q4 e)
theorem zs_end {Q : Fin → Shared → Prop} (hh : A.handled = none) (D : ZipApart z TI TO i1 i2 l1 l2) (hz : ZipS s.heap z TI TO .none) (hI : IsPair s.heap TI (.ref i1) (.ref i2)) (hO : IsPair s.heap TO a b)
    (h1 : SqI b1 s.heap i1 l1 k) (h2 : SqI b2 s.heap i2 l2 k) (g1 : SqS b1 s.heap l1 xs) (g2 : SqS b2 s.heap l2 ys) (hx : xs[k]? = none) (hy : ys[k]? = none)
    (hE : ∀ h' e, (∀ c o, c ≠ z → c ≠ TO → c ≠ i1 → c ≠ i2 → s.heap.get? c = some o → h'.get? c = some o) → (∃ o, h'.get? e = some o ∧ o.cls = .type "StopIteration") → E (.ref e) { s with heap := h' }) :
    wpAny (model prog w) A (Builtin.«zip.__next__» ⟨[.ref z], []⟩) Q E s := by
  show wpAny _ _ (field (.ref z) 2 >>= fun _ => _) _ _ _
  refine wpAny_bind (wpAny_field hz rfl (x := Value.bool true) rfl ?_)
  show wpAny _ _ (field (.ref z) 3 >>= fun _ => _) _ _ _
  refine wpAny_bind (wpAny_field hz rfl (x := Value.ref TI) rfl (wpAny_bind (wpAny_seqItems hI rfl ?_)))
  show wpAny _ _ (Builtin.SmallTypes.ownedTupleIsFree (.ref z) >>= fun _ => _) _ _ _
  unfold Builtin.SmallTypes.ownedTupleIsFree
  refine wpAny_bind (wpAny_bind (wpAny_field hz rfl (x := Value.none) rfl (wpAny_pure ?_)))
  rw [if_pos rfl]
  refine wpAny_bind (wpAny_rule (wpAny_bind (wpAny_field hz rfl (x := Value.ref TO) rfl ?_)))
  refine wpAny_bind (wpAny_setField_rec hz (by simp) fun t1 z1 c1 => wpAny_bind ?_)
  replace z1 : ZipS t1 z TI TO .ellipsis := z1
  simp only [List.zipIdx_cons, List.zipIdx_nil, List.forIn_cons, List.forIn_nil]
  refine wpAny_bind (wpAny_bind (wpAny_onRaise ?_))
  show wpAny _ _ (Builtin.SmallTypes.nextOrEnd (.ref i1)) _ _ _
  have up1 : ∀ c o, c ≠ z → s.heap.get? c = some o → t1.get? c = some o := fun c o q e => c1.extBut _ _ q e
  refine ne_end hh (h1.at fun o e => up1 _ o D.i1z e) (g1.at fun o e => up1 _ o D.l1z e) hx fun t2 c2 => ?_
  have up2 : ∀ c o, c ≠ z → c ≠ i1 → s.heap.get? c = some o → t2.get? c = some o := fun c o q r e => c2 _ _ r (up1 c o q e)
  have z2 : ZipS t2 z TI TO .ellipsis := c2 _ _ D.i1z.symm z1
  refine wpAny_bind (wpAny_setField_rec z2 (by simp) fun t3 z3 c3 => wpAny_bind ?_)
  have up3 : ∀ c o, c ≠ z → c ≠ i1 → s.heap.get? c = some o → t3.get? c = some o := fun c o q r e => c3.extBut _ _ q (up2 c o q r e)
  show wpAny _ _ (forIn [(Value.ref i2, 1)] PUnit.unit _ >>= fun _ => _) _ _ _
  simp only [List.forIn_cons, List.forIn_nil]
  refine wpAny_bind (wpAny_bind (wpAny_bind (ne_end hh (h2.at fun o e => up3 _ o D.i2z D.i12.symm e) (g2.at fun o e => up3 _ o D.l2z D.l2i1 e) hy fun t4 c4 => ?_)))
  refine wpAny_pure (wpAny_pure (wpAny_bind (wpAny_rule (stop_it hh fun t5 e c5 st => hE t5 e (fun c o q1 q2 q3 q4 g => ?_) st))))
  exact c5 _ _ (c4 _ _ q4 (up3 c o q1 q3 g))
theorem zs_next {Q : Option Value → Shared → Prop} (D : ZipApart z TI TO i1 i2 l1 l2) (hz : ZipS s.heap z TI TO .none) (hI : IsPair s.heap TI (.ref i1) (.ref i2)) (hO : IsPair s.heap TO a b)
    (h1 : SqI b1 s.heap i1 l1 k) (h2 : SqI b2 s.heap i2 l2 k) (g1 : SqS b1 s.heap l1 xs) (g2 : SqS b2 s.heap l2 ys) (hx : xs[k]? = some x) (hy : ys[k]? = some y)
    (hQ : ∀ h', ZipS h' z TI TO (rawInt s.heap.objs.size) → IsPair h' TO x y → SqI b1 h' i1 l1 (k + 1) → SqI b2 h' i2 l2 (k + 1) → IsPair h' s.heap.objs.size x y → h'.objs.size = s.heap.objs.size + 1 →
      (∀ c o, c ≠ z → c ≠ TO → c ≠ i1 → c ≠ i2 → s.heap.get? c = some o → h'.get? c = some o) → Q (some (.ref s.heap.objs.size)) { s with heap := h' }) :
    wpAny (model prog w) A (pyNext (.ref z)) Q E s := by
  have ty : s.TypeIs (.ref z) "zip" := ⟨_, hz, rfl⟩
  unfold pyNext
  refine wpAny_bind (wpAny_attempt (wpAny_callSpecial?_slot (name := Str.ofString "__next__") ty F.slot_zip_next (wpAny_call_entry F.slot_zip_next ty F.entry_zip_next ?_ (F.args_zip_next_1 _))))
  exact zs_item D hz hI hO h1 h2 g1 g2 hx hy fun t p1 p2 p3 p4 p5 p6 p7 => wpAny_pure (hQ t p1 p2 p3 p4 p5 p6 p7)
theorem zs_stop {Q : Option Value → Shared → Prop} (hh : A.handled = none) (D : ZipApart z TI TO i1 i2 l1 l2) (hz : ZipS s.heap z TI TO .none) (hI : IsPair s.heap TI (.ref i1) (.ref i2)) (hO : IsPair s.heap TO a b)
    (h1 : SqI b1 s.heap i1 l1 k) (h2 : SqI b2 s.heap i2 l2 k) (g1 : SqS b1 s.heap l1 xs) (g2 : SqS b2 s.heap l2 ys) (hx : xs[k]? = none) (hy : ys[k]? = none)
    (hQ : ∀ h', (∀ c o, c ≠ z → c ≠ TO → c ≠ i1 → c ≠ i2 → s.heap.get? c = some o → h'.get? c = some o) → Q none { s with heap := h' }) : wpAny (model prog w) A (pyNext (.ref z)) Q E s := by
  have ty : s.TypeIs (.ref z) "zip" := ⟨_, hz, rfl⟩
  unfold pyNext
  refine wpAny_bind (wpAny_attempt (wpAny_callSpecial?_slot (name := Str.ofString "__next__") ty F.slot_zip_next (wpAny_call_entry F.slot_zip_next ty F.entry_zip_next ?_ (F.args_zip_next_1 _))))
  refine zs_end hh D hz hI hO h1 h2 g1 g2 hx hy fun t e p1 ⟨o, p2, p3⟩ => ?_
  exact wpAny_bind (wpAny_isInstance (T := "StopIteration") (b := true) ⟨o, p2, p3⟩ isSubtype_stop (wpAny_pure (hQ _ p1)))
theorem zs_go {elts : List Expr} {n : Nat} {pos : Pos} {T : Addr} {Q : Unit → Shared → Prop} (hz : ZipS s.heap z TI TO (rawInt T))
    (hQ : ∀ h', ZipS h' z TI TO .none → Heap.SameBut z s.heap h' → Q () { s with heap := h' }) : wpAny (model prog w) A (letOwnedTupleGo (.Tuple elts n pos) (.ref z) (.ref T)) Q E s := by
  unfold letOwnedTupleGo
  refine wpAny_bind (wpAny_load hz ?_)
  show wpAny _ _ (if (["enumerate", "zip", "dict_itemiterator", "dict_reverseitemiterator", "odict_iterator", "itertools.zip_longest", "itertools.pairwise"].contains "zip" && (#[rawInt T, .bool false, .bool true, .ref TI, .ref TO] : Array Value)[0]? == some (rawInt T)) = true then _ else _) Q E s
  rw [if_pos (by simp)]
  refine wpAny_bind (wpAny_rule (?_ : wpAny _ _ (setField (.ref z) 0 .none) Q E s))
  exact wpAny_setField_rec hz (by simp) fun t p1 p2 => hQ t p1 p2
theorem zs_self {f0 : Value} {Q : Value → Shared → Prop} (hz : ZipS s.heap z TI TO f0) (h : Q (.ref z) s) : wpAny (model prog w) A (pyIter (.ref z)) Q E s := by
  have ty : s.TypeIs (.ref z) "zip" := ⟨_, hz, rfl⟩
  refine wpAny_pyIter_slot ty F.slot_zip_iter (wpAny_call_entry F.slot_zip_iter ty F.entry_zip_iter (?_ : wpAny _ _ (ret (.ref z)) _ _ s) (F.args_zip_iter_1 _))
  exact wpAny_pure ⟨_, rfl, "zip", _, ty, F.slot_zip_next.lookup, h⟩
end
end Fx

namespace Fx
open PySem PySem.Spec PyProof.Rows L2
theorem init_kw {T newId : String} {self : Value} {us : List Value} {kw : List (Str × Value)} (hl : typeLookup (.type T) "__init__" = pure (some (.builtin "object.__init__"))) (hm : Bind.madeBy (.type T) = pure (some newId)) (hne : (some newId != some "object.__new__") = true) (hk : kw ≠ []) :
    Meets (Builtin.«object.__init__» ⟨self :: us, kw⟩) (fun _ R s => s.TypeIs self T ∧ R (.ok (.ret .none)) s) := by
  refine Meets.of_wp fun prog w A R s ⟨hT, hq⟩ => ?_
  cases kw with
  | nil => exact absurd rfl hk
  | cons k kw =>
    cases us with
    | nil =>
      repeat (any_goals (first | wp_step | assumption))
      exact ⟨_, rfl, hq⟩
    | cons u us =>
      repeat (any_goals (first | wp_step | assumption))
      exact ⟨_, rfl, hq⟩
section
variable {prog : Program} {w : World} {A : Around} {E : Value → Shared → Prop} {s : Shared}
theorem w_tc (T : String) (us : List Value) (kw : List (Str × Value)) : (Code.builtin "type.__call__" ⟨.type T :: us, kw⟩).weight = 0 ∧ (Code.builtin "type.__call__" ⟨.type T :: us, kw⟩).cUnits = 1 := ⟨rfl, rfl⟩
/-- a type that is called with keywords, its object.__init__ -/
theorem tcall_kw {T newId : String} {Bn : Builtin} {us : List Value} {kw : List (Str × Value)} {S : PySem.Spec} {Q : Value → Shared → Prop} (ft : TypeCalled T newId "object.__init__") (hne : (some newId != some "object.__new__") = true)
    (hct : checkTypeCall T ⟨us, kw⟩ = pure ()) (hcn : checkBuiltinCall newId ⟨.type T :: us, kw⟩ = pure ()) (hok : ∀ o, argsOk "object.__init__" ⟨o :: us, kw⟩) (hk : kw ≠ []) (eN : entryFor table newId = some Bn)
    (g : Meets (Bn ⟨.type T :: us, kw⟩) S) (h : S A.in1 (wants (fun o s1 => s1.TypeIs o T ∧ Q o s1) E) s) : wpAny (model prog w) A (call (.type T) us kw) Q E s := by
  obtain ⟨c, tl, m1⟩ := ft.mro
  have m2 := ft.made
  have m3 := ft.sub
  refine wpAny_call (codeAny_of_tree (?_ : wpAny _ _ (callAny (.type T) _) _ _ _))
  refine wpAny_pure ⟨Code.quiet_builtin _ (by decide +kernel), codeAny_builtin F.entry_type_call ?_⟩
  rw [Around.under_plain (w_tc T us kw).1 (w_tc T us kw).2]
  have m4 := ft.notType
  have m5 := ft.canCreate
  repeat (any_goals (first | wp_step | assumption))
  refine codeAny_mono (codeAny_call_builtin ft.plain eN (wpAny_of_eq hcn (g prog w A.in1 _ s h))) fun r s1 hr => ?_
  cases r with
  | error e => exact hr
  | ok fl =>
    cases fl with
    | ret o =>
      obtain ⟨hT, hQ⟩ := hr
      have m6 := ft.init.lookup
      have m7 := ft.init.bind o
      repeat (any_goals (first | wp_step | assumption))
      refine codeAny_mono (codeAny_call_builtin ft.init.plain F.entry_object_init (ft.init.check _ _ _ _ _ _ _ _ hT (hok o) (init_kw m6 m2 hne hk prog w A.in1 (wants (fun r s2 => r = .none ∧ Q o s2) E) s1 ⟨hT, rfl, hQ⟩))) fun r2 s2 hr2 => ?_
      cases r2 with
      | error e => exact hr2
      | ok fl2 =>
        cases fl2 with
        | ret r =>
          obtain ⟨rfl, hq⟩ := hr2
          repeat (any_goals (first | wp_step | assumption))
        | _ => exact hr2.elim
    | _ => exact hr.elim
end
abbrev zsK : List (Str × Value) := [("strict", .bool true)]
theorem zs_tc (u v : Value) : checkTypeCall "zip" ⟨[u, v], zsK⟩ = pure () := by kernel_rfl
theorem zs_nc (u v : Value) : checkBuiltinCall "zip.__new__" ⟨[.type "zip", u, v], zsK⟩ = pure () := by kernel_rfl
theorem zs_ic (u v t : Value) : argsOk "object.__init__" ⟨[u, v, t], zsK⟩ := by
  unfold argsOk
  rw [signature?_of (id := "object.__init__") (n := ['_', '_', 't', 'i', 'n', 'i', '_', '_']) (o := ['t', 'c', 'e', 'j', 'b', 'o']) (by kernel_rfl) F.owner_object]
  kernel_rfl
def itO (b : Bool) (l : Addr) : Obj := { cls := .type (if b then "list_iterator" else "tuple_iterator"), data := .fields #[.ref l, .int 0 0] }
theorem it_new {prog : Program} {w : World} {A : Around} {E : Value → Shared → Prop} {s : Shared} {b : Bool} {l : Addr} {xs : Array Value} {Q : Value → Shared → Prop} (g : SqS b s.heap l xs) (h : Q (.ref s.heap.objs.size) { s with heap := s.heap.push (itO b l) }) : wpAny (model prog w) A (pyIter (.ref l)) Q E s := by
  cases b
  · exact wpAny_pyIter_tuple g h
  · exact wpAny_pyIter_list g h
abbrev zsH1 (b1 : Bool) (h : Heap) (l1 : Addr) : Heap := h.push (itO b1 l1)
abbrev zsH2 (b1 b2 : Bool) (h : Heap) (l1 l2 : Addr) : Heap := (zsH1 b1 h l1).push (itO b2 l2)
abbrev zsH3 (b1 b2 : Bool) (h : Heap) (l1 l2 : Addr) : Heap := (zsH2 b1 b2 h l1 l2).push { cls := .type "tuple", data := .seq #[.ref h.objs.size, .ref (zsH1 b1 h l1).objs.size] }
abbrev zsH4 (b1 b2 : Bool) (h : Heap) (l1 l2 : Addr) : Heap := (zsH3 b1 b2 h l1 l2).push { cls := .type "tuple", data := .seq #[.none, .none] }
abbrev zsH5 (b1 b2 : Bool) (h : Heap) (l1 l2 : Addr) : Heap := (zsH4 b1 b2 h l1 l2).push { cls := .type "zip", data := .fields #[.none, .bool false, .bool true, .ref (zsH2 b1 b2 h l1 l2).objs.size, .ref (zsH3 b1 b2 h l1 l2).objs.size] }
theorem zs_new (b1 b2 : Bool) (l1 l2 : Addr) (xs ys : Array Value) : Meets (Builtin.«zip.__new__» ⟨[.type "zip", .ref l1, .ref l2], zsK⟩) (fun _ R s => SqS b1 s.heap l1 xs ∧ SqS b2 s.heap l2 ys ∧ R (.ok (.ret (.ref (zsH4 b1 b2 s.heap l1 l2).objs.size))) { s with heap := zsH5 b1 b2 s.heap l1 l2 }) :=
  .of_wp fun prog w A R s h => by
    obtain ⟨hp, g, d, tk, os⟩ := s
    obtain ⟨q1, q2, h⟩ := h
    have hsub := sub_zip
    have p1 : SqS b1 (Shared.heap ⟨hp, g, d, tk, os⟩) l1 xs := q1
    have p2 : SqS b2 (Shared.heap ⟨hp.push (itO b1 l1), g, d, tk, os⟩) l2 ys := SqS.at (h := hp) q2 fun o e => Heap.get?_push_of_some _ e
    wp_walk using it_new p1, it_new p2
    exact ⟨_, rfl, h⟩
end Fx

namespace Fx
open PySem PySem.Spec PyProof.Rows L2
section
variable {prog : Program} {w : World} {A : Around} {E : Value → Shared → Prop} {s : Shared}
theorem zs_call {b1 b2 : Bool} {l1 l2 : Addr} {xs ys : Array Value} {Q : Value → Shared → Prop} (q1 : SqS b1 s.heap l1 xs) (q2 : SqS b2 s.heap l2 ys)
    (h : ∀ h', ZipS h' (s.heap.objs.size + 4) (s.heap.objs.size + 2) (s.heap.objs.size + 3) .none → IsPair h' (s.heap.objs.size + 2) (.ref s.heap.objs.size) (.ref (s.heap.objs.size + 1)) → IsPair h' (s.heap.objs.size + 3) .none .none →
      SqI b1 h' s.heap.objs.size l1 0 → SqI b2 h' (s.heap.objs.size + 1) l2 0 → (∀ c o, s.heap.get? c = some o → h'.get? c = some o) → Q (.ref (s.heap.objs.size + 4)) { s with heap := h' }) :
    wpAny (model prog w) A (call (.type "zip") [.ref l1, .ref l2] zsK) Q E s := by
  refine tcall_kw F.called_zip (by decide) (zs_tc _ _) (zs_nc _ _) (fun o => zs_ic o _ _) (by decide) F.entry_zip_new (zs_new b1 b2 l1 l2 xs ys) ⟨q1, q2, ?_⟩
  have n1 : (zsH1 b1 s.heap l1).objs.size = s.heap.objs.size + 1 := Heap.size_push ..
  have n2 : (zsH2 b1 b2 s.heap l1 l2).objs.size = s.heap.objs.size + 2 := by rw [Heap.size_push, n1]
  have n3 : (zsH3 b1 b2 s.heap l1 l2).objs.size = s.heap.objs.size + 3 := by rw [Heap.size_push, n2]
  have n4 : (zsH4 b1 b2 s.heap l1 l2).objs.size = s.heap.objs.size + 4 := by rw [Heap.size_push, n3]
  have up5 : ∀ {c o}, (zsH4 b1 b2 s.heap l1 l2).get? c = some o → (zsH5 b1 b2 s.heap l1 l2).get? c = some o := fun e => Heap.get?_push_of_some _ e
  have up4 : ∀ {c o}, (zsH3 b1 b2 s.heap l1 l2).get? c = some o → (zsH5 b1 b2 s.heap l1 l2).get? c = some o := fun e => up5 (Heap.get?_push_of_some _ e)
  have up3 : ∀ {c o}, (zsH2 b1 b2 s.heap l1 l2).get? c = some o → (zsH5 b1 b2 s.heap l1 l2).get? c = some o := fun e => up4 (Heap.get?_push_of_some _ e)
  have up2 : ∀ {c o}, (zsH1 b1 s.heap l1).get? c = some o → (zsH5 b1 b2 s.heap l1 l2).get? c = some o := fun e => up3 (Heap.get?_push_of_some _ e)
  have up1 : ∀ {c o}, s.heap.get? c = some o → (zsH5 b1 b2 s.heap l1 l2).get? c = some o := fun e => up2 (Heap.get?_push_of_some _ e)
  have fr : ∀ (b : Bool) (l : Addr), (itO b l).isFreed = false := fun b l => rfl
  have g5 : (zsH5 b1 b2 s.heap l1 l2).get? (zsH4 b1 b2 s.heap l1 l2).objs.size = some _ := Heap.get?_push_size _ rfl
  have g4 := up5 (Heap.get?_push_size (zsH3 b1 b2 s.heap l1 l2) (o := { cls := .type "tuple", data := .seq #[.none, .none] }) rfl)
  have g3 := up4 (Heap.get?_push_size (zsH2 b1 b2 s.heap l1 l2) (o := { cls := .type "tuple", data := .seq #[.ref s.heap.objs.size, .ref (zsH1 b1 s.heap l1).objs.size] }) rfl)
  have g2 := up3 (Heap.get?_push_size (zsH1 b1 s.heap l1) (o := itO b2 l2) rfl)
  have g1 := up2 (Heap.get?_push_size s.heap (o := itO b1 l1) rfl)
  rw [n2, n3, n4] at g5
  rw [n1, n2] at g3
  rw [n3] at g4
  rw [n1] at g2
  have mk : ∀ (b : Bool) (h : Heap) (it l : Addr), h.get? it = some (itO b l) → SqI b h it l 0 := fun b h it l e => by
    cases b
    · exact ⟨_, e, rfl, rfl⟩
    · exact ⟨_, e, rfl, rfl⟩
  show _ ∧ _
  rw [n4]
  exact ⟨⟨_, g5, rfl⟩, h _ g5 g3 g4 (mk _ _ _ _ g1) (mk _ _ _ _ g2) fun c o e => up1 e⟩
end
/-- a sequence as it stands: a list or a tuple -/
def SqG (b : Bool) (K : PySem.W.Frag) (H : Hp) (a : Addr) (xs : List V) : Prop := if b then SqL K H a xs else SqT K H a xs
theorem inv_sq {X : Cx} {pins : List (Addr × Obj)} {σ : L2.St} {H : Hp} {s : Shared} {b : Bool} {a : Addr} {xs : List V} (I : Inv X pins σ H s) (h : SqG b X.K H a xs) : ∃ its : List Value, Vals xs its ∧ SqS b s.heap a its.toArray ∧ a < s.heap.objs.size := by
  cases b
  · obtain ⟨its, r, p, _⟩ := I.tuple (show SqT X.K H a xs from h)
    obtain ⟨o, e, _⟩ := id p
    exact ⟨its, r, p, Heap.lt_size e⟩
  · obtain ⟨its, r, p, _⟩ := I.list (show SqL X.K H a xs from h)
    exact ⟨its, r, p.isList, p.lt⟩
theorem sqg_inj {X : Cx} {pins : List (Addr × Obj)} {σ : L2.St} {H : Hp} {s : Shared} {b : Bool} {a : Addr} {xs ys : List V} (I : Inv X pins σ H s) (h : SqG b X.K H a xs) (h' : SqG b X.K H a ys) : xs = ys := by
  cases b
  · exact I.tuple_inj h h'
  · exact I.list_inj h h'
theorem sqi_obj {b : Bool} {h : Heap} {it l : Addr} {k : Nat} (x : SqI b h it l k) : ∃ o, h.get? it = some o ∧ o.data = .fields #[.ref l, .int k 0] := by
  cases b
  · obtain ⟨o, e, _, d⟩ := x
    exact ⟨o, e, d⟩
  · obtain ⟨o, e, _, d⟩ := x
    exact ⟨o, e, d⟩
/-- both rows as they stand at each turn, of one length -/
def ItS (K : PySem.W.Frag) (b1 b2 : Bool) (a b : Addr) : It :=
  ⟨fun i H => ∃ (xs ys : List V) (x y : V), SqG b1 K H a xs ∧ SqG b2 K H b ys ∧ xs[i]? = some x ∧ ys[i]? = some y,
    fun i H v H' => ∃ T x y, v = .ref T ∧ H T = none ∧ H' = upd H T (.tup [x, y]) ∧ (∀ xs, SqG b1 K H a xs → xs[i]? = some x) ∧ ∀ ys, SqG b2 K H b ys → ys[i]? = some y,
    fun i H => ∃ xs ys : List V, SqG b1 K H a xs ∧ SqG b2 K H b ys ∧ xs.length ≤ i ∧ ys.length ≤ i⟩
theorem five {p : Addr → Prop} {z TI TO i1 i2 : Addr} (h0 : p z) (h1 : p TI) (h2 : p TO) (h3 : p i1) (h4 : p i2) : ∀ c ∈ [z, TI, TO, i1, i2], p c := by
  intro c hc
  simp only [List.mem_cons, List.not_mem_nil, or_false] at hc
  rcases hc with rfl | rfl | rfl | rfl | rfl <;> assumption
theorem turn_zs {P : Program} {w : World} {K : PySem.W.Frag} {elts : List Expr} {kk : Nat} {tpos : Pos} {b1 b2 : Bool} {a b z TI TO i1 i2 : Addr} (D : ZipApart z TI TO i1 i2 a b) :
    Turn P w K (.Tuple elts kk tpos) (ItS K b1 b2 a b) [z, TI, TO, i1, i2] z (fun i h => ZipS h z TI TO .none ∧ IsPair h TI (.ref i1) (.ref i2) ∧ (∃ x y, IsPair h TO x y) ∧ SqI b1 h i1 a i ∧ SqI b2 h i2 b i) where
  mem := List.mem_cons_self
  obj := fun i h ⟨hz, hI, ⟨x, y, hO⟩, j1, j2⟩ => by
    obtain ⟨o1, e1, d1⟩ := sqi_obj j1
    obtain ⟨o2, e2, d2⟩ := sqi_obj j2
    exact five ⟨_, hz, fun v q => nomatch q⟩ ⟨_, hI, fun v q => nomatch q⟩ ⟨_, hO, fun v q => nomatch q⟩ ⟨o1, e1, fun v q => by rw [d1] at q; cases q⟩ ⟨o2, e2, fun v q => by rw [d2] at q; cases q⟩
  keep := fun i h h' ⟨hz, hI, ⟨x, y, hO⟩, j1, j2⟩ k => ⟨k z (by simp) _ hz, k TI (by simp) _ hI, ⟨x, y, k TO (by simp) _ hO⟩, j1.at fun o q => k i1 (by simp) o q, j2.at fun o q => k i2 (by simp) o q⟩
  item := by
    intro X hP hw hK hc i pins s σ H E I hf ⟨hz, hI, ⟨x0, y0, hO⟩, j1, j2⟩ ⟨xs, ys, x, y, qx, qy, hx, hy⟩
    subst hP hw hK
    obtain ⟨its, rv, p, _⟩ := inv_sq I qx
    obtain ⟨its2, rv2, p2, _⟩ := inv_sq I qy
    obtain ⟨u, hu, ru⟩ := rv.get hx
    obtain ⟨u2, hu2, ru2⟩ := rv2.get hy
    have lz : z < s.heap.objs.size := Heap.lt_size hz
    refine zs_next D hz hI hO j1 j2 p p2 (x := u) (y := u2) (by simpa using hu) (by simpa using hu2) fun t z1 O1 m1 m2 hT _ up => ⟨_, rfl, zs_go (s := { s with heap := t }) z1 fun t2 z2 sb => ?_⟩
    have T2 : t2.get? s.heap.objs.size = some { cls := .type "tuple", data := .seq #[u, u2] } := (sb.2 _ (Nat.ne_of_gt lz)).trans hT
    have new : ObjOk X.prog X.w (upd H s.heap.objs.size (.tup [x, y])) t2 s.heap.objs.size (.tup [x, y]) := ⟨by show 2 ≤ sizeLine; decide, [u, u2], .cons ru (.cons ru2 .nil), ⟨_, T2, rfl, _, rfl⟩⟩
    have I1 : Inv X pins σ (upd H s.heap.objs.size (.tup [x, y])) { s with heap := t2 } := I.turnedNew (t' := s.toks) (ch := [z, TI, TO, i1, i2]) (fun c o hb q => by
      simp only [List.mem_cons, List.not_mem_nil, or_false, not_or] at hb
      exact (sb.2 c hb.1).trans (up c o hb.1 hb.2.2.1 hb.2.2.2.1 hb.2.2.2.2 q)) hf (Nat.le_refl _) new
    obtain ⟨o1, e1, _⟩ := sqi_obj j1
    obtain ⟨o2, e2, _⟩ := sqi_obj j2
    have lt : ∀ c ∈ [z, TI, TO, i1, i2], c < s.heap.objs.size := five lz (Heap.lt_size hI) (Heap.lt_size hO) (Heap.lt_size e1) (Heap.lt_size e2)
    refine ⟨.ref s.heap.objs.size, _, I1, rfl, ⟨_, x, y, rfl, I.hok.fresh (Nat.le_refl _), rfl, fun l hl => by rw [sqg_inj I hl qx]; exact hx, fun l hl => by rw [sqg_inj I hl qy]; exact hy⟩, ⟨z2, (sb.2 _ D.TIz).trans (up _ _ D.TIz D.TITO D.TIi1 D.TIi2 hI), ⟨u, u2, (sb.2 _ D.TOz).trans O1⟩, m1.at fun o q => (sb.2 _ D.i1z).trans q, m2.at fun o q => (sb.2 _ D.i2z).trans q⟩, fun c hm => ?_⟩
    rw [upd_ne (Nat.ne_of_lt (lt c hm))]
    exact (hf c hm).1
  done := by
    intro X hP hw hK hc i pins s σ H E I hf ⟨hz, hI, ⟨x0, y0, hO⟩, j1, j2⟩ ⟨xs, ys, qx, qy, ex, ey⟩
    subst hP hw hK
    obtain ⟨its, rv, p, _⟩ := inv_sq I qx
    obtain ⟨its2, rv2, p2, _⟩ := inv_sq I qy
    have n1 := rv.length
    have n2 := rv2.length
    refine zs_stop (I.ok.hd hc) D hz hI hO j1 j2 p p2 (by simp; omega) (by simp; omega) fun t up => ⟨rfl, I.turnedL (t' := s.toks) (ch := [z, TI, TO, i1, i2]) (fun c o hb q => ?_) hf⟩
    simp only [List.mem_cons, List.not_mem_nil, or_false, not_or] at hb
    exact up c o hb.1 hb.2.2.1 hb.2.2.2.1 hb.2.2.2.2 q
  self := fun A i s Q E st h => zs_self st.1 h
end Fx

namespace Fx
open PySem PySem.Spec PyProof.Rows L2
variable [Grd]
section
variable {M : Model} {A : Around} {E : Value → Shared → Prop} {s : Shared} {env : PySem.Env}
theorem cw_typeK {pos : Pos} {T : String} {e : Expr} {rest : List Expr} {kws : List Keyword} {Q : Value → Shared → Prop}
    (h : wpAny M A (spliced (backTo pos (starEach (e :: rest) env))) (fun vs s1 => wpAny M A (evalAll ((backToKw pos (keywordEach kws env)).map (·.2))) (fun ks s2 => wpAny M A (call (.type T) vs (((backToKw pos (keywordEach kws env)).filterMap (·.1)).zip ks)) Q E s2) E s1) E s)
    (he : backTo pos (starEach (e :: rest) env) = (false, eval e env) :: backTo pos (starEach rest env) := by rfl) (hpl : (backTo pos (starEach (e :: rest) env)).any (·.1) = false := by rfl)
    (hall : (backToKw pos (keywordEach kws env)).all (·.1.isSome) = true := by rfl) (hkw : (backToKw pos (keywordEach kws env)).any (·.1.isNone) = false := by rfl) :
    wpAny M A (callWith pos (.type T) [] (backTo pos (starEach (e :: rest) env)) (backToKw pos (keywordEach kws env))) Q E s := by
  unfold callWith
  rw [he] at h hpl ⊢
  refine wpAny_bind (wpAny_holding (thn (evalArgs_kwB (f := .type T) (Q := fun a s2 => wpAny M A (call (.type T) a.pos a.kw) Q E s2) hall h) fun a s1 h1 => wpAny_bind (wpAny_standAt ?_)))
  simp only [hpl, hkw, Bool.or_false]
  exact wpAny_bind (wpAny_pure (wpAny_bind (thn h1 fun r s2 hr => wpAny_bind (wpAny_holding (wpAny_point (wpAny_pure hr))))))
end
section
variable {X : Cx} {e e2 : Expr} {p pos tpos kpos cpos : Pos} {elts : List Expr} {kk cn : Nat}
def iZs (K : PySem.W.Frag) (ta : TA) : TI := fun σ H R => ta σ H fun vs H1 => ∃ b1 b2 a b xs ys, vs = [.ref a, .ref b] ∧ SqG b1 K H1 a xs ∧ SqG b2 K H1 b ys ∧ R (ItS K b1 b2 a b) H1
theorem pi_zs {ta : TA} (hg : Gl X "zip") (hm : X.mg "zip" = none) (ha : PA X [e, e2] ta) (hs : backTo pos (starEach [e, e2] X.env) = (false, eval e X.env) :: backTo pos (starEach [e2] X.env) := by rfl) (hpl : (backTo pos (starEach [e, e2] X.env)).any (·.1) = false := by rfl) :
    PI X (.Tuple elts kk tpos) (.Call (.Name "zip" p) [e, e2] [⟨some "strict", .Constant (.bool true) cn cpos, kpos⟩] pos) (iZs X.K ta) := by
  refine ⟨fun pins s σ H R I h => ?_⟩
  refine wpAny_Call_Name_kw (ld_blt I hg hm PyProof.Rows.boot_zip ?_)
  refine cw_typeK (e := e) (rest := [e2]) (kws := [⟨some "strict", .Constant (.bool true) cn cpos, kpos⟩]) ?_ hs hpl rfl rfl
  refine thn (ha.run pos pins s σ H _ I h) fun us s1 ⟨vs, H1, I1, r1, q1⟩ => ?_
  have hk : PK X [⟨some "strict", .Constant (.bool true) cn cpos, kpos⟩] (tCons (tC (.bl true)) tNil) := pk_cons pe_bl pk_nil
  refine thn (hk.run pos pins s1 σ H1 (fun zs H2 => zs = [.bl true] ∧ H2 = H1) I1 ⟨rfl, rfl⟩) fun ws s2 ⟨zs, H2, I2, rz, ez, eh⟩ => ?_
  subst ez eh
  obtain ⟨b1, b2, a, b, xs, ys, rfl, hqx, hqy, q⟩ := q1
  cases r1 with
  | cons r rr =>
    cases rr with
    | cons r' rr =>
      cases rr
      cases r
      cases r'
      obtain ⟨its, rv, p1, la⟩ := inv_sq I2 hqx
      obtain ⟨its2, rv2, p2, lb⟩ := inv_sq I2 hqy
      cases rz with
      | cons z1 z2 =>
        cases z2
        cases z1
        refine zs_call p1 p2 fun h' hz hI hO h1 h2 up => zs_self hz ?_
        have I3 : Inv X pins σ H2 { s2 with heap := h' } := I2.kept (t' := s2.toks) up
        refine ⟨s2.heap.objs.size + 4, [s2.heap.objs.size + 4, s2.heap.objs.size + 2, s2.heap.objs.size + 3, s2.heap.objs.size, s2.heap.objs.size + 1], _, _, H2, rfl, I3, turn_zs (PySem.W.ktu_apart s2.heap.objs.size a b la lb), ⟨hz, hI, ⟨_, _, hO⟩, h1, h2⟩, fun c hcm => ?_, q⟩
        have hle : ∀ c ∈ [s2.heap.objs.size + 4, s2.heap.objs.size + 2, s2.heap.objs.size + 3, s2.heap.objs.size, s2.heap.objs.size + 1], s2.heap.objs.size ≤ c := five (Nat.le_add_right _ _) (Nat.le_add_right _ _) (Nat.le_add_right _ _) (Nat.le_refl _) (Nat.le_add_right _ _)
        exact I2.fpOk (hle c hcm) (I2.hok.fresh (hle c hcm))
/-- the items of a row -/
def seqOf : D → Option (Bool × List D)
  | .lst xs => some (true, xs)
  | .slst xs => some (true, xs)
  | .tup xs => some (false, xs)
  | _ => none
def zipSI (U : TAd) : TId := fun ds M F => U ds M fun xs M1 => match xs with
  | [d1, d2] => match seqOf d1, seqOf d2 with
    | some (_, xs), some (_, ys) => xs.length = ys.length ∧ F (zipL xs ys) M1
    | _, _ => False
  | _ => False
theorem seqOf_sq {K : PySem.W.Frag} {M : Mp} {H : Hp} {v : V} {d : D} {b : Bool} {xs : List D} (dt : Dt K (hid M H) v d) (e : seqOf d = some (b, xs)) : ∃ a vs, v = .ref a ∧ SqG b K (hid M H) a vs ∧ Dts K (hid M H) vs xs := by
  cases dt with
  | lst q dd => cases e; exact ⟨_, _, rfl, .inl (.inl q), dd⟩
  | slst q dd => cases e; exact ⟨_, _, rfl, q, dd⟩
  | tup q dd => cases e; exact ⟨_, _, rfl, q, dd⟩
  | _ => cases e
theorem sqg_same {K : PySem.W.Frag} {b : Bool} {H H' : Hp} {a : Addr} {xs : List V} (e : Same H H') (h : SqG b K H a xs) : SqG b K H' a xs := by
  cases b
  · exact sqT_same e h
  · exact Same.seq e h
theorem walks_zs {K : PySem.W.Frag} {b1 b2 : Bool} {a b : Addr} {vs ws : List V} {xs ys : List D} {M0 : Mp} {H0 : Hp} (h : SqG b1 K (hid M0 H0) a vs) (d : Dts K (hid M0 H0) vs xs) (h' : SqG b2 K (hid M0 H0) b ws) (d' : Dts K (hid M0 H0) ws ys) (hl : xs.length = ys.length) : Walks K (ItS K b1 b2 a b) (zipL xs ys) M0 H0 := fun i M H ok l => by
  have hq : SqG b1 K H a vs := sqg_same hid_sub (sqg_same l.same h)
  have hq' : SqG b2 K H b ws := sqg_same hid_sub (sqg_same l.same h')
  refine ⟨fun x hx => ?_, fun e => ⟨vs, ws, hq, hq', by rw [zipL_len] at e; rw [d.length]; omega, by rw [zipL_len] at e; rw [d'.length]; omega⟩⟩
  obtain ⟨x1, y1, g1, g2, rfl⟩ := zipL_get _ _ _ _ hx
  obtain ⟨v, e1, e2⟩ := d.get g1
  obtain ⟨w, f1, f2⟩ := d'.get g2
  refine ⟨⟨vs, ws, v, w, hq, hq', e1, f1⟩, fun y H' ⟨T, z, z', ey, nT, eH, hz, hz'⟩ => ?_⟩
  subst ey eH
  have e3 := (hz vs hq).symm.trans e1
  cases e3
  have e4 := (hz' ws hq').symm.trans f1
  cases e4
  obtain ⟨ok2, l2⟩ := ok.lay (p := T) (o := .tup [v, w]) nT
  refine ⟨.tup (.inl (.inl ?_)) (.cons ((e2.mono l.same).mono l2.same) (.cons ((f2.mono l.same).mono l2.same) .nil)), ok2, l2⟩
  rw [hid_of (ok.free nT)]
  exact upd_same
theorem di_zs {U : TAd} (hg : Gl X "zip") (hm : X.mg "zip" = none) (ha : DA X [e, e2] U) (hs : backTo pos (starEach [e, e2] X.env) = (false, eval e X.env) :: backTo pos (starEach [e2] X.env) := by rfl) (hpl : (backTo pos (starEach [e, e2] X.env)).any (·.1) = false := by rfl) :
    DI X (.Tuple elts kk tpos) (.Call (.Name "zip" p) [e, e2] [⟨some "strict", .Constant (.bool true) cn cpos, kpos⟩] pos) (zipSI U) := (pi_zs hg hm ha hs hpl).fimp fun σ H R ⟨ds, M, F, ev, ok, h, af⟩ =>
  ⟨ds, M, _, ev, ok, h, fun xs M1 h1 vs H1 ok1 dts l1 => by
    split at h1
    · split at h1
      · next b1 xs b2 ys s1 s2 =>
        obtain ⟨hl, hF⟩ := h1
        cases dts with
        | cons d1 d2 =>
          cases d2 with
          | cons d2 d3 =>
            cases d3
            obtain ⟨a, us, rfl, q1, w1⟩ := seqOf_sq d1 s1
            obtain ⟨b, us', rfl, q2, w2⟩ := seqOf_sq d2 s2
            exact ⟨b1, b2, a, b, us, us', rfl, sqg_same hid_sub q1, sqg_same hid_sub q2, af _ M1 hF H1 _ ok1 l1 (walks_zs q1 w1 q2 w2 hl)⟩
      · exact h1.elim
    · exact h1.elim⟩
end
end Fx

namespace Fx
open PySem PySem.Spec PyProof.Rows L2
variable [Grd]
/-! lists that may change, made by a display, by list(x), by a comprehension -/
def lcM (T : TId) (t : Tg) (C : TTd) (E : TEd) (vs : List Nat) : TEd := fun ds M F => T ds M fun xs M1 => ∀ L, M1 L = none → ∃ W : Nat → List D → Mp → Prop, W 0 [] (updM M1 L (.lst [])) ∧
  (∀ i d acc M', xs[i]? = some d → W i acc M' → acc.length < 1000000 ∧ gD t d (wipeD ds vs) fun ds2 => C ds2 M' fun b M2 => br b
    (E ds2 M2 fun y M3 => M3 L = some (.lst acc) ∧ W (i + 1) (acc ++ [y]) (updM M3 L (.lst (acc ++ [y]))))
    (W (i + 1) acc M2)) ∧ ∀ acc M', W xs.length acc M' → M' L = some (.lst acc) ∧ F (.ref L) M'
theorem emb_lcM {K : PySem.W.Frag} {T : TId} {t : Tg} {C : TTd} {E : TEd} {vs : List Nat} (hv : ∀ j ∈ slots t, j ∈ vs) : ∀ σ H Q, emb K (lcM T t C E vs) σ H Q → tLc (embI K T) (gV K t) (embT K C) (emb K E) vs σ H Q := fun σ H Q ⟨ds, M, F, ev, ok, h, af⟩ =>
  ⟨ds, M, _, ev, ok, h, fun xs M1 h1 H1 J ok1 l1 wk L hL => by
    obtain ⟨W, w0, wt, wd⟩ := h1 L (ok1.free hL)
    obtain ⟨ok2, l2⟩ := ok1.put (p := L) (o := .lst []) (m := .lst []) (.inr hL) ⟨[], upd_same, .nil⟩
    refine ⟨fun i m H' => m = xs.length - i ∧ i ≤ xs.length ∧ ∃ acc M', W i acc M' ∧ HpOk K M' H' ∧ Lat M1 H1 M' H', ⟨xs.length, by simp, Nat.zero_le _, [], _, w0, ok2, l2⟩, fun i m H' ⟨em, hi, acc, M', w', ok', l'⟩ => ?_⟩
    obtain ⟨wgo, wstop⟩ := wk i M' H' ok' l'
    by_cases hlt : i < xs.length
    · obtain ⟨go, yl⟩ := wgo xs[i] (by simp [hlt])
      obtain ⟨hz, wt'⟩ := wt i xs[i] acc M' (by simp [hlt]) w'
      refine .inr ⟨go, fun H2 => ∃ acc2 M2, W (i + 1) acc2 M2 ∧ HpOk K M2 H2 ∧ Lat M1 H1 M2 H2, fun H2 ⟨acc2, M2, w2, ok2, l2⟩ => ⟨xs.length - (i + 1), by omega, rfl, hlt, acc2, M2, w2, ok2, l2⟩, fun x H2 y => ?_⟩
      obtain ⟨dt, ok3, l3⟩ := yl x H2 y
      have lt : Lat M1 H1 M' H2 := l'.trans l3
      refine gD_ok t dt (env_wipe (ev.mono (l1.trans lt)) vs) wt' fun ds3 σ3 f3 ev3 hw => ⟨?_, ds3, M', _, ev3, ok3, f3, fun b M3 h3 H3 ok4 l4 => ?_⟩
      · rw [hw vs hv]
        clear hw f3 ev3 dt y yl
        have : ∀ ws : List Nat, (∀ j ∈ ws, j ∈ vs) → wipe (wipe σ vs) ws = wipe σ vs := by
          intro ws
          induction ws with
          | nil => intro _; rfl
          | cons w ws ih =>
            intro hsub
            show (wipe (wipe σ vs) ws).set w none = wipe σ vs
            rw [ih fun j hj => hsub j (List.mem_cons_of_mem _ hj)]
            have hwm := hsub w List.mem_cons_self
            have key : ∀ us : List Nat, w ∈ us → (wipe σ us).set w none = wipe σ us := by
              intro us
              induction us with
              | nil => intro z; cases z
              | cons u us ih2 =>
                intro hu
                unfold wipe
                by_cases e : w = u
                · subst e
                  rw [List.set_set]
                · rw [List.set_comm _ _ (Ne.symm e), ih2 ((List.mem_cons.mp hu).resolve_left e)]
            exact key vs hwm
        exact this vs fun _ z => z
      · cases b with
        | true =>
          refine iteT ⟨ds3, M3, _, ev3.mono l4, ok4, h3, fun y M4 ⟨eL, w4⟩ v H4 ok5 dt5 l5 => ?_⟩
          obtain ⟨av, e1, e2⟩ := ok5 _ _ eL
          obtain ⟨ok6, l6⟩ := ok5.put (p := L) (o := .lst (av ++ [v])) (m := .lst (acc ++ [y])) (.inl (by rw [eL]; simp)) ⟨av ++ [v], upd_same, by
            have q : Same (hid M4 H4) (hid (updM M4 L (.lst (acc ++ [y]))) (upd H4 L (.lst (av ++ [v])))) := fun b o hb => by
              obtain ⟨n, e⟩ := hid_some hb
              have nb : b ≠ L := fun z => by rw [z, eL] at n; cases n
              rw [hid_of (by rw [updM_ne nb]; exact n), upd_ne nb]
              exact e
            exact (e2.append (.cons dt5 .nil)).mono q⟩
          exact ⟨av, e1, by rw [e2.length]; exact big_lt hz, _, _, w4, ok6, ((lt.trans l4).trans l5).trans l6⟩
        | false => exact iteF ⟨acc, M3, h3, ok4, lt.trans l4⟩
    · have e : i = xs.length := by omega
      subst e
      obtain ⟨eL, f⟩ := wd _ _ w'
      exact .inl ⟨wstop rfl, af _ _ f _ _ ok' (.ref L) (l1.trans l')⟩⟩
section
variable {X : Cx} {elt tg iter : Expr} {ifs : List Expr} {scope : Scope} {own : List (Str × Nat)} {pos : Pos} {T : TId} {t : Tg} {C : TTd} {E : TEd}
theorem de_lcM (vs : List Nat) (hc : X.calm = true) (hN : X.N.Nodup) (hi : DI X tg iter T) (ok : BlkOk X.N X.env.scope scope own) (hv : ∀ j ∈ slots t, j ∈ own.map (·.2))
    (hg : ∀ (s : Shared) (H : Hp) (Ca : Addr) (cl : List (Str × Addr)) (fp : List Addr), PG (X.blk s H scope (compEnvC scope cl Ca X.env) fp) tg (gV X.K t)) (ht : ∀ (s : Shared) (H : Hp) (Ca : Addr) (cl : List (Str × Addr)) (fp : List Addr), DTs (X.blk s H scope (compEnvC scope cl Ca X.env) fp) ifs C)
    (he : ∀ (s : Shared) (H : Hp) (Ca : Addr) (cl : List (Str × Addr)) (fp : List Addr), DE (X.blk s H scope (compEnvC scope cl Ca X.env) fp) elt E) (hs : ∀ x, foldedSetIterable iter X.env x = pure x := by intro _; rfl) (hvs : own.map (·.2) = vs := by rfl) :
    DE X (.ListComp elt [⟨tg, iter, ifs, 0⟩] scope pos) (lcM T t C E vs) := by
  subst hvs
  exact (pe_lc hc hN hi ok hg ht he hs).fimp (emb_lcM hv)
theorem ds_setLcM {y : Str} {py spos : Pos} (vs : List Nat) (i : Nat) (hc : X.calm = true) (hN : X.N.Nodup) (hi : DI X tg iter T) (ok : BlkOk X.N X.env.scope scope own) (hv : ∀ j ∈ slots t, j ∈ own.map (·.2))
    (hg : ∀ (s : Shared) (H : Hp) (Ca : Addr) (cl : List (Str × Addr)) (fp : List Addr), PG (X.blk s H scope (compEnvC scope cl Ca X.env) fp) tg (gV X.K t)) (ht : ∀ (s : Shared) (H : Hp) (Ca : Addr) (cl : List (Str × Addr)) (fp : List Addr), DTs (X.blk s H scope (compEnvC scope cl Ca X.env) fp) ifs C)
    (he : ∀ (s : Shared) (H : Hp) (Ca : Addr) (cl : List (Str × Addr)) (fp : List Addr), DE (X.blk s H scope (compEnvC scope cl Ca X.env) fp) elt E) (hsw : swapsWith (.ListComp elt [⟨tg, iter, ifs, 0⟩] scope pos) (some (.Name y py)) spos.line X.env = pure true) (hy : X.N[i]? = some y := by rfl) (hyl : X.env.scope.names.lookup y = some .local := by rfl)
    (hs : ∀ x, foldedSetIterable iter X.env x = pure x := by intro _; rfl) (hvs : own.map (·.2) = vs := by rfl) :
    DS X (.Assign [.Name y py] (.ListComp elt [⟨tg, iter, ifs, 0⟩] scope pos) spos) (asgD (lcM T t C E vs) (.nm i)) := by
  subst hvs
  exact (ps_setLc hc hN hy hyl hsw hi ok hg ht he hs).fimp fun Z σ H ⟨ds, M, B, ev, ok, h, a⟩ => emb_lcM hv σ H _ ⟨ds, M, _, ev, ok, h, fun d M1 h1 v H1 ok1 dt l1 => a.nx _ _ h1 _ _ ((ev.mono l1).set i dt) ok1 l1⟩
end
section
variable {X : Cx} {es : List Expr} {U : TAd} {pos : Pos} {e : Expr} {T : TEd}
def lstM (U : TAd) : TEd := fun ds M F => U ds M fun xs M1 => xs.length ≤ 1000000 ∧ ∀ p, M1 p = none → F (.ref p) (updM M1 p (.lst xs))
theorem de_lstM (h : DA X es U) : DE X (.List es pos) (lstM U) := (pe_lst h).fimp fun σ H Q ⟨ds, M, F, ev, ok, h, a⟩ =>
  ⟨ds, M, _, ev, ok, h, fun xs M1 h1 vs H1 ok1 dts l1 => ⟨by rw [dts.length]; exact big_le h1.1, (a.later l1).layM ok1 dts h1.2⟩⟩
/-- a list that changes no more -/
def frzD (T : TEd) : TEd := fun ds M F => T ds M fun d M1 => match d with
  | .ref p => match M1 p with
    | some (.lst xs) => F (.lst xs) (delM M1 p)
    | _ => False
  | d => F d M1
theorem de_frz (h : DE X e T) : DE X e (frzD T) := h.fimp fun σ H Q ⟨ds, M, F, ev, ok, h, a⟩ => ⟨ds, M, _, ev, ok, h, fun d M1 h1 v H1 ok1 dt l1 => by
  split at h1
  · next p =>
    split at h1
    · next xs e =>
      cases dt
      obtain ⟨av, e1, e2⟩ := ok1 _ _ e
      obtain ⟨ok3, l3⟩ := ok1.frz p
      refine a _ _ h1 _ _ ok3 (.lst ?_ (e2.mono l3.same)) (l1.trans l3)
      rw [hid_of delM_same]
      exact e1
    · exact h1.elim
  · exact a _ _ h1 _ _ ok1 dt l1⟩
/-- behind the value, one of the changing lists is no longer looked at -/
def drpD (T : TEd) : TEd := fun ds M F => T ds M fun d M1 => ∃ p, F d (delM M1 p)
theorem de_drp (h : DE X e T) : DE X e (drpD T) := h.fimp fun σ H Q ⟨ds, M, F, ev, ok, h, a⟩ => ⟨ds, M, _, ev, ok, h, fun d M1 ⟨p, h1⟩ v H1 ok1 dt l1 => by
  obtain ⟨ok3, l3⟩ := ok1.frz p
  exact a _ _ h1 _ _ ok3 (dt.mono l3.same) (l1.trans l3)⟩
theorem u65 {A : Around} {k : Nat} (hr : Room k A) : A.units + 65 < cLine := by have := u200 hr; omega
/-- x in y, x not in y: a sign of a text, one of a row of data -/
def memR (neg : Bool) : R2d
  | .str x, .str z, M, F => match x.cps.toList with
    | [c] => F (.bl (if neg then !decide (c ∈ z.cps.toList) else decide (c ∈ z.cps.toList))) M
    | _ => False
  | d, .tup ys, M, F => (okD d && okD (.tup ys)) = true ∧ F (.bl (if neg then !(ys.any fun y => eqD y d) else ys.any fun y => eqD y d)) M
  | d, .lst ys, M, F => (okD d && okD (.lst ys)) = true ∧ F (.bl (if neg then !(ys.any fun y => eqD y d) else ys.any fun y => eqD y d)) M
  | _, _, _, _ => False
theorem any_py (d : D) : ∀ ys : List D, ((pys ys).any fun y => PyData.eqv y (py d)) = ys.any fun y => eqD y d
  | [] => rfl
  | y :: ys => by
    rw [pys, List.any_cons, List.any_cons, any_py d ys]
    rfl
theorem shp {d : D} (h : okD d = true) : flat d = true ∧ SeqAt.shaped (py d) = true := by simpa [okD] using h
theorem room_mem {A : Around} {d : PyData} {ds : List PyData} (h : SeqAt.shaped d = true) (hu : A.units + 65 < cLine) : A.units + 1 + min (PyData.depthAll ds) d.depth < cLine := by
  have := SeqAt.depth_of_shaped h
  have := Nat.min_le_right (PyData.depthAll ds) d.depth
  omega
end
section
variable {X : Cx}
theorem or_mem {pins : List (Addr × Obj)} {s : Shared} {σ : L2.St} {H : Hp} {x y : V} {v u : Value} {Q : VK} (neg : Bool) (op : CmpOp) (hop : op = if neg then .NotIn else .In) (hu : X.A.units + 65 < cLine) (I : Inv X pins σ H s) (rx : RelV x v) (ry : RelV y u) (h : up2 X.K (memR neg) x y H Q) : wpAny (model X.prog X.w) X.A (compareOp op v u) (EP X pins σ Q) X.xe s := by
  obtain ⟨a, b, M, F, da, db, ok, h, af⟩ := h
  unfold memR at h
  split at h
  · next x z =>
    cases da
    cases db
    split at h
    · next c e =>
      obtain ⟨⟨l⟩⟩ := x
      simp only at e
      subst e
      cases neg
      · subst hop
        exact op_in_sign pins s σ H _ _ v u Q I rx ry ⟨c, z, rfl, rfl, af _ _ h _ _ ok (.bl _) (Lat.refl _ _)⟩
      · subst hop
        exact op_notIn_sign pins s σ H _ _ v u Q I rx ry ⟨c, z, rfl, rfl, af _ _ h _ _ ok (.bl _) (Lat.refl _ _)⟩
    · exact h.elim
  · next ys =>
    obtain ⟨hk, hF⟩ := h
    have k1 : okD a = true ∧ okD (.tup ys) = true := by simpa using hk
    obtain ⟨f1, s1⟩ := shp k1.1
    obtain ⟨f2, s2⟩ := shp k1.2
    obtain ⟨as, r1⟩ := Dp.reads I _ x v (da.dp f1) rx
    obtain ⟨bs, r2⟩ := Dp.reads I _ y u (db.dp f2) ry
    rw [py] at r2 s2
    cases neg
    · subst hop
      exact SeqAt.in_tuple_reads r2 r1 (SeqAt.canLay_of_shaped s2) (SeqAt.canLay_of_shaped s1) (room_mem s1 hu) ⟨.bl _, H, I, rfl, by rw [any_py]; exact af _ _ hF _ _ ok (.bl _) (Lat.refl _ _)⟩
    · subst hop
      exact SeqAt.notIn_tuple_reads r2 r1 (SeqAt.canLay_of_shaped s2) (SeqAt.canLay_of_shaped s1) (room_mem s1 hu) ⟨.bl _, H, I, rfl, by rw [any_py]; exact af _ _ hF _ _ ok (.bl _) (Lat.refl _ _)⟩
  · next ys =>
    obtain ⟨hk, hF⟩ := h
    have k1 : okD a = true ∧ okD (.lst ys) = true := by simpa using hk
    obtain ⟨f1, s1⟩ := shp k1.1
    obtain ⟨f2, s2⟩ := shp k1.2
    obtain ⟨as, r1⟩ := Dp.reads I _ x v (da.dp f1) rx
    obtain ⟨bs, r2⟩ := Dp.reads I _ y u (db.dp f2) ry
    rw [py] at r2 s2
    cases neg
    · subst hop
      exact SeqAt.in_list_reads r2 r1 (SeqAt.canLay_of_shaped s2) (SeqAt.canLay_of_shaped s1) (room_mem s1 hu) ⟨.bl _, H, I, rfl, by rw [any_py]; exact af _ _ hF _ _ ok (.bl _) (Lat.refl _ _)⟩
    · subst hop
      exact SeqAt.notIn_list_reads r2 r1 (SeqAt.canLay_of_shaped s2) (SeqAt.canLay_of_shaped s1) (room_mem s1 hu) ⟨.bl _, H, I, rfl, by rw [any_py]; exact af _ _ hF _ _ ok (.bl _) (Lat.refl _ _)⟩
  · exact h.elim
theorem or_inM (hu : X.A.units + 65 < cLine) : OpR X (compareOp .In) (up2 X.K (memR false)) := fun pins s σ H x y v u Q I rx ry h => or_mem false _ rfl hu I rx ry h
theorem or_notinM (hu : X.A.units + 65 < cLine) : OpR X (compareOp .NotIn) (up2 X.K (memR true)) := fun pins s σ H x y v u Q I rx ry h => or_mem true _ rfl hu I rx ry h
/-- int(x) of a number or a truth value -/
def intR : RB
  | [.int i], M, F => F (.int i) M
  | [.bl b], M, F => F (.int (if b then 1 else 0)) M
  | _, _, _ => False
theorem cb_int : CallR X (.type "int") (upC X.K intR) := by
  intro pins s σ H vs us Q I r h
  obtain ⟨xs, M, F, dts, ok, h, af⟩ := h
  unfold intR at h
  split at h
  · cases dts with
    | cons d1 d2 =>
      cases d2
      cases d1
      exact call_int1 pins s σ H _ _ Q I r (.inl ⟨_, rfl, af _ _ h _ _ ok (.int _) (Lat.refl _ _)⟩)
  · cases dts with
    | cons d1 d2 =>
      cases d2
      cases d1
      exact call_int1 pins s σ H _ _ Q I r (.inr ⟨_, rfl, af _ _ h _ _ ok (.int _) (Lat.refl _ _)⟩)
  · exact h.elim
/-- list(x), as a list that may change -/
def listM : RB
  | [.lst xs], M, F => ∀ p, M p = none → F (.ref p) (updM M p (.lst xs))
  | [.slst xs], M, F => ∀ p, M p = none → F (.ref p) (updM M p (.lst xs))
  | [.tup xs], M, F => ∀ p, M p = none → F (.ref p) (updM M p (.lst xs))
  | _, _, _ => False
theorem cb_listM : CallR X (.type "list") (upC X.K listM) := by
  intro pins s σ H vs us Q I rv h
  obtain ⟨xs, M, F, dts, ok, h, af⟩ := h
  unfold listM at h
  split at h
  · obtain ⟨v, rfl, dt⟩ := one_of dts
    cases dt with
    | lst q dd => exact call_list_of pins s σ H _ us Q I rv ⟨_, _, rfl, .inl (.inl (.inl (hid_sub _ _ q))), af.layM ok dd h⟩
  · obtain ⟨v, rfl, dt⟩ := one_of dts
    cases dt with
    | slst q dd => exact call_list_of pins s σ H _ us Q I rv ⟨_, _, rfl, .inl (Same.seq hid_sub q), af.layM ok dd h⟩
  · obtain ⟨v, rfl, dt⟩ := one_of dts
    cases dt with
    | tup q dd => exact call_list_of pins s σ H _ us Q I rv ⟨_, _, rfl, .inr (sqT_same hid_sub q), af.layM ok dd h⟩
  · exact h.elim
end
end Fx

namespace Fx
open PySem PySem.Spec PyProof.Rows L2
variable [Grd]
/-! written values -/
def CS (T : TEd) (d : D) : Prop := ∀ ds M (F : DK), F d M → T ds M F
def CA (U : TAd) (xs : List D) : Prop := ∀ ds M (G : List D → Mp → Prop), G xs M → U ds M G
omit [Grd] in
theorem cs_c {d : D} : CS (cD d) d := fun _ _ _ h => h
omit [Grd] in
theorem cs_neg {i : Int} : CS (negD (cD (.int i))) (.int (-i)) := fun _ _ _ h => h
omit [Grd] in
theorem ca_nil : CA nilD [] := fun _ _ _ h => h
omit [Grd] in
theorem ca_cons {T : TEd} {U : TAd} {d : D} {xs : List D} (h : CS T d) (r : CA U xs) : CA (consD T U) (d :: xs) := fun ds M _ g => h ds M _ (r ds M _ g)
omit [Grd] in
theorem cs_lst {U : TAd} {xs : List D} (h : CA U xs) (hl : xs.length ≤ 1000000) : CS (lstD U) (.lst xs) := fun ds M _ g => h ds M _ ⟨hl, g⟩
omit [Grd] in
theorem cs_tup {U : TAd} {xs : List D} (h : CA U xs) (hl : xs.length ≤ 1000000) : CS (tupD U) (.tup xs) := fun ds M _ g => h ds M _ ⟨hl, g⟩
theorem de_as {X : Cx} {e : Expr} {T : TEd} {d : D} (h : DE X e T) (c : CS T d) : DE X e (cD d) := h.fimp fun σ H Q ⟨ds, M, F, ev, ok, q, a⟩ => ⟨ds, M, F, ev, ok, c ds M F q, a⟩
/-! e[::-1] of lists, tuples and texts -/
omit [Grd] in
theorem strRev_ix (n : Nat) : Builtin.Str.strSliceIndices none none (-1) n = (List.range n).reverse := by
  show sliceRange ((n : Int) - 1) (-1) (-1) = _
  rw [PySem.W.krv_sliceRange, PySem.W.krv_range]
section
open HT
variable {prog : Program} {w : World} {A : Around} {E : Value → Shared → Prop} {s : Shared}
omit [Grd] in
theorem applied_rev {sl : Addr} {vl vu vs : Value} {n : Nat} {Q : Int × Int × Nat → Shared → Prop} (hs : s.heap.IsSliceOf sl vl vu vs) (pl : IsPart vl none) (pu : IsPart vu none) (ps : IsPart vs (some (-1)))
    (h : Q ((n : Int) - 1, -1, n) s) : wpAny (model prog w) A (Builtin.Slice.sliceApplied (.ref sl) (pure (n : Int))) Q E s := by
  obtain ⟨os, hos, hcs, hds⟩ := id hs
  unfold Builtin.Slice.sliceApplied Builtin.Slice.sliceFields
  refine wpAny_bind (wpAny_bind (wpAny_field hos hds (x := vl) rfl (wpAny_bind (wpAny_field hos hds (x := vu) rfl (wpAny_bind (wpAny_field hos hds (x := vs) rfl (wpAny_pure ?_)))))))
  refine wpAny_bind (slicePart_ ps ?_)
  show wpAny _ _ (if ((-1 : Int) == 0) = true then _ else _) _ _ s
  rw [if_neg (by decide)]
  refine wpAny_bind (slicePart_ pl (wpAny_bind (slicePart_ pu (wpAny_bind (wpAny_pure ?_)))))
  show wpAny _ _ (pure ((n : Int) - 1, (-1 : Int), Builtin.Slice.slicePlaces ((n : Int) - 1) (-1) (-1))) _ _ s
  have e : Builtin.Slice.slicePlaces ((n : Int) - 1) (-1) (-1) = n := by
    unfold Builtin.Slice.slicePlaces
    rw [if_neg (by decide)]
    split
    · rw [show (- -1 : Int) = 1 by decide, Int.ediv_one]
      omega
    · omega
  rw [e]
  exact wpAny_pure h
omit [Grd] in
theorem getItem_tuple_rev {t sl : Addr} {items : Array Value} {vl vu vs : Value} {Q : Value → Shared → Prop} (ht : IsTup s.heap t items) (hs : s.heap.IsSliceOf sl vl vu vs) (pl : IsPart vl none) (pu : IsPart vu none) (ps : IsPart vs (some (-1)))
    (h : Q (.ref s.heap.objs.size) { s with heap := s.heap.push { cls := .type "tuple", data := .seq items.toList.reverse.toArray } })
    (hsz : items.size ≤ sizeLine) : wpAny (model prog w) A (getItem (.ref t) (.ref sl)) Q E s := by
  have htake : sizeOk (.seq items.toList.reverse.toArray) := by
    show items.toList.reverse.toArray.size ≤ sizeLine
    rw [List.size_toArray, List.length_reverse, Array.length_toList]
    exact hsz
  obtain ⟨os, hos, hcs, hds⟩ := id hs
  have hTs : s.TypeIs (.ref sl) "slice" := ⟨os, hos, hcs⟩
  have pick : ((List.range items.size).filterMap fun (k : Nat) => items[(((items.size : Int) - 1) + (k : Int) * (-1)).toNat]?).toArray = items.toList.reverse.toArray := by
    have e : (List.range items.size).filterMap (fun (k : Nat) => items[(((items.size : Int) - 1) + (k : Int) * (-1)).toNat]?) = ((List.range items.size).map fun k => items.size - 1 - k).filterMap (items[·]?) := by
      rw [List.filterMap_map]
      have key : ∀ l : List Nat, (∀ k ∈ l, k < items.size) → l.filterMap (fun (k : Nat) => items[(((items.size : Int) - 1) + (k : Int) * (-1)).toNat]?) = l.filterMap ((fun x => items[x]?) ∘ fun k => items.size - 1 - k) := by
        intro l
        induction l with
        | nil => intro _; rfl
        | cons k l ih =>
          intro hl
          have hk := hl k (List.mem_cons_self ..)
          have q : (((items.size : Int) - 1) + (k : Int) * (-1)).toNat = items.size - 1 - k := by omega
          rw [List.filterMap_cons, List.filterMap_cons, ih fun z hz => hl z (List.mem_cons_of_mem _ hz), q]
          rfl
      exact key _ fun k hk => List.mem_range.mp hk
    rw [e, PySem.W.krv_range, List.filterMap_reverse, PySem.W.krv_all]
  unfold getItem
  try with_reducible refine wpAny_holding ?_
  first | refine wpAny_bind (wpAny_pure ?_) | skip
  refine wpAny_bind (wpAny_sequenceKey ht.typeIs (by decide) ?_)
  refine wpAny_bind (wpAny_callSpecial?_slot (name := Str.ofString "__getitem__") ht.typeIs PyProof.Rows.slot_tuple_getitem
    (wpAny_call_entry PyProof.Rows.slot_tuple_getitem ht.typeIs entry_tuple_getitem ?_ (args_tuple_getitem _ _)))
  show wpAny _ _ (Builtin.Tuple.tupleItemsOf (.ref t) >>= _) _ _ s
  refine wpAny_bind (tupleItemsOf_ ht ?_)
  refine wpAny_bind (wpAny_typeOf hTs ?_)
  rw [if_pos (by decide)]
  refine wpAny_bind (applied_rev hs pl pu ps ?_)
  have hno : ¬ ((((items.size : Int) - 1) == 0 && (-1 : Int) == 1 && items.size == items.size) = true) := by
    intro q
    rw [Bool.and_eq_true, Bool.and_eq_true] at q
    exact absurd q.1.2 (by decide)
  show wpAny _ _ (if (((items.size : Int) - 1) == 0 && (-1 : Int) == 1 && items.size == items.size) = true then _ else _) _ _ s
  rw [if_neg hno, pick]
  first
    | exact wpAny_bind (m := Builtin.Tuple.tupleExact _) (wpAny_newObj_type (wpAny_pure ⟨_, rfl, wpAny_pure h⟩) htake)
    | exact wpAny_bind (m := Builtin.Tuple.tupleExact _) (wpAny_newObj_type (wpAny_bind (wpAny_pure (wpAny_pure ⟨_, rfl, wpAny_pure h⟩))) htake)
    | exact wpAny_bind (wpAny_bind (m := Builtin.Tuple.tupleExact _) (wpAny_newObj_type (wpAny_pure (wpAny_pure ⟨_, rfl, wpAny_pure h⟩)) htake))
    | exact wpAny_bind (wpAny_bind (m := Builtin.Tuple.tupleExact _) (wpAny_newObj_type (wpAny_pure ⟨_, rfl, wpAny_pure h⟩) htake))
end
def revS (z : Str) : Str := ⟨z.cps.toList.reverse.toArray⟩
def tRevA (K : PySem.W.Frag) (te : TE) : TE := fun σ H Q => te σ H fun x H1 => (∃ a xs, x = .ref a ∧ SqL K H1 a xs ∧ ∀ p, H1 p = none → Q (.ref p) (upd H1 p (.lst xs.reverse))) ∨
  (∃ a xs, x = .ref a ∧ SqT K H1 a xs ∧ ∀ p, H1 p = none → Q (.ref p) (upd H1 p (.tup xs.reverse))) ∨ ∃ z, x = .str z ∧ z.length ≤ sizeLine ∧ Q (.str (revS z)) H1
section
variable {X : Cx}
omit [Grd] in
theorem pe_revA {e : Expr} {te : TE} {k : Nat} {p1 p2 p3 pos : Pos} (he : PE X e te) : PE X (.Subscript e (.Slice none none (some (.UnaryOp .USub (.Constant (.int 1) k p1) p2)) p3) pos) (tRevA X.K te) := by
  refine ⟨fun pins s σ H Q I h => ?_⟩
  refine Subscript_ (thn (he.run pins s σ H _ I h) fun v s1 ⟨x, H1, I1, r1, q1⟩ => ?_)
  have hst : PO X (some (.UnaryOp .USub (.Constant (.int 1) k p1) p2)) (tPart (tUn (rU fun i => .int (-i)) (tC (.int 1)))) := po_some (pe_un un_neg pe_int)
  refine wpAny_Slice (thn (po_none.run pins s1 σ H1 (fun o H2 => o = none ∧ H2 = H1) I1 ⟨rfl, rfl⟩) fun vl s2 ⟨l, H2, I2, pl, el, e2⟩ => ?_)
  subst el e2
  refine thn (po_none.run pins s2 σ H2 (fun o H3 => o = none ∧ H3 = H2) I2 ⟨rfl, rfl⟩) fun vu s3 ⟨u, H3, I3, pu, eu, e3⟩ => ?_
  subst eu e3
  refine thn (hst.run pins s3 σ H3 (fun o H4 => o = some (-1) ∧ H4 = H3) I3 ⟨1, rfl, -1, rfl, rfl, rfl⟩) fun vs s4 ⟨o, H4, I4, ps, eo, e4⟩ => ?_
  subst eo e4
  have I5 : Inv X pins σ H4 { s4 with heap := s4.heap.push { cls := .type "slice", data := .fields #[vl, vu, vs] } } := I4.kept (t' := s4.toks) fun b ob q => Heap.get?_push_of_some _ q
  show wpAny (model X.prog X.w) X.A (subscriptTail e (.Slice none none (some (.UnaryOp .USub (.Constant (.int 1) k p1) p2)) p3) v (.ref s4.heap.objs.size)) (EP X pins σ Q) X.xe { s4 with heap := s4.heap.push { cls := .type "slice", data := .fields #[vl, vu, vs] } }
  rcases q1 with ⟨a, xs, ex, hx, q⟩ | ⟨a, xs, ex, hx, q⟩ | ⟨z, ex, hz, q⟩
  · subst ex
    cases r1
    obtain ⟨its, r, ht, hz⟩ := I5.list hx
    have hlen := r.length
    refine tail_any (ops := [.ref a, .ref s4.heap.objs.size]) ht.isList.typeIs (PySem.slot_list_getitem.lookup) ?_ (by with_unfolding_all rfl)
    refine wpAny_getItem_list_slice ht.isList (Heap.IsSliceOf.new _ vl vu vs) pl pu ps (by decide) ?_ (by rw [List.size_toArray]; omega)
    rw [PySem.W.krv_pick]
    refine ⟨.ref _, _, I5.laid (t' := s4.toks) (o := .lst xs.reverse) (fun b ob q => Heap.get?_push_of_some _ q) (Nat.le_refl _) ?_, rfl, q _ (I5.hok.fresh (Nat.le_refl _))⟩
    exact ⟨by rw [List.length_reverse]; exact hz, _, 0, r.reverse, Heap.get?_push_size _ rfl⟩
  · subst ex
    cases r1
    obtain ⟨its, r, ht, hz⟩ := I5.tuple hx
    have hlen := r.length
    refine tail_any (ops := [.ref a, .ref s4.heap.objs.size]) ht.typeIs PyProof.Rows.slot_tuple_getitem.lookup ?_ (by with_unfolding_all rfl)
    refine getItem_tuple_rev ht (Heap.IsSliceOf.new _ vl vu vs) pl pu ps ?_ (by rw [List.size_toArray]; omega)
    refine ⟨.ref _, _, I5.laid (t' := s4.toks) (o := .tup xs.reverse) (fun b ob q => Heap.get?_push_of_some _ q) (Nat.le_refl _) ?_, rfl, q _ (I5.hok.fresh (Nat.le_refl _))⟩
    exact ⟨by rw [List.length_reverse]; exact hz, _, r.reverse, IsTup.new _ _⟩
  · subst ex
    obtain ⟨t, rfl⟩ := r1
    obtain ⟨os, hos, hcs, hds⟩ := Heap.IsSliceOf.new s4.heap vl vu vs
    obtain ⟨l, rfl, el⟩ := IsPart.raw pl
    obtain ⟨u, rfl, eu⟩ := IsPart.raw pu
    obtain ⟨w, rfl, ew⟩ := IsPart.raw ps
    refine tail_any (ops := [.ref s4.heap.objs.size, .str z t]) (typeIs_str _ _ _) F.slot_str_getitem.lookup ?_ (by with_unfolding_all rfl)
    have e0 : w.map (·.1) = some (-1) := ew
    refine wpAny_getItem_str_slice (l := l) (u := u) (st := w) ⟨os, hos, hcs, hds⟩ (by rw [e0]; decide) ?_
    have e1 : slicePicked z l u w = (List.range z.length).reverse := by
      unfold slicePicked
      rw [e0, el, eu]
      exact strRev_ix _
    unfold sliceMade
    rw [e1, e0]
    rw [if_neg (by simp)]
    have e2 : (((List.range z.length).reverse.filterMap (z.cps[·]?)).toArray : Array Nat) = z.cps.toList.reverse.toArray := by
      rw [List.filterMap_reverse]
      have := PySem.W.krv_all z.cps
      show ((List.filterMap (z.cps[·]?) (List.range z.cps.size)).reverse).toArray = _
      rw [this]
    rw [e2]
    refine ⟨?_, .str _, H4, I5.tok _, ⟨_, rfl⟩, q⟩
    show z.cps.toList.reverse.toArray.size ≤ sizeLine
    rw [List.size_toArray, List.length_reverse, Array.length_toList]
    exact hz
end
def revA (T : TEd) : TEd := fun ds M F => T ds M fun d M1 => match d with
  | .lst xs => F (.lst xs.reverse) M1
  | .slst xs => F (.lst xs.reverse) M1
  | .tup xs => F (.tup xs.reverse) M1
  | .str z => z.length ≤ 1000000 ∧ F (.str (revS z)) M1
  | _ => False
section
variable {X : Cx} {e a b c : Expr} {es : List Expr} {T U : TEd} {V' W' : TAd} {pos : Pos}
theorem de_revA {k : Nat} {p1 p2 p3 : Pos} (he : DE X e T) : DE X (.Subscript e (.Slice none none (some (.UnaryOp .USub (.Constant (.int 1) k p1) p2)) p3) pos) (revA T) := (pe_revA he).fimp fun σ H Q ⟨ds, M, F, ev, ok, h, af⟩ =>
  ⟨ds, M, _, ev, ok, h, fun d M1 h1 v H1 ok1 dt l1 => by
    cases dt with
    | lst q dd => exact .inl ⟨_, _, rfl, .inl (.inl (hid_sub _ _ q)), (af.later l1).layL ok1 dd.rev h1⟩
    | slst q dd => exact .inl ⟨_, _, rfl, Same.seq hid_sub q, (af.later l1).layL ok1 dd.rev h1⟩
    | tup q dd => exact .inr (.inl ⟨_, _, rfl, sqT_same hid_sub q, (af.later l1).layT ok1 dd.rev h1⟩)
    | str z => exact .inr (.inr ⟨z, rfl, big_le h1.1, af _ _ h1.2 _ _ ok1 (.str _) l1⟩)
    | _ => exact h1.elim⟩
end
/-! more operations -/
/-- a list that may change counts as a list here -/
def lisD (M : Mp) : D → Option (List D)
  | .lst xs => some xs
  | .ref a => match M a with
    | some (.lst xs) => some xs
    | _ => none
  | _ => none
def addR2 : R2d
  | .int i, .int j, M, F => F (.int (i + j)) M
  | .str x, .str y, M, F => x.length + y.length ≤ 1000000 ∧ F (.str (x ++ y)) M
  | .tup xs, .tup ys, M, F => xs.length + ys.length ≤ 1000000 ∧ F (.tup (xs ++ ys)) M
  | a, b, M, F => match lisD M a, lisD M b with
    | some xs, some ys => xs.length + ys.length ≤ 1000000 ∧ F (.lst (xs ++ ys)) M
    | _, _ => False
def mulR2 : R2d
  | .int i, .int j, M, F => ((-(2 ^ 64) < i ∧ i < 2 ^ 64) ∨ (-(2 ^ 64) < j ∧ j < 2 ^ 64)) ∧ F (.int (i * j)) M
  | .lst xs, .int k, M, F => 0 ≤ k ∧ k ≤ 1000000 ∧ xs.length * k.toNat ≤ 1000000 ∧ F (.lst (List.replicate k.toNat xs).flatten) M
  | .str x, .int k, M, F => -1000000 ≤ k ∧ k ≤ 1000000 ∧ x.length * k.toNat ≤ 1000000 ∧ F (.str (Txt.mul x k)) M
  | _, _, _, _ => False
def leS (p : Str → Str → Bool) (q : Int → Int → Bool) : R2d
  | .int i, .int j, M, F => F (.bl (q i j)) M
  | .str i, .str j, M, F => F (.bl (p i j)) M
  | _, _, _, _ => False
abbrev leR2 : R2d := leS (fun i j => !decide (j.cps.toList < i.cps.toList)) fun i j => decide (i ≤ j)
abbrev ltR2 : R2d := leS (fun i j => decide (i.cps.toList < j.cps.toList)) fun i j => decide (i < j)
section
variable {X : Cx}
theorem lis_at {K : PySem.W.Frag} {M : Mp} {H : Hp} {v : V} {d : D} {xs : List D} (ok : HpOk K M H) (dt : Dt K (hid M H) v d) (e : lisD M d = some xs) : ∃ a ys, v = .ref a ∧ H a = some (.lst ys) ∧ Dts K (hid M H) ys xs := by
  cases dt with
  | lst q dd => cases e; exact ⟨_, _, rfl, hid_sub _ _ q, dd⟩
  | ref a =>
    unfold lisD at e
    dsimp only at e
    split at e
    · next h =>
      cases e
      obtain ⟨ys, e1, d1⟩ := ok _ _ h
      exact ⟨_, _, rfl, e1, d1⟩
    · cases e
  | _ => cases e
theorem or_add2 : OpR X (binaryOp .Add) (up2 X.K addR2) := by
  intro pins s σ H x y v u Q I rx ry h
  obtain ⟨a, b, M, F, da, db, ok, h, af⟩ := h
  unfold addR2 at h
  split at h
  · cases da
    cases db
    exact op_add pins s σ H _ _ v u Q I rx ry ⟨_, _, rfl, rfl, af _ _ h _ _ ok (.int _) (Lat.refl _ _)⟩
  · cases da
    cases db
    exact op_add_str pins s σ H _ _ v u Q I rx ry ⟨_, _, rfl, rfl, big_le h.1, af _ _ h.2 _ _ ok (.str _) (Lat.refl _ _)⟩
  · cases da with
    | tup h1 d1 =>
    cases db with
    | tup h2 d2 =>
    refine op_catA pins s σ H _ _ v u Q I rx ry ⟨_, _, _, _, rfl, rfl, sqT_same hid_sub h1, sqT_same hid_sub h2, by rw [d1.length, d2.length]; exact big_le h.1, fun e => ?_, fun _ e => ?_, fun _ _ => af.layT ok (d1.append d2) h.2⟩
    · subst e
      cases d1
      exact af _ _ h.2 _ _ ok (.tup h2 d2) (Lat.refl _ _)
    · subst e
      cases d2
      have h3 := h.2
      rw [List.append_nil] at h3
      exact af _ _ h3 _ _ ok (.tup h1 d1) (Lat.refl _ _)
  · split at h
    · next e1 e2 =>
      obtain ⟨a1, ys1, rfl, s1, d1⟩ := lis_at ok da e1
      obtain ⟨a2, ys2, rfl, s2, d2⟩ := lis_at ok db e2
      exact op_cat pins s σ H _ _ v u Q I rx ry ⟨_, _, _, _, rfl, rfl, s1, s2, by rw [d1.length, d2.length]; exact big_le h.1, af.layL ok (d1.append d2) h.2⟩
    · exact h.elim
theorem mulOk_of {x : Str} {k : Int} (h1 : -1000000 ≤ k) (h2 : k ≤ 1000000) (h3 : x.length * k.toNat ≤ 1000000) : MulOk x k := by
  refine ⟨?_, fun hk hc => ?_, fun hk hc => ?_⟩
  · rw [Bool.or_eq_false_iff]
    exact ⟨decide_eq_false (by omega), decide_eq_false (by omega)⟩
  · intro z
    have hx : x.length ≤ 1000000 := Nat.le_trans (by
      have : 1 ≤ k.toNat := by omega
      exact Nat.le_mul_of_pos_right _ this) h3
    have h4 : (x.length : Int) * k ≤ 2 ^ 63 - 1 := by
      have : (x.length : Int) * k ≤ 1000000 * 1000000 := Int.mul_le_mul (by omega) h2 (by omega) (by omega)
      omega
    have h5 : (x.length : Int) ≤ (2 ^ 63 - 1) / k := (Int.le_ediv_iff_mul_le (by omega)).mpr h4
    omega
  · unfold Builtin.Str.tooLong
    first
      | exact decide_eq_false (by omega)
      | (simp; omega)
      | (rw [decide_eq_false_iff_not]; have : sizeLine = 16777216 := sizeLine_eq; omega)
theorem or_mul2 : OpR X (binaryOp .Mult) (up2 X.K mulR2) := by
  intro pins s σ H x y v u Q I rx ry h
  obtain ⟨a, b, M, F, da, db, ok, h, af⟩ := h
  cases da <;> cases db <;> first | exact h.elim | skip
  · exact op_mul pins s σ H _ _ v u Q I rx ry ⟨_, _, rfl, rfl, h.1, af _ _ h.2 _ _ ok (.int _) (Lat.refl _ _)⟩
  · obtain ⟨t, rfl⟩ := rx
    obtain ⟨t', rfl⟩ := ry
    exact SB.mul (mulOk_of h.1 h.2.1 h.2.2.1) fun tk k => ⟨.str _, H, I.tok k, ⟨tk, rfl⟩, af _ _ h.2.2.2 _ _ ok (.str _) (Lat.refl _ _)⟩
  · next h1 d1 k =>
    obtain ⟨k0, k1, k2, h⟩ := h
    exact op_rep pins s σ H _ _ v u Q I rx ry ⟨_, _, _, rfl, rfl, hid_sub _ _ h1, by omega, by omega, by rw [d1.length]; exact big_le k2, af.layL ok (d1.flat _) h⟩
theorem or_le2 : OpR X (compareOp .LtE) (up2 X.K (leS (fun i j => !decide (j.cps.toList < i.cps.toList)) fun i j => decide (i ≤ j))) := by
  intro pins s σ H x y v u Q I rx ry h
  obtain ⟨a, b, M, F, da, db, ok, h, af⟩ := h
  cases da <;> cases db <;> first | exact h.elim | skip
  · exact op_le pins s σ H _ _ v u Q I rx ry ⟨_, _, rfl, rfl, af _ _ h _ _ ok (.bl _) (Lat.refl _ _)⟩
  · obtain ⟨t, rfl⟩ := rx
    obtain ⟨t', rfl⟩ := ry
    exact P.le_str (fin_bl I (af _ _ h _ _ ok (.bl _) (Lat.refl _ _)) rfl)
theorem or_lt2 : OpR X (compareOp .Lt) (up2 X.K (leS (fun i j => decide (i.cps.toList < j.cps.toList)) fun i j => decide (i < j))) := by
  intro pins s σ H x y v u Q I rx ry h
  obtain ⟨a, b, M, F, da, db, ok, h, af⟩ := h
  cases da <;> cases db <;> first | exact h.elim | skip
  · exact op_lt pins s σ H _ _ v u Q I rx ry ⟨_, _, rfl, rfl, af _ _ h _ _ ok (.bl _) (Lat.refl _ _)⟩
  · exact op_lt_str pins s σ H _ _ v u Q I rx ry ⟨_, _, rfl, rfl, af _ _ h _ _ ok (.bl _) (Lat.refl _ _)⟩
end
def isInt : D → Bool
  | .int _ => true
  | _ => false
def getInt : D → Int
  | .int i => i
  | _ => 0
def sumR : RB
  | [.lst xs], M, F => xs.all isInt = true ∧ F (.int (xs.map getInt).sum) M
  | _, _, _ => False
def max2R : RB
  | [.int i, .int j], M, F => F (.int (max i j)) M
  | _, _, _ => False
def min2R : RB
  | [.int i, .int j], M, F => F (.int (min i j)) M
  | _, _, _ => False
theorem ints_of {K : PySem.W.Frag} {G : Hp} : ∀ {vs : List V} {xs : List D}, Dts K G vs xs → xs.all isInt = true → vs = (xs.map getInt).map V.int
  | _, _, .nil, _ => rfl
  | _, _, .cons h1 h2, h => by
    rw [List.all_cons, Bool.and_eq_true] at h
    rw [List.map_cons, List.map_cons, ← ints_of h2 h.2]
    cases h1 <;> first | rfl | (exact absurd h.1 (by simp [isInt]))
section
variable {X : Cx}
theorem cb_sum (hc : X.calm = true) : CallR X (.builtin "sum") (upC X.K sumR) := by
  intro pins s σ H vs us Q I rv h
  obtain ⟨xs, M, F, dts, ok, h, af⟩ := h
  unfold sumR at h
  split at h
  · obtain ⟨v, rfl, dt⟩ := one_of dts
    cases dt with
    | lst q dd =>
      have e := ints_of dd h.1
      subst e
      exact cr_sum hc pins s σ H _ us Q I rv ⟨_, _, rfl, .inl (.inl (hid_sub _ _ q)), af _ _ h.2 _ _ ok (.int _) (Lat.refl _ _)⟩
  · exact h.elim
theorem cb_max2 (hc : X.calm = true) : CallR X (.builtin "max") (upC X.K max2R) := by
  intro pins s σ H vs us Q I rv h
  obtain ⟨xs, M, F, dts, ok, h, af⟩ := h
  unfold max2R at h
  split at h
  · obtain ⟨v, w, rfl, d1, d2⟩ := two_of dts
    cases d1
    cases d2
    refine call_max2 hc pins s σ H _ us Q I rv ⟨_, _, rfl, ?_⟩
    next i j =>
    have e : (if j > i then j else i) = max i j := by
      split <;> omega
    rw [e]
    exact af _ _ h _ _ ok (.int _) (Lat.refl _ _)
  · exact h.elim
theorem cb_min2 (hc : X.calm = true) : CallR X (.builtin "min") (upC X.K min2R) := by
  intro pins s σ H vs us Q I rv h
  obtain ⟨xs, M, F, dts, ok, h, af⟩ := h
  unfold min2R at h
  split at h
  · obtain ⟨v, w, rfl, d1, d2⟩ := two_of dts
    cases d1
    cases d2
    refine call_min2 hc pins s σ H _ us Q I rv ⟨_, _, rfl, ?_⟩
    next i j =>
    have e : (if j < i then j else i) = min i j := by
      split <;> omega
    rw [e]
    exact af _ _ h _ _ ok (.int _) (Lat.refl _ _)
  · exact h.elim
end
/-! [a, *e, b] -/
def starD (T : TEd) (U : TAd) : TAd := fun ds M F => T ds M fun d M1 => match d with
  | .lst xs => U ds M1 fun ys M2 => F (xs ++ ys) M2
  | .slst xs => U ds M1 fun ys M2 => F (xs ++ ys) M2
  | .tup xs => U ds M1 fun ys M2 => F (xs ++ ys) M2
  | _ => False
section
variable {X : Cx} {e : Expr} {es : List Expr} {T : TEd} {U : TAd} {p pos : Pos}
theorem da_star (h : DE X e T) (r : DA X es U) (hs : starEach (.Starred e p :: es) X.env = (true, eval e X.env) :: starEach es X.env := by rfl) : DA X (.Starred e p :: es) (starD T U) := (StX.pa_star h r hs).fimp fun σ H Q ⟨ds, M, F, ev, ok, h, a⟩ =>
  ⟨ds, M, _, ev, ok, h, fun d M1 h1 v H1 ok1 dt l1 => by
    cases dt with
    | lst q dd => exact ⟨_, _, rfl, .inr (.inl (.inl (hid_sub _ _ q))), ds, M1, _, ev.mono l1, ok1, h1, fun ys M2 h2 vs H2 ok2 dts l2 => a _ _ h2 _ _ ok2 ((dd.mono l2.same).append dts) (l1.trans l2)⟩
    | slst q dd => exact ⟨_, _, rfl, .inr (Same.seq hid_sub q), ds, M1, _, ev.mono l1, ok1, h1, fun ys M2 h2 vs H2 ok2 dts l2 => a _ _ h2 _ _ ok2 ((dd.mono l2.same).append dts) (l1.trans l2)⟩
    | tup q dd => exact ⟨_, _, rfl, .inl (sqT_same hid_sub q), ds, M1, _, ev.mono l1, ok1, h1, fun ys M2 h2 vs H2 ok2 dts l2 => a _ _ h2 _ _ ok2 ((dd.mono l2.same).append dts) (l1.trans l2)⟩
    | _ => exact h1.elim⟩
end
/-! a, b, c = x, y, z; continue; break -/
def par3D (i j l : Nat) (U : TAd) : TSd := fun B ds M => U ds M fun xs M1 => match xs with
  | [a, b, c] => B.nx (((ds.set i (some a)).set j (some b)).set l (some c)) M1
  | _ => False
def contD : TSd := fun B ds M => B.ct ds M
def brkD : TSd := fun B ds M => B.bk ds M
section
variable {X : Cx} {pos : Pos}
theorem ds_par3 {x y z : Str} {a b c : Expr} {U : TAd} {px py pz pt pt2 : Pos} {kt k2 : Nat} (i j l : Nat) (hc : X.calm = true) (hN : X.N.Nodup) (hij : i ≠ j) (hil : i ≠ l) (hjl : j ≠ l) (ha : DA X [a, b, c] U) (hi : X.N[i]? = some x := by rfl) (hj : X.N[j]? = some y := by rfl) (hl : X.N[l]? = some z := by rfl)
    (hx : X.env.scope.names.lookup x = some .local := by rfl) (hy : X.env.scope.names.lookup y = some .local := by rfl) (hz : X.env.scope.names.lookup z = some .local := by rfl)
    (hw : swappedStores [.Tuple [.Name x px, .Name y py, .Name z pz] kt pt] (.Tuple [a, b, c] k2 pt2) X.env = pure (some [x, y, z]) := by rfl)
    (hs : swapsWithSole [.Tuple [.Name x px, .Name y py, .Name z pz] kt pt] (.Tuple [a, b, c] k2 pt2) pos.line X.env = pure false := by rfl) :
    DS X (.Assign [.Tuple [.Name x px, .Name y py, .Name z pz] kt pt] (.Tuple [a, b, c] k2 pt2) pos) (par3D i j l U) := (ps_par3 hc hN hi hj hl hij hil hjl hx hy hz ha hw hs).fimp fun E σ H ⟨ds, M, B, ev, ok, h, af⟩ =>
  ⟨ds, M, _, ev, ok, h, fun xs M1 h1 vs H1 ok1 dts l1 => by
    match xs, vs, dts, h1 with
    | [d1, d2, d3], [v1, v2, v3], .cons e1 (.cons e2 (.cons e3 .nil)), h1 => exact ⟨v1, v2, v3, rfl, af.nx _ _ h1 _ _ ((((ev.mono l1).set i e1).set j e2).set l e3) ok1 l1⟩
    | [], _, _, h1 => exact h1.elim
    | [_], _, _, h1 => exact h1.elim
    | [_, _], _, _, h1 => exact h1.elim
    | _ :: _ :: _ :: _ :: _, _, _, h1 => exact h1.elim⟩
theorem ds_cont : DS X (.Continue pos) contD := ps_continue.fimp fun E σ H ⟨ds, M, B, ev, ok, h, a⟩ => a.ct _ _ h _ _ ev ok (Lat.refl M H)
end
/-! methods of texts -/
def rstR : RM
  | .str x, [.str y], M, F => x.length ≤ 1000000 ∧ F (.str (Txt.rstripChars x y)) M
  | _, _, _, _ => False
def splR : RM
  | .str x, [.str y], M, F => 0 < y.length ∧ x.length ≤ 1000000 ∧ F (.lst ((Txt.split x y).map D.str)) M
  | _, _, _, _ => False
def sixR : RM
  | .str x, [.str y], M, F => match Builtin.Str.occurrences x y 0 x.length 1 with
    | i :: _ => F (.int (i : Nat)) M
    | [] => False
  | _, _, _, _ => False
section
variable {X : Cx}
theorem dm_rst : MtR X "str.rstrip" (upM X.K rstR) := by
  intro pins s σ H x vs v us Q I rx rv h
  obtain ⟨d, xs, M, F, dt, dts, ok, h, af⟩ := h
  unfold rstR at h
  split at h
  · cases dt
    obtain ⟨w, rfl, dw⟩ := one_of dts
    cases dw
    exact mt_rstripChars pins s σ H _ _ v us Q I rx rv ⟨_, _, rfl, rfl, big_le h.1, af _ _ h.2 _ _ ok (.str _) (Lat.refl _ _)⟩
  · exact h.elim
theorem Dts.strs {K : PySem.W.Frag} {G : Hp} (zs : List Str) : Dts K G (zs.map V.str) (zs.map D.str) := by
  induction zs with
  | nil => exact .nil
  | cons n ns ih => exact .cons (.str n) ih
theorem dm_spl : MtR X "str.split" (upM X.K splR) := by
  intro pins s σ H x vs v us Q I rx rv h
  obtain ⟨d, xs, M, F, dt, dts, ok, h, af⟩ := h
  unfold splR at h
  split at h
  · cases dt
    obtain ⟨w, rfl, dw⟩ := one_of dts
    cases dw
    exact mt_split pins s σ H _ _ v us Q I rx rv ⟨_, _, rfl, rfl, by simpa using Nat.ne_of_gt h.1, by have := h.2.1; rw [sizeLine_eq]; omega, af.layL ok (Dts.strs _) h.2.2⟩
  · exact h.elim
theorem dm_six : MtR X "str.index" (upM X.K sixR) := by
  intro pins s σ H x vs v us Q I rx rv h
  obtain ⟨d, xs, M, F, dt, dts, ok, h, af⟩ := h
  unfold sixR at h
  split at h
  · split at h
    · next hq =>
      cases dt
      obtain ⟨w, rfl, dw⟩ := one_of dts
      cases dw
      exact mt_sindex pins s σ H _ _ v us Q I rx rv ⟨_, _, _, _, rfl, rfl, hq, af _ _ h _ _ ok (.int _) (Lat.refl _ _)⟩
    · exact h.elim
  · exact h.elim
end
end Fx

namespace Fx
open PySem PySem.W PySem.Calls PyProof.Rows PySem.HandSPX
/-! errors of the program: a class over GapError over Exception, its __init__: super().__init__(text), then fields -/
abbrev gTail (G : Addr) : List Value := .ref G :: ESX.exTail
theorem g_contains (G : Addr) (X : String) : (gTail G).contains (.type X) = ESX.exTail.contains (.type X) := by
  show ((Value.ref G :: ESX.exTail).contains (.type X)) = _
  rw [List.contains_cons]
  have : (Value.type X == Value.ref G) = false := rfl
  rw [this, Bool.false_or]
section
open Builtin Builtin.ObjectAttr
variable {prog : Program} {w : World} {A : Around} {E : Value → Shared → Prop} {R : Result → Shared → Prop} {hp : Heap} {g : Array GenState} {d : Drawn} {t : Nat} {os : OsState}
theorem g_mro {K : W.Frag} {C G : Addr} {cd : ClassData} (hcd : W.clsIn K C = some cd) (hm : cd.mro = .ref C :: gTail G) {b : Value} (hb : (Value.ref C :: gTail G).contains b = true) : W.mroIn K C b = some true := by
  unfold W.mroIn
  rw [hcd, Option.bind_some, hm]
  rw [if_neg (show ¬ (List.isEmpty (Value.ref C :: gTail G) = true) from Bool.false_ne_true), hb]
theorem g_store {K : W.Frag} {name : Str} {tk : Tok} {v : Value} {x C G : Addr} {ox : Obj} {od : Option Obj} {cd : ClassData} (X : K.In hp) (I : W.InstAt hp x ox C od) (hcd : W.clsIn K C = some cd) (hm : cd.mro = .ref C :: gTail G) (ha : W.findIn K (.ref C) name = some none)
    (hq : wpAny (model prog w) A.in1 (storeInOwnDict (.ref x) (.ref C) (.str name tk) name v false) (fun fin s' => match fin with | .done f => R (.ok f) s' | .again c' => c'.quiet = true ∧ codeAny (model prog w) A c' R s') (fun e s' => R (.error e) s') ⟨hp, g, d, t, os⟩) :
    codeAny (model prog w) A (.call (.builtin "object.__setattr__") ⟨[.ref x, .str name tk, v], []⟩) R ⟨hp, g, d, t, os⟩ := by
  have S := F.store_object
  have sb : W.Looks (model prog w) hp (isInstance (.ref x) (.type "object")) true := I.type.andThen (W.looks_mroIn X (g_mro hcd hm (by rw [List.contains_cons, g_contains, show ESX.exTail.contains (.type "object") = true by decide +kernel, Bool.or_true])))
  refine codeAny_call_builtin S.slot.plain S.entry (@W.check_slot (model prog w) _ _ ⟨hp, g, d, t, os⟩ "object.__setattr__" "object" "__setattr__" (.ref x) [.str name tk, v] [] _ S.kind S.split sb (S.args (.ref x) (.str name tk) v) ?_)
  have mr : W.Looks (model prog w) hp (mroOf (.ref C)) cd.mro := (W.looks_clsIn X hcd).andThen .now
  have L0 : W.Looks (model prog w) hp (storeTaker? none) none := .now
  have ps : refuseLoop (.ref x) "__setattr__" cd.mro = pure () := by
    rw [hm, refuseLoop_ref, refuseLoop_ref]
    exact F.store_Exception.passes _
  rw [W.osa_eq, refuse_eq]
  refine wpAny_bind (wpAny_bind (I.type.at (wpAny_bind (mr.at (?_)))))
  rw [ps]
  exact wpAny_pure (wpAny_bind (I.type.at (wpAny_bind ((W.looks_findIn X ha).at (wpAny_bind (L0.at hq))))))
theorem g_new {K : W.Frag} {name : Str} {tk : Tok} {v : Value} {x C G : Addr} {fv : Array Value} {cd : ClassData} (X : K.In hp) (hx : hp.get? x = some { cls := .ref C, data := .fields fv }) (hcd : W.clsIn K C = some cd) (hm : cd.mro = .ref C :: gTail G) (hh : cd.hasDict = true) (ha : W.findIn K (.ref C) name = some none)
    (hq : ∀ h' tk' dx, (∀ b o, b ≠ x → hp.get? b = some o → h'.get? b = some o) → hp.objs.size ≤ dx → dx ≠ x → h'.get? x = some { cls := .ref C, dict := some dx, data := .fields fv } → h'.Ns1 dx (fun y => if y = name then some v else none) → R (.ok (.ret .none)) ⟨h', g, d, tk', os⟩) :
    codeAny (model prog w) A (.call (.builtin "object.__setattr__") ⟨[.ref x, .str name tk, v], []⟩) R ⟨hp, g, d, t, os⟩ := by
  have I : W.InstAt hp x { cls := .ref C, data := .fields fv } C none := ⟨hx, rfl, rfl, trivial⟩
  have ne : x ≠ hp.objs.size := Nat.ne_of_lt (Heap.lt_size hx)
  refine g_store X I hcd hm ha ?_
  have cl : W.Looks (model prog w) hp (classData C) cd := W.looks_clsIn X hcd
  obtain ⟨nm, bs, mro, ns, qn, hd, sn, sb, ab, col, del⟩ := cd
  dsimp only at hh
  subst hh
  unfold storeInOwnDict ownDictForStores
  repeat (first | with_reducible refine wpAny_loadPart_at hx ?_ | with_reducible refine cl.at ?_ | with_reducible refine HandSPX.store_in_new ?_ ?_ | wp_step)
  · exact ⟨_, #[], _, (Heap.get?_update_ne _ _ _ _ ne.symm).trans (Heap.get?_push_at rfl rfl), rfl, fun e he => absurd he (by simp), fun _ => rfl⟩
  · intro h' tk' hn' hs
    have up : (hp.push { cls := .type "dict", data := .dict #[] }).get? x = some { cls := .ref C, data := .fields fv } := Heap.get?_push_of_some _ hx
    refine hq h' tk' hp.objs.size (fun b o hb ho => ?_) (Nat.le_refl _) ne.symm ((hs.2 x ne).trans (Heap.get?_update_self _ up rfl)) hn'
    exact (hs.2 b (Nat.ne_of_lt (Heap.lt_size ho))).trans ((Heap.get?_update_ne _ _ _ _ hb).trans (Heap.get?_push_of_some _ ho))
theorem g_old {K : W.Frag} {name : Str} {tk : Tok} {v : Value} {x C G dx : Addr} {fv : Array Value} {cd : ClassData} {m0 : Str → Option Value} {nl : List Str} (X : K.In hp) (hx : hp.get? x = some { cls := .ref C, dict := some dx, data := .fields fv }) (hns : hp.Ns1 dx m0) (hw : Within m0 nl) (hz : nl.length ≤ 1000) (hcd : W.clsIn K C = some cd) (hm : cd.mro = .ref C :: gTail G) (hh : cd.hasDict = true) (ha : W.findIn K (.ref C) name = some none)
    (hq : ∀ h' tk', (∀ b o, b ≠ dx → hp.get? b = some o → h'.get? b = some o) → h'.Ns1 dx (fun y => if y = name then some v else m0 y) → R (.ok (.ret .none)) ⟨h', g, d, tk', os⟩) :
    codeAny (model prog w) A (.call (.builtin "object.__setattr__") ⟨[.ref x, .str name tk, v], []⟩) R ⟨hp, g, d, t, os⟩ := by
  obtain ⟨oD, es, ep, ho, hd, _⟩ := hns.count hw
  refine g_store X (⟨hx, rfl, rfl, ho⟩ : W.InstAt hp x { cls := .ref C, dict := some dx, data := .fields fv } C (some oD)) hcd hm ha ?_
  have cl : W.Looks (model prog w) hp (classData C) cd := W.looks_clsIn X hcd
  obtain ⟨nm, bs, mro, ns, qn, hd, sn, sb, ab, col, del⟩ := cd
  dsimp only at hh
  subst hh
  unfold storeInOwnDict ownDictForStores
  repeat (first | with_reducible refine wpAny_loadPart_at hx ?_ | with_reducible refine cl.at ?_ | with_reducible refine ESX.store_in_old hns hw hz ?_ | wp_step)
  exact fun h' tk' hn' hs => hq h' tk' (fun b o hb ho => (hs.2 b hb).trans ho) hn'
end
end Fx

namespace Fx
open PySem PySem.W PySem.Calls PyProof.Rows PySem.HandSPX
/-- the text of an __init__ with one field -/
def inA (f : Str) (p1 p2 : Pos) : Arguments := { posonlyargs := [], args := [{ arg := "self", annotation := none, pos := p1 }, { arg := f, annotation := none, pos := p2 }], vararg := none, kwonlyargs := [], kw_defaults := [], kwarg := none, defaults := [] }
def inB (msg f : Str) (q : Nat → Pos) (kn : Nat) : List Stmt := [.Expr (.Call (.Attribute (.Call (.Name "super" (q 0)) [] [] (q 1)) "__init__" (q 2)) [.Constant (.str msg) kn (q 3)] [] (q 4)) (q 5), .Assign [.Attribute (.Name "self" (q 6)) f (q 7)] (.Name f (q 8)) (q 9)]
/-- super().__init__(text) is a call of a method whose name stands in the row of its bracket -/
def supE (msg : Str) (q : Nat → Pos) (kn : Nat) : Prop := ∀ env : PySem.Env, ∃ pl : Sem Bool, eval (.Call (.Attribute (.Call (.Name "super" (q 0)) [] [] (q 1)) "__init__" (q 2)) [.Constant (.str msg) kn (q 3)] [] (q 4)) env = (do
      let ov ← attributeBase (.Call (.Name "super" (q 0)) [] [] (q 1)) "__init__" env (eval (.Call (.Name "super" (q 0)) [] [] (q 1)) env)
      standAt (q 2).atName
      let (f, first) ← holding [ov] (getMethod ov "__init__" pl)
      callWith (q 4) f first (backTo (q 4) (starEach [.Constant (.str msg) kn (q 3)] env)) [])
structure ErrTxt (P : Program) (K : Frag) (f msg : Str) (C G fI cc cda : Addr) : Prop where
  cls : ∃ nm q N bs sn sub ab col dd k0 k1 k2 k3 k5, K.lookup C = some (excClassObj nm q C N bs (gTail G) true sn sub ab col dd k0 k1 k2 k3 k5 "Exception.__new__")
  sa : findIn K (.ref C) "__setattr__" = some (some (.builtin "object.__setattr__"))
  noN : findIn K (.ref C) f = some none
  iC : findIn K (.ref C) "__init__" = some (some (.ref fI))
  tC : typeIn K (.ref fI) = some (.type "function")
  sup : alongIn K "__init__" (gTail G) = some (some (.builtin "Exception.__init__"))
  opq : nsIn K cStatics "thirdparty.any" = some none
  cel : ∃ cl cld csl, K.lookup cc = some ⟨cl, cld, .cell (some (.ref C)), csl⟩
  cod : ∃ ccl cdd vs ccs file tf, K.lookup cda = some ⟨ccl, cdd, .fields vs, ccs⟩ ∧ vs[2]? = some (.str file tf) ∧ ((P.main.file : Str) == file) = true
  top : (P.main.scope.names.lookup ("super" : Str)).isSome = false
  fn : ∃ (oc : Value) (od : Option Addr) (qual : Str) (sc : Scope) (kV doc pm : Value) (an : Option Addr) (ct : Value) (osl : Array (Option Value)) (p1 p2 : Pos) (q : Nat → Pos) (kn : Nat),
    K.lookup fI = some ⟨oc, od, .func (ksFn "__init__" qual (inA f p1 p2) (inB msg f q kn) sc .none kV doc pm an (.ref cda) ct cc), osl⟩ ∧ codeIn K (.ref cda) qual = true ∧
    sc.kind = .function ∧ sc.isGenerator = false ∧ sc.isCoroutine = false ∧ (∀ x ∈ sc.names, x.2 ≠ .cell) ∧ sc.names.lookup ("self" : Str) = some .local ∧ sc.names.lookup f = some .local ∧ sc.names.lookup ("super" : Str) = some .globalImplicit ∧ sc.names.lookup ("__class__" : Str) = some .free ∧
    (∀ u v : Value, bindArgs (ksFn "__init__" qual (inA f p1 p2) (inB msg f q kn) sc .none kV doc pm an (.ref cda) ct cc) ⟨[u, v], []⟩ = (pure [(("self" : Str), u), (f, v)] : Sem (List (Str × Value)))) ∧ supE msg q kn
section
variable {prog : Program} {w : World} {A : Around} {E : Value → Shared → Prop} {R : Result → Shared → Prop} {s : Shared} {K : Frag} {mg mb : Str → Option Value} {f msg : Str} {C G fI cc cda : Addr}
theorem err_init (T : ErrTxt prog K f msg C G fI cc cda) (hf : (f == ("self" : Str)) = false) (hd : (f == ("__debug__" : Str)) = false) {x t0 : Addr} {v : Value} (X : K.In s.heap) (hlim : s.heap.NoLimit) (gn : s.heap.Ns mainGlobals mg) (bn : s.heap.Ns builtinsNs mb) (g0 : mg "super" = none) (b0 : mb "super" = some (.type "super"))
    (hx : s.heap.get? x = some (excO C t0)) (hnx : K.lookup x = none) (hroom : A.depth < recursionLimit)
    (hq : ∀ h' tk dx t1, (∀ b o, b ≠ x → s.heap.get? b = some o → h'.get? b = some o) → h'.get? x = some { cls := .ref C, dict := some dx, data := .fields #[.ref t1, .none, .none, .none, .bool false, .none] } → s.heap.objs.size ≤ dx → dx ≠ x → h'.Ns1 dx (fun y => if y = f then some v else none) → R (.ok (.ret .none)) { s with heap := h', toks := tk }) :
    codeAny (model prog w) A (.call (.ref fI) ⟨[.ref x, v], []⟩) R s := by
  obtain ⟨nm, q, N, bs, sn, sub, ab, col, dd, k0, k1, k2, k3, k5, hC⟩ := T.cls
  obtain ⟨oc, od, qual, sc, kV, doc, pm, an, ct, osl, p1, p2, qp, kn, ho, hcd, s1, s2, s3, s4, n1, n2, n3, n4, hb, hev⟩ := T.fn
  obtain ⟨cl, cld, csl, hcell⟩ := T.cel
  obtain ⟨ccl, cdd, vs, ccs, file, tf, hco, hvs, hfile⟩ := T.cod
  have hcl : clsIn K C = some { name := nm, bases := bs, mro := .ref C :: gTail G, ns := N, qualname := q, hasDict := true, slotNames := sn, subclasses := sub, abstract := ab, collection := col, hasDel := false } := by unfold clsIn; rw [hC] <;> rfl
  refine ks_codeAny_call_defAt (fd := ksFn "__init__" qual (inA f p1 p2) (inB msg f qp kn) sc .none kV doc pm an (.ref cda) ct cc) (body := inB msg f qp kn) (binds := [("self", .ref x), (f, v)]) hroom (X _ _ ho) rfl hlim (codeRec_of X hcd) rfl (BindsTo.of_eq (hb _ _)) s4 (fun y hy => ?_) (fun h1 hns k1 => ?_) s3 s2 s1
  · simp only [List.mem_cons, List.not_mem_nil, or_false] at hy
    rcases hy with rfl | rfl
    · exact n1
    · exact n2
  · have hxL : s.heap.objs.size ≠ x := Nat.ne_of_gt (Heap.lt_size hx)
    have X1 : K.In h1 := X.keeps k1
    have hx1 := k1 _ _ hx
    have I1 : InstAt h1 x (excO C t0) C none := ⟨hx1, rfl, rfl, trivial⟩
    obtain ⟨pl, he⟩ := hev (callEnv (ksFn "__init__" qual (inA f p1 p2) (inB msg f qp kn) sc .none kV doc pm an (.ref cda) ct cc) s.heap.objs.size fI)
    refine ks_wpAt_execs_cons (ks_wpAt_Expr_any (ks_wpAt_MethodCall ?_ he) (by show (sc.kind == ScopeKind.module && _) = false; rw [s1]; rfl) rfl)
    refine ks_wpAt_super_base n3 n4 (by decide) rfl (X1 _ _ ho) rfl rfl rfl (X1 _ _ hco) rfl hvs hfile T.top ?_
    refine ks_loadName_global s1 n3 (loadGlobal_builtin (env := callEnv (ksFn "__init__" qual (inA f p1 p2) (inB msg f qp kn) sc .none kV doc pm an (.ref cda) ct cc) s.heap.objs.size fI) (gn.keeps k1) g0 (bn.keeps k1) b0 ⟨rfl, ?_⟩)
    refine wpAny_loadName_free s1 n4 rfl ⟨_, X1 _ _ hcell, rfl⟩ (wpAny_loadName_local s1 n1 hns (v := .ref x) ?_ ?_)
    · have e1 : (("self" : Str) == f) = false := by
        rw [Bool.eq_false_iff] at hf ⊢
        intro z
        exact hf (by rw [eq_of_beq z]; exact beq_self_eq_true _)
      show List.lookup ("self" : Str) [(f, v), ("self", .ref x)] = _
      rw [List.lookup_cons, e1, List.lookup_cons, beq_self_eq_true]
    · obtain ⟨oD, hD1, hD2⟩ : ∃ oD, h1.get? C = some oD ∧ oD.data = .cls { name := nm, bases := bs, mro := .ref C :: gTail G, ns := N, qualname := q, hasDict := true, slotNames := sn, subclasses := sub, abstract := ab, collection := col, hasDel := false } := ⟨_, X1 _ _ hC, rfl⟩
      refine ks_wpAny_isType_cls hD1 hD2 ⟨rfl, ?_⟩
      refine ks_wpAny_call_super hD1 hD2 hx1 rfl (fun c e => by cases e) (looks_mroIn X1 (g_mro hcl rfl (by rw [List.contains_cons, beq_self_eq_true]; rfl))) (fun h2 e2 k2 => ?_)
      have X2 : K.In h2 := X1.keeps k2
      have hx2 := k2 _ _ hx1
      have I2 : InstAt h2 x (excO C t0) C none := ⟨hx2, rfl, rfl, trivial⟩
      have mr : Looks (model prog w) h2 (mroOf (.ref C)) (.ref C :: gTail G) := (looks_clsIn X2 hcl).andThen .now
      have ie : Looks (model prog w) h2 (isInstance (.ref x) (.type "Exception")) true := I2.type.andThen (looks_mroIn X2 (g_mro hcl rfl (by rw [List.contains_cons, g_contains, show ESX.exTail.contains (.type "Exception") = true by decide +kernel, Bool.or_true])))
      refine ESX.getMethod_super e2 (looks_opaque X2 T.opq) mr (ESX.drop_own C _) X2 T.sup (ks_ne X2 I2 hcl) (by decide) ie ?_
      refine ESX.callWith_bound (x := x) ?_ rfl rfl
      refine Calls.spliced_cons (Calls.Constant_str (k := kn) (pos := qp 3) (Calls.spliced_nil ⟨Heap.get?_push_size _ rfl, ?_⟩))
      have k3 : ∀ b o, h2.get? b = some o → (h2.push (ESX.bw x)).get? b = some o := fun b o e => Heap.get?_push_of_some _ e
      refine ESX.call_bw (C := C) (X2.keeps k3 _ _ hC) (k3 _ _ hx2) (Heap.get?_push_size _ rfl) (by rw [sizeLine_eq]; exact (by decide : 1 ≤ 16777216)) fun h4 t1 k4 hx4 => ?_
      have k24 : ∀ b o, b ≠ x → s.heap.get? b = some o → h4.get? b = some o := fun b o hb e => k4 b o hb (k3 b o (k2 b o (k1 b o e)))
      have X4 : K.In h4 := fun b o e => k24 b o (fun z => by rw [z, hnx] at e; cases e) (X b o e)
      have hn4 : h4.Ns s.heap.objs.size (fun y => [(("self" : Str), Value.ref x), (f, v)].reverse.lookup y) := hns.at fun o e => k4 _ o hxL (k3 _ o (k2 _ o e))
      have e1 : (("self" : Str) == f) = false := by
        rw [Bool.eq_false_iff] at hf ⊢
        intro z
        exact hf (by rw [eq_of_beq z]; exact beq_self_eq_true _)
      have lv : [(("self" : Str), Value.ref x), (f, v)].reverse.lookup f = some v := by
        show List.lookup f [(f, v), (("self" : Str), .ref x)] = _
        rw [List.lookup_cons, beq_self_eq_true]
      have ls : [(("self" : Str), Value.ref x), (f, v)].reverse.lookup ("self" : Str) = some (.ref x) := by
        show List.lookup ("self" : Str) [(f, v), ("self", .ref x)] = _
        rw [List.lookup_cons, e1, List.lookup_cons, beq_self_eq_true]
      refine ks_wpAt_execs_cons (wpAt_of_wpAny (plainObj_wpAny_Assign_Attribute ?_))
      refine ESX.ldL hn4 lv (ESX.ldL hn4 ls ?_ s1 n1) s1 n2 hd
      refine set_plain X4 (ox := excO C t1) (od := none) ⟨hx4, rfl, rfl, trivial⟩ T.sa ?_
      refine g_new X4 hx4 hcl rfl rfl T.noN fun h5 tk5 dx k5 dn dne hx5 hn5 => ?_
      exact wpAt_of_wpAny (wpAny_execs_nil (hq h5 tk5 dx t1 (fun b o hb e => k5 b o hb (k24 b o hb e)) hx5 (Nat.le_of_lt (Nat.lt_of_lt_of_le hn4.lt dn)) dne hn5))
/-- an error that was made: at e, its own dict d holds the field -/
structure Mde (h h' : Heap) (e C d : Addr) (f : Str) (v : Value) : Prop where
  keep : ∀ b o, h.get? b = some o → h'.get? b = some o
  new : h.objs.size ≤ e
  obj : ∃ t1, h'.get? e = some { cls := .ref C, dict := some d, data := .fields #[.ref t1, .none, .none, .none, .bool false, .none] }
  dbig : h.objs.size ≤ d
  dne : d ≠ e
  ns : h'.Ns1 d (fun y => if y = f then some v else none)
theorem err_made (T : ErrTxt prog K f msg C G fI cc cda) (hf : (f == ("self" : Str)) = false) (hd : (f == ("__debug__" : Str)) = false) {v : Value} (X : K.In s.heap) (hlim : s.heap.NoLimit) (gn : s.heap.Ns mainGlobals mg) (bn : s.heap.Ns builtinsNs mb) (g0 : mg "super" = none) (b0 : mb "super" = some (.type "super"))
    (hroom : A.depth + 1 < recursionLimit) (hq : ∀ h' tk e d, Mde s.heap h' e C d f v → R (.ok (.ret (.ref e))) { s with heap := h', toks := tk }) :
    codeAny (model prog w) A (.call (.ref C) ⟨[v], []⟩) R s := by
  obtain ⟨nm, q, N, bs, sn, sub, ab, col, dd, k0, k1, k2, k3, k5, hC⟩ := T.cls
  obtain ⟨hp, g, dr, tk, os⟩ := s
  have k : ∀ b o, hp.get? b = some o → ((hp.push (kdv_tup [v])).push (excO C hp.objs.size)).get? b = some o := fun b o e => Heap.get?_push_of_some _ (Heap.get?_push_of_some _ e)
  have hg : ((hp.push (kdv_tup [v])).push (excO C hp.objs.size)).get? (hp.objs.size + 1) = some (excO C hp.objs.size) := by heap_get
  have hnx : K.lookup (hp.objs.size + 1) = none := by
    cases e : K.lookup (hp.objs.size + 1) with
    | none => rfl
    | some o => exact absurd (Nat.lt_of_succ_lt (Heap.lt_size (show hp.get? (hp.objs.size + 1) = some o from X _ _ e))) (Nat.lt_irrefl _)
  refine call_own F.excBase_Exception (fun X => g_contains G X) (X _ _ hC) (looks_findIn X T.iC) (fun self => bind_fn X self T.tC) (by rw [sizeLine_eq]; exact (by decide : 1 ≤ 16777216)) ?_
  refine err_init (s := ⟨(hp.push (kdv_tup [v])).push (excO C hp.objs.size), g, dr, tk, os⟩) T hf hd (X.keeps k) (hlim.keeps k) (gn.keeps k) (bn.keeps k) g0 b0 hg hnx (show A.depth + 1 < recursionLimit from hroom) fun h' tk' dx t1 k' hx dn dne hns => ?_
  have z : hp.objs.size + 1 + 1 ≤ dx := by
    have := dn
    rw [Heap.size_push, Heap.size_push] at this
    exact this
  exact ⟨rfl, hq h' tk' (hp.objs.size + 1) dx ⟨fun b o e => k' b o (Nat.ne_of_lt (Nat.lt_succ_of_lt (Heap.lt_size e))) (k b o e), Nat.le_succ _, ⟨t1, hx⟩, Nat.le_trans (Nat.le_trans (Nat.le_succ _) (Nat.le_succ _)) z, dne, hns⟩⟩
end
end Fx

namespace Fx
open PySem PySem.Spec PyProof.Rows L2
/-- a class of errors with one field, as the module knows it -/
structure ErrH (P : Program) (K : PySem.W.Frag) (mg : Str → Option Value) (n : String) (f : Str) (C : Addr) : Prop where
  T : ∃ msg G fI cc cda, ErrTxt P K f msg C G fI cc cda
  hf : (f == ("self" : Str)) = false
  hd : (f == ("__debug__" : Str)) = false
  cl : clsA K n C
  gm : mg (Str.ofString n) = some (.ref C)
  kp : PySem.W.keepIn K (.ref C) = true
  bE : PySem.W.subIn K (.ref C) (.type "BaseException") = some true
  tE : PySem.W.typeIn K (.ref C) = some (.type "type")
  xf : XfC K C
  no : PySem.W.findIn K (.ref C) f = some none
  su : mg "super" = none
def tMk1 (C : Addr) (f : Str) (ta : TA) : L2.St → Hp → XK → Prop := fun σ H Q => ta σ H fun vs H1 => ∃ v, vs = [v] ∧ ∀ d, H1 d = none → Q (.ref C) (some d) (upd H1 d (.xd [(f, v)]))
section
variable {X : Cx} {e : Expr} {es : List Expr} {ta : TA} {f : Str} {p pos : Pos} {n : String} {C : Addr}
theorem made_inv {pins : List (Addr × Obj)} {σ : L2.St} {H : Hp} {s : Shared} {h' : Heap} {tk : Nat} {a d : Addr} {v : V} {u : Value} (I : Inv X pins σ H s) (r : RelV v u) (m : Mde s.heap h' a C d f u) :
    ∃ G : Heap, Inv X pins σ (upd H d (.xd [(f, v)])) { s with heap := G, toks := tk } ∧ (∀ b o, G.get? b = some o → h'.get? b = some o) ∧ G.get? a = none ∧ H d = none ∧ H a = none := by
  obtain ⟨G, g1, g2⟩ := restrict h' fun b => decide (b ≠ a)
  have gk : ∀ b, b ≠ a → G.get? b = h'.get? b := fun b hb => g1 b (decide_eq_true hb)
  have ge : G.get? a = none := g2 a (by simp)
  have hn : H d = none := I.hok.fresh m.dbig
  have ha : H a = none := I.hok.fresh m.new
  refine ⟨G, I.laid (t' := tk) (a := d) (o := .xd [(f, v)]) (fun b o e => ?_) m.dbig ?_, fun b o e => ?_, ge, hn, ha⟩
  · rw [gk b (Nat.ne_of_lt (Nat.lt_of_lt_of_le (Heap.lt_size e) m.new))]
    exact m.keep b o e
  · refine ⟨_, m.ns.at fun o y => (gk d m.dne).trans y, relO_put (fs := []) r fun g => True.intro⟩
  · by_cases hb : b = a
    · rw [hb, ge] at e
      cases e
    · exact (gk b hb).symm.trans e
theorem call_err {pins : List (Addr × Obj)} {σ : L2.St} {H : Hp} {s : Shared} {k : Nat} {u : Value} {Q : Value → Shared → Prop} (T : ErrH X.prog X.K X.mg n f C) (I : Inv X pins σ H s) (hr : Room k X.A)
    (hq : ∀ h' tk a d, Mde s.heap h' a C d f u → Q (.ref a) { s with heap := h', toks := tk }) : wpAny (model X.prog X.w) X.A (call (.ref C) [u]) Q X.xe s := by
  obtain ⟨msg, G, fI, cc, cda, ET⟩ := T.T
  obtain ⟨mb, h1, h2⟩ := I.mod.blt
  refine wpAny_call (err_made (mg := X.mg) (mb := mb) ET T.hf T.hd I.kIn (I.mod.nolimit.keeps I.bk) (I.mod.glob.keeps I.bk) (h1.keeps I.bk) T.su ((h2 "super" (by decide)).trans (by decide +kernel)) (by have := hr.dp; omega) fun h' tk a d m => ?_)
  exact hq h' tk a d m
theorem pmk_err {k : Nat} {x : Str} (T : ErrH X.prog X.K X.mg n f C) (hx : x = Str.ofString n) (hr : Room k X.A) (hg : Gl X x) (ha : PA X [e] ta)
    (hdb : (x == ("__debug__" : Str)) = false := by decide) (he : starEach [e] X.env = (false, eval e X.env) :: starEach [] X.env := by rfl) (hpl : (backTo pos (starEach [] X.env)).any (·.1) = false := by rfl) :
    PMk X (.Call (.Name x p) [e] [] pos) (tMk1 C f ta) := by
  intro pins s σ H Q I h
  subst hx
  refine wpAny_Call_Name_kw (ld_glob I hg T.gm ?_ hdb)
  refine PySem.W.callWith_K (h₀ := X.base) I.ok.mod.kin T.kp (thn (ha.run pos pins s σ H _ I h) fun us s1 ⟨vs, H1, I1, r1, v, ev, q1⟩ => ⟨I1.kIn, ?_⟩) he hpl
  subst ev
  cases r1 with
  | cons ru rn =>
    cases rn
    refine call_err T I1 hr fun h' tk a d m => ?_
    obtain ⟨G, J, kG, ge, hn, na⟩ := made_inv (tk := tk) I1 ru m
    obtain ⟨t1, ho⟩ := m.obj
    exact ⟨a, _, _, _, _, .ref C, some d, rfl, J, kG, ge, ho, ⟨rfl, rfl⟩, rfl, rfl, by rw [upd_ne (Ne.symm m.dne)]; exact na, rfl, J.bare, raises_own T.bE T.tE, q1 d hn⟩
end
end Fx

namespace Fx
open PySem PySem.Spec PyProof.Rows L2
/-! errors at the data level: class by name, names of the fields, their values -/
abbrev XD := String → List Str → List D → Mp → Prop
abbrev WXd := String → List Str → List D → Ds → Mp → Prop
def ErrAt (K : PySem.W.Frag) (G : Hp) (d : Option Addr) (ns : List Str) (es : List D) : Prop := match d with
  | none => ns = [] ∧ es = []
  | some d => ∃ xs, G d = some (.xd (ns.zip xs)) ∧ ns.length = xs.length ∧ Dts K G xs es
theorem ErrAt.mono {K : PySem.W.Frag} {G G' : Hp} {d : Option Addr} {ns : List Str} {es : List D} (e : Same G G') (h : ErrAt K G d ns es) : ErrAt K G' d ns es := by
  cases d with
  | none => exact h
  | some d =>
    obtain ⟨xs, h1, h2, h3⟩ := h
    exact ⟨xs, e _ _ h1, h2, h3.mono e⟩
theorem Env.setN {K : PySem.W.Frag} {M : Mp} {H : Hp} {σ : L2.St} {ds : Ds} (e : Env K M H σ ds) (i : Nat) : Env K M H (σ.set i none) (ds.set i none) := by
  refine ⟨by rw [List.length_set, List.length_set]; exact e.1, fun j u hj => ?_⟩
  rw [List.getElem?_set] at hj
  rw [List.getElem?_set]
  by_cases q : i = j
  · rw [if_pos q] at hj
    by_cases z : i < ds.length
    · rw [if_pos z] at hj
      cases hj
    · rw [if_neg z] at hj
      cases hj
  · rw [if_neg q] at hj
    rw [if_neg q]
    exact e.2 j u hj
/-- one class lies under another -/
def subN (n m : String) : Bool := n == m || m == "GapError" || m == "Exception"
abbrev RX := List D → Mp → DK → XD → Prop
/-- a ground that knows one state more -/
@[reducible] def Grd.and (g : Grd) (M0 : Mp) (H0 : Hp) : Grd := ⟨fun M H => g.gr M H ∧ Lat M0 H0 M H, fun a b => ⟨g.up a.1 b, a.2.trans b⟩⟩
section
variable [Grd]
def AftX (K : PySem.W.Frag) (M : Mp) (H : Hp) (W : XD) (E : XK) : Prop := ∀ n ns es M', W n ns es M' → ∀ C d H', clsA K n C → HpOk K M' H' → ErrAt K (hid M' H') d ns es → Lat M H M' H' → E (.ref C) d H'
def LkD (K : PySem.W.Frag) (Wd : WXd) (W : WX) : Prop := ∀ n ns es ds M, Wd n ns es ds M → ∀ C d σ H, clsA K n C → Env K M H σ ds → HpOk K M H → ErrAt K (hid M H) d ns es → W (.ref C) d σ H
/-- the errors of a code are taken -/
def TkD (X : Cx) (Wd : WXd) : Prop := ∃ W : WX, Takes X W ∧ LkD X.K Wd W
theorem takes_none {X : Cx} : Takes X (fun _ _ _ _ => False) := fun _ _ x => by
  obtain ⟨_, _, _, _, _, _, _, _, _, _, _, _, _, _, _, _, z⟩ := x
  exact z.elim
theorem tk0 {X : Cx} : TkD X (fun _ _ _ _ _ => False) := ⟨_, takes_none, fun _ _ _ _ _ z => z.elim⟩
end
def SpX (K : PySem.W.Frag) (n : Nat) (R : RX) : Sp := fun vs H Q E => ∃ ds M F W, ds.length = n ∧ Dts K (hid M H) vs ds ∧ @HpOk Grd.triv K M H ∧ R ds M F W ∧ @AftE Grd.triv K M H F Q ∧ @AftX Grd.triv K M H W E
/-- the rule for a def that may raise -/
theorem fndX {P : Program} {w : World} {K : PySem.W.Frag} {mg : Str → Option Value} {base : Heap} {k : Nat} {f : Addr} {fd : FuncData} {ps : List Str} {x qual : Str} {st : Stmt} {N : List Str} {R : RX} (Fu : Fun K x qual st f fd) (S : FnScope N ps (defScope st))
    (hb : ∀ (g : Grd) (cdv : Value) (A : Around) (outer : List PySem.Env) (s : Shared) (H : Hp) (E : XK) (Wd : WXd), (A.deeper (envOfC qual (defScope st) s.heap.objs.size f cdv)).guards = some [] → Room k (A.deeper (envOfC qual (defScope st) s.heap.objs.size f cdv)) →
      @TkD g (cxOf (L2.CX P w) P w K mg base N qual (defScope st) f cdv A outer s H E) Wd →
      ∃ T : TSd, @DSs g (cxOf (L2.CX P w) P w K mg base N qual (defScope st) f cdv A outer s H E) (defBody st) T ∧ ∀ ds M F W, (Wd = fun n ns es _ M' => W n ns es M') → ds.length = ps.length → R ds M F W → T { nx := fun _ M' => F .non M', rt := F } (startD N.length ds) M) :
    FnG P w K mg base (L2.CX P w) (k + 1) f fd ps (SpX K ps.length R) := by
  refine fng_of Fu S (fun vs H Q E h => ?_) (fun cdv A outer s H vs Q E g hr h => ?_)
  · obtain ⟨ds, M, F, W, e, d, _⟩ := h
    rw [d.length, e]
  · obtain ⟨ds, M, F, W, e, d, ok, r, a, ax⟩ := h
    have tk : @TkD (Grd.from M H) (cxOf (L2.CX P w) P w K mg base N qual (defScope st) f cdv A outer s H E) (fun n ns es _ M' => W n ns es M') :=
      ⟨fun cls d _ H' => E cls d H', takes_of rfl rfl rfl rfl, fun n ns es ds' M' w' C d' σ' H' cl ev' ok' er => ax n ns es M' w' C d' H' cl ok'.triv er ok'.2⟩
    obtain ⟨T, hT, q⟩ := hb (Grd.from M H) cdv A outer s H E (fun n ns es _ M' => W n ns es M') g hr tk
    exact ⟨_, hT, startD N.length ds, M, _, env_start d, ⟨ok.1, Lat.refl M H⟩, q ds M F W rfl e r, @AftS.mk (Grd.from M H) _ _ _ _ _ (fun ds' M' z σ' H' ev ok' l => a _ _ z _ _ ok'.triv .non l) (fun d' M' z v H' ok' dt l => a d' M' z v H' ok'.triv dt l) (fun _ _ z => z.elim) (fun _ _ z => z.elim)⟩
section
variable [Grd]
variable {X : Cx} {CX : CXT} {k n : Nat} {f C : Addr} {fd : FuncData} {ps ks : List Str} {sp : Sp} {E : L2.St → XK} {x : Str} {p pos : Pos} {e : Expr} {es : List Expr} {kws : List Keyword} {t tk' : TA}
omit [Grd] in
theorem run_gS {pins : List (Addr × Obj)} {σ : L2.St} {H : Hp} {s : Shared} {Q : VK} {us all : List Value} {kw : List (Str × Value)} {vs : List V} (F : FnG X.prog X.w X.K X.mg X.base CX k f fd ps sp) (gd : X.A.guards = some []) (hr : Room k X.A) (hx : PassesAt CX X σ (E σ))
    (I : Inv X pins σ H s) (r : Vals vs all) (hb : BindsTo s fd ⟨us, kw⟩ (ps.zip all)) (h : sp vs H Q (E σ)) : wpAny (model X.prog X.w) X.A (call (.ref f) us kw) (EP X pins σ Q) X.xe s := by
  refine wpAny_call (codeAny_mono (F.go X.A X.stack s H ⟨us, kw⟩ all vs Q (E σ) gd hr I.env0 hb r h) fun res s' hq => ?_)
  match res, hq with
  | .error e, hq => exact hx pins H s e s' I hq
  | .ok (.ret u), hq => exact I.after hq
  | .ok .next, hq => exact hq.elim
  | .ok .brk, hq => exact hq.elim
  | .ok .cont, hq => exact hq.elim
omit [Grd] in
theorem pg_callS (F : FnG X.prog X.w X.K X.mg X.base CX k f fd ps sp) (gd : X.A.guards = some []) (hr : Room k X.A) (hg : Gl X x) (hm : X.mg x = some (.ref f)) (hk : PySem.W.keepIn X.K (.ref f) = true) (hb : Binds X.K fd ps []) (hx : ∀ σ, PassesAt CX X σ (E σ))
    (ha : PA X (e :: es) t) (hdb : (x == ("__debug__" : Str)) = false := by decide) (he : starEach (e :: es) X.env = (false, eval e X.env) :: starEach es X.env := by rfl) (hpl : (backTo pos (starEach es X.env)).any (·.1) = false := by rfl) :
    PE X (.Call (.Name x p) (e :: es) [] pos) (tCallS sp E t) := ⟨fun pins s σ H Q I h =>
  wpAny_Call_Name_kw (ld_glob I hg hm (PySem.W.callWith_K (h₀ := X.base) I.ok.mod.kin hk (thn (ha.run pos pins s σ H _ I h) fun us s1 ⟨vs, H1, I1, r, q⟩ => ⟨I1.kIn, by
    have hl : us.length = ps.length := by rw [← r.length]; exact F.nlen _ _ _ _ q
    have b := hb s1 us I1.kIn (by rw [List.append_nil]; exact hl)
    rw [List.append_nil] at b
    exact run_gS F gd hr (hx σ) I1 r b q⟩) he hpl) hdb)⟩
variable {g : List Value → List Value → List Value} {gV : List V → List V → List V} {gD : List D → List D → List D}
def tCallKS (sp : Sp) (gV : List V → List V → List V) (E : L2.St → XK) (t tk : TA) : TE := fun σ H Q => t σ H fun vs H1 => tk σ H1 fun zs H2 => sp (gV vs zs) H2 Q (E σ)
omit [Grd] in
theorem pg_callKS (F : FnG X.prog X.w X.K X.mg X.base CX k f fd ps sp) (gd : X.A.guards = some []) (hr : Room k X.A) (hg : Gl X x) (hm : X.mg x = some (.ref f)) (hk : PySem.W.keepIn X.K (.ref f) = true) (hb : KBinds X.K fd ps ks g gV) (hx : ∀ σ, PassesAt CX X σ (E σ))
    (ha : PA X (e :: es) t) (hkw : PK X kws tk') (hall : (backToKw pos (keywordEach kws X.env)).all (·.1.isSome) = true := by rfl) (hks : (backToKw pos (keywordEach kws X.env)).filterMap (·.1) = ks := by rfl)
    (hdb : (x == ("__debug__" : Str)) = false := by decide) (he : starEach (e :: es) X.env = (false, eval e X.env) :: starEach es X.env := by rfl)
    (hpl : ((backTo pos (starEach (e :: es) X.env)).any (·.1) || (backToKw pos (keywordEach kws X.env)).any (·.1.isNone)) = false := by rfl) :
    PE X (.Call (.Name x p) (e :: es) kws pos) (tCallKS sp gV E t tk') := ⟨fun pins s σ H Q I h => by
  refine wpAny_Call_Name_kw (ld_glob I hg hm (PySem.W.callWith_KW (h₀ := X.base) I.ok.mod.kin hk hall (thn (ha.run pos pins s σ H _ I h) fun us s1 ⟨vs, H1, I1, r, q⟩ => thn (hkw.run pos pins s1 σ H1 _ I1 q) fun ws s2 ⟨zs, H2, I2, rz, q2⟩ => ⟨I2.kIn, ?_⟩) hpl he) hdb)
  have r2 := hb.rel r rz
  rw [hks]
  exact run_gS F gd hr (hx σ) I2 r2 (hb.to s2 us ws I2.kIn (by rw [← r2.length]; exact F.nlen _ _ _ _ q2)) q2⟩
omit [Grd] in
theorem pg_callKS0 (F : FnG X.prog X.w X.K X.mg X.base CX k f fd ps sp) (gd : X.A.guards = some []) (hr : Room k X.A) (hg : Gl X x) (hm : X.mg x = some (.ref f)) (hk : PySem.W.keepIn X.K (.ref f) = true) (hb : KBinds X.K fd ps ks g gV) (hx : ∀ σ, PassesAt CX X σ (E σ))
    (hkw : PK X kws tk') (hall : (backToKw pos (keywordEach kws X.env)).all (·.1.isSome) = true := by rfl) (hks : (backToKw pos (keywordEach kws X.env)).filterMap (·.1) = ks := by rfl)
    (hdb : (x == ("__debug__" : Str)) = false := by decide)
    (hpl : ((backTo pos (starEach [] X.env)).any (·.1) || (backToKw pos (keywordEach kws X.env)).any (·.1.isNone)) = false := by rfl) :
    PE X (.Call (.Name x p) [] kws pos) (tCallKS sp gV E tNil tk') := ⟨fun pins s σ H Q I h => by
  refine wpAny_Call_Name_kw (ld_glob I hg hm (PySem.W.callWith_KW0 (h₀ := X.base) I.ok.mod.kin hk hall (thn (hkw.run pos pins s σ H _ I h) fun ws s2 ⟨zs, H2, I2, rz, q2⟩ => ⟨I2.kIn, ?_⟩) hpl) hdb)
  have r2 := hb.rel .nil rz
  rw [hks]
  exact run_gS (us := []) F gd hr (hx σ) I2 r2 (hb.to s2 [] ws I2.kIn (by rw [← r2.length]; exact F.nlen _ _ _ _ q2)) q2⟩
end
/-! calls -/
def callX (R : RX) (W : WXd) (U : TAd) : TEd := fun ds M F => U ds M fun xs M1 => R xs M1 F fun n ns es M2 => W n ns es ds M2
def callKX (R : RX) (gD : List D → List D → List D) (W : WXd) (U V : TAd) : TEd := fun ds M F => U ds M fun xs M1 => V ds M1 fun ys M2 => R (gD xs ys) M2 F fun n ns es M3 => W n ns es ds M3
structure FnX (P : Program) (w : World) (K : PySem.W.Frag) (mg : Str → Option Value) (base : Heap) (k : Nat) (x : Str) (f : Addr) (fd : FuncData) (ps : List Str) (R : RX) : Prop where
  fn : FnG P w K mg base (L2.CX P w) k f fd ps (SpX K ps.length R)
  hn : ∀ xs M F W, R xs M F W → xs.length = ps.length
  gm : mg x = some (.ref f)
  kp : PySem.W.keepIn K (.ref f) = true
  bi : Binds K fd ps []
section
variable [Grd]
variable {X : Cx} {j k n : Nat} {f C : Addr} {fd : FuncData} {ps ks : List Str} {R : RX} {x : Str} {p pos : Pos} {e : Expr} {es : List Expr} {kws : List Keyword} {U V' : TAd} {Wd : WXd} {W : WX} {K : PySem.W.Frag}
theorem emb_callX {σ : L2.St} {H : Hp} {Q : VK} (hn : ∀ xs M F W, R xs M F W → xs.length = n) (lk : LkD K Wd W) (h : emb K (callX R Wd U) σ H Q) : tCallS (SpX K n R) (WE W) (embA K U) σ H Q := by
  obtain ⟨ds, M, F, ev, ok, h, a⟩ := h
  refine ⟨ds, M, _, ev, ok, h, fun xs M1 h1 vs H1 ok1 dts l1 => ?_⟩
  exact ⟨xs, M1, F, _, hn _ _ _ _ h1, dts, ok1.triv, h1, (a.later l1).triv ok1, fun n' ns es' M2 w' C' d' H2 cl ok2 er l2 => lk n' ns es' ds M2 w' C' d' σ H2 cl ((ev.mono l1).mono l2) (ok1.back l2 ok2) er⟩
theorem dcallX (h : FnX X.prog X.w X.K X.mg X.base j x f fd ps R) (tk : TkD X Wd) (gd : X.A.guards = some []) (hr : Room k X.A) (ha : DA X (e :: es) U) (hjk : j ≤ k := by decide) (hg : Gl X x := by rfl) (hdb : (x == ("__debug__" : Str)) = false := by decide) (he : starEach (e :: es) X.env = (false, eval e X.env) :: starEach es X.env := by rfl) (hpl : (backTo pos (starEach es X.env)).any (·.1) = false := by rfl) :
    DE X (.Call (.Name x p) (e :: es) [] pos) (callX R Wd U) := by
  obtain ⟨W, tW, lk⟩ := tk
  exact (pg_callS h.fn gd (hr.mono hjk) hg h.gm h.kp h.bi (fun σ => passAt tW σ) ha hdb he hpl).fimp fun _ _ _ q => emb_callX h.hn lk q
variable {g : List Value → List Value → List Value} {gV : List V → List V → List V} {gD : List D → List D → List D}
theorem emb_callKX {σ : L2.St} {H : Hp} {Q : VK} {t : TA} (hn : ∀ xs M F W, R xs M F W → xs.length = n) (hg : ∀ G vs ws xs ys, Dts K G vs xs → Dts K G ws ys → Dts K G (gV vs ws) (gD xs ys)) (lk : LkD K Wd W)
    (ht : ∀ σ H Q, embA K U σ H Q → t σ H Q) (h : emb K (callKX R gD Wd U V') σ H Q) : tCallKS (SpX K n R) gV (WE W) t (embA K V') σ H Q := by
  obtain ⟨ds, M, F, ev, ok, h, a⟩ := h
  refine ht _ _ _ ⟨ds, M, _, ev, ok, h, fun xs M1 h1 vs H1 ok1 dts1 l1 => ⟨ds, M1, _, ev.mono l1, ok1, h1, fun ys M2 h2 ws H2 ok2 dts2 l2 => ?_⟩⟩
  exact ⟨_, M2, F, _, hn _ _ _ _ h2, hg _ _ _ _ _ (dts1.mono l2.same) dts2, ok2.triv, h2, (a.later (l1.trans l2)).triv ok2, fun n' ns es' M3 w' C' d' H3 cl ok3 er l3 => lk n' ns es' ds M3 w' C' d' σ H3 cl (((ev.mono l1).mono l2).mono l3) (ok2.back l3 ok3) er⟩
theorem dcallKX (h : FnX X.prog X.w X.K X.mg X.base j x f fd ps R) (hb : KBinds X.K fd ps ks g gV) (hgd : ∀ G vs ws xs ys, Dts X.K G vs xs → Dts X.K G ws ys → Dts X.K G (gV vs ws) (gD xs ys)) (tk : TkD X Wd) (gd : X.A.guards = some []) (hr : Room k X.A) (ha : DA X (e :: es) U) (hkw : DQ X kws V') (hjk : j ≤ k := by decide) (hg : Gl X x := by rfl)
    (hall : (backToKw pos (keywordEach kws X.env)).all (·.1.isSome) = true := by rfl) (hks : (backToKw pos (keywordEach kws X.env)).filterMap (·.1) = ks := by rfl)
    (hdb : (x == ("__debug__" : Str)) = false := by decide) (he : starEach (e :: es) X.env = (false, eval e X.env) :: starEach es X.env := by rfl)
    (hpl : ((backTo pos (starEach (e :: es) X.env)).any (·.1) || (backToKw pos (keywordEach kws X.env)).any (·.1.isNone)) = false := by rfl) :
    DE X (.Call (.Name x p) (e :: es) kws pos) (callKX R gD Wd U V') := by
  obtain ⟨W, tW, lk⟩ := tk
  exact (pg_callKS h.fn gd (hr.mono hjk) hg h.gm h.kp hb (fun σ => passAt tW σ) ha hkw hall hks hdb he hpl).fimp fun _ _ _ q => emb_callKX h.hn hgd lk (fun _ _ _ z => z) q
theorem dcallKX0 (h : FnX X.prog X.w X.K X.mg X.base j x f fd ps R) (hb : KBinds X.K fd ps ks g gV) (hgd : ∀ G vs ws xs ys, Dts X.K G vs xs → Dts X.K G ws ys → Dts X.K G (gV vs ws) (gD xs ys)) (tk : TkD X Wd) (gd : X.A.guards = some []) (hr : Room k X.A) (hkw : DQ X kws V') (hjk : j ≤ k := by decide) (hg : Gl X x := by rfl)
    (hall : (backToKw pos (keywordEach kws X.env)).all (·.1.isSome) = true := by rfl) (hks : (backToKw pos (keywordEach kws X.env)).filterMap (·.1) = ks := by rfl)
    (hdb : (x == ("__debug__" : Str)) = false := by decide)
    (hpl : ((backTo pos (starEach [] X.env)).any (·.1) || (backToKw pos (keywordEach kws X.env)).any (·.1.isNone)) = false := by rfl) :
    DE X (.Call (.Name x p) [] kws pos) (callKX R gD Wd nilD V') := by
  obtain ⟨W, tW, lk⟩ := tk
  exact (pg_callKS0 h.fn gd (hr.mono hjk) hg h.gm h.kp hb (fun σ => passAt tW σ) hkw hall hks hdb hpl).fimp fun _ _ _ q => emb_callKX (t := tNil) h.hn hgd lk (fun _ H _ ⟨ds, M, F, ev, ok, h, a⟩ => a _ _ h _ _ ok .nil (Lat.refl M H)) q
end
/-! raise C(e) -/
def raiseD (n : String) (f : Str) (W : WXd) (U : TAd) : TSd := fun _ ds M => U ds M fun xs M1 => match xs with
  | [v] => W n [f] [v] ds M1
  | _ => False
section
variable [Grd]
variable {X : Cx} {k : Nat} {C : Addr} {x f : Str} {n : String} {p pos pos' : Pos} {e : Expr} {U : TAd} {Wd : WXd}
theorem ds_raise (T : ErrH X.prog X.K X.mg n f C) (tk : TkD X Wd) (hc : X.calm = true) (hr : Room k X.A) (ha : DA X [e] U) (hx : x = Str.ofString n := by rfl) (hg : Gl X x := by rfl) 
    (hdb : (x == ("__debug__" : Str)) = false := by decide) (he : starEach [e] X.env = (false, eval e X.env) :: starEach [] X.env := by rfl) (hpl : (backTo pos' (starEach [] X.env)).any (·.1) = false := by rfl) :
    DS X (.Raise (some (.Call (.Name x p) [e] [] pos')) none pos) (raiseD n f Wd U) := by
  obtain ⟨W, tW, lk⟩ := tk
  refine (ps_raise hc tW (pmk_err T hx hr hg ha hdb he hpl)).fimp fun E σ H ⟨ds, M, B, ev, ok, h, a⟩ => ⟨ds, M, _, ev, ok, h, fun xs M1 h1 vs H1 ok1 dts l1 => ?_⟩
  match xs, vs, dts, h1 with
  | [d], [v], .cons e1 .nil, h1 =>
    refine ⟨v, rfl, fun dd hd => ?_⟩
    obtain ⟨ok2, l2⟩ := ok1.lay (p := dd) (o := .xd [(f, v)]) hd
    refine lk n [f] [d] ds M1 h1 C (some dd) σ _ T.cl ((ev.mono l1).mono l2) ok2 ⟨[v], ?_, rfl, .cons (e1.mono l2.same) .nil⟩
    rw [hid_of (ok1.free hd)]
    exact upd_same
  | [], _, _, h1 => exact h1.elim
  | _ :: _ :: _, _, _, h1 => exact h1.elim
end
/-! try .. except C as n -/
def tryW (errs : List String) (cn : String) (i : Nat) (th : Addr → String → Option Addr → TSd) (W : WXd) (B : Endd) : WXd := fun n ns es ds M => n ∈ errs ∧ br (subN n cn)
  (∀ a d, th a n d { nx := fun ds2 M2 => B.nx (ds2.set i none) M2, rt := B.rt, bk := fun ds2 M2 => B.bk (ds2.set i none) M2, ct := fun ds2 M2 => B.ct (ds2.set i none) M2 } (ds.set i (some (.obj (.cau a n d) ns es))) M) (W n ns es ds M)
def tryD (errs : List String) (cn : String) (i : Nat) (tb : WXd → TSd) (th : Addr → String → Option Addr → TSd) (W : WXd) : TSd := fun B ds M => tb (tryW errs cn i th W B) B ds M
/-- what an except clause asks of the classes -/
def ExmH (K : PySem.W.Frag) (errs : List String) (cn : String) (c : Value) : Prop := ∀ n ∈ errs, ∀ C, clsA K n C → PySem.W.exmOne K (.ref C) c = some (subN n cn)
section
variable [Grd]
variable {X : Cx} {errs : List String} {cn : String} {c : Value} {x y : Str} {i : Nat} {body suite : List Stmt} {b₀ : Stmt} {np pos pos' : Pos} {tb : WXd → TSd} {th : Addr → String → Option Addr → TSd} {Wd : WXd}
theorem ds_try (hx : ExmH X.K errs cn c) (hc : Names X x c) (hs : X.stack = X.env :: X.outer) (hf : X.env.frame = some X.env.locals) (hN : X.N.Nodup) (tk : TkD X Wd)
    (hb : ∀ (g : Grd) (W' : WXd) (pn : List (Addr × Obj)) (xe : Value → Shared → Prop), @TkD g (X.tr pn xe) W' → PassesOwn (model X.prog X.w) X.A X.env xe → @DSs g (X.tr pn xe) body (tb W'))
    (hsu : ∀ (a : Addr) (oe : Obj) (n : String) (C : Addr) (d : Option Addr) (pn : List (Addr × Obj)), n ∈ errs → clsA X.K n C → Zc (.ref C) d oe → (∃ vs, oe.data = .fields vs) → DSs (X.suite a ((a, oe) :: pn)) (b₀ :: suite) (th a n d))
    (hi : X.N[i]? = some y := by rfl) (hln : X.env.kindOf y = some .local := by rfl) :
    DS X (.Try body [.ExceptHandler (some (.Name x np)) (some y) (b₀ :: suite) pos'] [] [] pos) (tryD errs cn i tb th Wd) := by
  obtain ⟨W, tW, lk⟩ := tk
  refine (ps_try_as (i := i) (n := y) (tb := fun W' D σ H => ∃ (g : Grd) (Wd' : WXd), @LkD g X.K Wd' W' ∧ @embS g X.K (tb Wd') D σ H) (ts := fun a cls d D σ H => ∃ n C, n ∈ errs ∧ cls = .ref C ∧ clsA X.K n C ∧ embS X.K (th a n d) D σ H) (Wout := W) hs hf hN hi hln hc tW ?_ ?_).fimp ?_
  · intro W' pn xe tk' po
    exact ⟨fun pins s σ H D I ⟨g, Wd', lk', q⟩ => (hb g Wd' pn xe ⟨W', tk', lk'⟩ po).run pins s σ H D I q⟩
  · intro a oe cls d pn hz hd
    refine ⟨fun pins s σ H D I ⟨n, C, hn, ec, cl, q⟩ => ?_⟩
    subst ec
    exact (hsu a oe n C d pn hn cl hz hd).run pins s σ H D I q
  · intro D σ H ⟨ds, M, B, ev, ok, h, a⟩
    refine ⟨Grd.and inferInstance M H, _, ?_, ds, M, B, ev, ⟨ok.1, ok.2, Lat.refl M H⟩, h, ?_⟩
    · intro n ns es ds' M' ⟨hn, w⟩ C d σ' H' cl ev' ok' er
      have ok1 : HpOk X.K M' H' := ⟨ok'.1, ok'.2.1⟩
      have lt : Lat M H M' H' := ok'.2.2
      refine ⟨subN n cn, hx n hn C cl, fun hy a' ha' => ?_, fun hy => ?_⟩
      · rw [hy] at w
        refine ⟨n, C, hn, rfl, cl, ds'.set i (some (.obj (.cau a' n d) ns es)), M', _, ev'.set i ?_, ok1, w a' d, ?_⟩
        · cases d with
          | none =>
            obtain ⟨rfl, rfl⟩ := er
            exact .obj (xs := []) ⟨rfl, rfl⟩ rfl .nil
          | some dd =>
            obtain ⟨xs, e1, e2, e3⟩ := er
            exact .obj (xs := xs) ⟨rfl, e1⟩ e2 e3
        · exact ⟨fun ds2 M2 z σ2 H2 ev2 ok2 l2 => a.nx _ _ z _ _ (ev2.setN i) ok2 (lt.trans l2), a.rt.later lt, fun ds2 M2 z σ2 H2 ev2 ok2 l2 => a.bk _ _ z _ _ (ev2.setN i) ok2 (lt.trans l2), fun ds2 M2 z σ2 H2 ev2 ok2 l2 => a.ct _ _ z _ _ (ev2.setN i) ok2 (lt.trans l2)⟩
      · rw [hy] at w
        exact lk n ns es ds' M' w C d σ' H' cl ev' ok1 er
    · exact @AftS.mk (Grd.and inferInstance M H) _ _ _ _ _ (fun ds' M' z σ' H' ev' ok' l => a.nx _ _ z _ _ ev' ⟨ok'.1, ok'.2.1⟩ l) (fun d M' z v H' ok' dt l => a.rt d M' z v H' ⟨ok'.1, ok'.2.1⟩ dt l) (fun ds' M' z σ' H' ev' ok' l => a.bk _ _ z _ _ ev' ⟨ok'.1, ok'.2.1⟩ l) (fun ds' M' z σ' H' ev' ok' l => a.ct _ _ z _ _ ev' ⟨ok'.1, ok'.2.1⟩ l)
end
/-! e.f and isinstance(e, C) in a suite -/
def cauD (a : Addr) (d : Option Addr) (x : D) (K : List Str → List D → Prop) : Prop := match x with
  | .obj (.cau a' n d') ns es => a' = a ∧ d' = d ∧ K ns es
  | _ => False
def xfD (cn n : String) (a : Addr) (d : Option Addr) (f : Str) (T : TEd) : TEd := fun ds M F => n = cn ∧ T ds M fun x M1 => cauD a d x fun ns es => match (ns.zip es).lookup f with
  | some v => F v M1
  | none => False
def isXD (errs : List String) (n g : String) (a : Addr) (d : Option Addr) (T : TEd) : TEd := fun ds M F => n ∈ errs ∧ T ds M fun x M1 => cauD a d x fun _ _ => F (.bl (subN n g)) M1
theorem lookup_dts {K : PySem.W.Frag} {G : Hp} {f : Str} {v : D} : ∀ {ns : List Str} {xs : List V} {es : List D}, Dts K G xs es → ns.length = xs.length → (ns.zip es).lookup f = some v → ∃ u, (ns.zip xs).lookup f = some u ∧ Dt K G u v
  | [], _, _, _, _, h => by simp at h
  | n :: ns, _, _, .nil, hl, _ => by simp at hl
  | n :: ns, _, _, .cons (v := u) h1 h2, hl, h => by
    rw [List.zip_cons_cons, List.lookup_cons] at h ⊢
    cases q : (f == n) with
    | true =>
      rw [q] at h
      cases h
      exact ⟨u, rfl, h1⟩
    | false =>
      rw [q] at h
      exact lookup_dts h2 (by simpa using hl) h
/-- what isinstance asks of the classes -/
structure IsxH (K : PySem.W.Frag) (errs : List String) (g : String) (Cg : Addr) : Prop where
  cl : clsA K g Cg
  ec : ∀ n ∈ errs, ∀ C, clsA K n C → ExcC K C ∧ PySem.W.kitOne K (.ref C) (.ref Cg) = some (subN n g)
section
variable [Grd]
variable {X : Cx} {errs : List String} {cn n gn : String} {C Cg a : Addr} {oe : Obj} {d : Option Addr} {pn : List (Addr × Obj)} {e : Expr} {f x : Str} {T : TEd} {p p2 pos : Pos}
omit [Grd] in
theorem clsA_inj {K : PySem.W.Frag} {n : String} {C C' : Addr} (h : clsA K n C) (h' : clsA K n C') : C = C' := by
  unfold clsA at h h'
  rw [h] at h'
  cases h'
  rfl
theorem de_xf {C' : Addr} (E : ErrH X.prog X.K X.mg cn f C') (cl : clsA X.K n C) (hz : Zc (.ref C) d oe) (hf : ∃ vs, oe.data = .fields vs) (he : DE (X.suite a ((a, oe) :: pn)) e T) (hb : attributeBase e f X.env (eval e X.env) = eval e X.env := by rfl) :
    DE (X.suite a ((a, oe) :: pn)) (.Attribute e f pos) (xfD cn n a d f T) := by
  refine (pe_xf (C := C') (cls := .ref C) (d := d) E.xf E.no hz hf he hb).fimp fun σ H Q ⟨ds, M, F, ev, ok, ⟨hn, h⟩, af⟩ => ⟨ds, M, _, ev, ok, h, fun xx M1 h1 v H1 ok1 dt l1 => ?_⟩
  subst hn
  have e1 := clsA_inj cl E.cl
  subst e1
  cases dt with
  | obj o1 o2 o3 =>
    rename_i k ns xs es
    cases k with
    | cau a' n' d' =>
      obtain ⟨ea, ed, h1⟩ := h1
      subst ea ed
      split at h1
      · next v' hv =>
        obtain ⟨u, hu, du⟩ := lookup_dts o3 o2 hv
        obtain ⟨rfl, o1⟩ := o1
        cases d' with
        | none =>
          have o1' : ns.zip xs = [] := o1
          rw [o1'] at hu
          cases hu
        | some dd => exact ⟨rfl, rfl, dd, _, u, rfl, hid_sub _ _ o1, hu, af _ _ h1 _ _ ok1 du l1⟩
      · exact h1.elim
    | err n' => exact h1.elim
    | ins n' => exact h1.elim
  | _ => exact h1.elim
omit [Grd] in
theorem call_isX (E : ExcC X.K C) (hz : Zc (.ref C) d oe) (hf : ∃ vs, oe.data = .fields vs) : CallR (X.suite a ((a, oe) :: pn)) (.builtin "isinstance") (fun vs H Q => ∃ (b : Bool), vs = [.ref a, .ref Cg] ∧ PySem.W.kitOne X.K (.ref C) (.ref Cg) = some b ∧ (∀ dd, d = some dd → ∃ fs, H dd = some (.xd fs)) ∧ Q (.bl b) H) := by
  intro pins s σ H xs us Q I r h
  obtain ⟨b, rfl, e, hd, q⟩ := h
  cases r with
  | cons rx rr =>
    cases rr with
    | cons rt rr =>
      cases rr
      cases rx
      cases rt
      obtain ⟨hget, _⟩ := I.pin (a, oe) (List.mem_append.mpr (.inl List.mem_cons_self))
      obtain ⟨vs, hv⟩ := hf
      have hcl : (PySem.W.clsIn X.K C).isSome = true := by
        obtain ⟨cd, hc, _⟩ := PySem.W.any_some E.hd
        rw [hc]
        rfl
      have fin : ∀ od, PySem.W.InstAt s.heap a oe C od → wpAny (model X.prog X.w) (X.suite a ((a, oe) :: pn)).A (call (.builtin "isinstance") [.ref a, .ref Cg]) (EP (X.suite a ((a, oe) :: pn)) pins σ Q) (X.suite a ((a, oe) :: pn)).xe s := fun od J =>
        PySem.W.kia_one (PySem.W.kitx_exc hcl E.hg E.hk E.hs E.ha E.hn E.ht E.hm) I.kIn J e (fun z => nomatch z) fun tk => ⟨.bl b, H, I.kept (t' := tk) fun _ _ z => z, rfl, q⟩
      obtain ⟨oc, od, oda, osl⟩ := oe
      obtain ⟨h1, h2⟩ := hz
      dsimp only at h1 h2 hv
      subst h1 h2 hv
      cases od with
      | none => exact fin none ⟨hget, rfl, rfl, trivial⟩
      | some dd =>
        obtain ⟨fs, hfs⟩ := hd dd rfl
        have hx : ObjOk X.prog X.w H s.heap dd (.xd fs) := I.hok dd _ hfs
        obtain ⟨mA, ⟨o, es, ep, ho, _⟩, _⟩ := hx
        exact fin (some o) ⟨hget, rfl, rfl, ho⟩
theorem de_isX (G : IsxH X.K errs gn Cg) (hmg : X.mg x = some (.ref Cg)) (cl : clsA X.K n C) (hz : Zc (.ref C) d oe) (hf : ∃ vs, oe.data = .fields vs) (he : DE (X.suite a ((a, oe) :: pn)) e T) (hm : X.mg "isinstance" = none) (hg : Gl X "isinstance" := by rfl) (hg2 : Gl X x := by rfl)
    (hdb2 : (x == ("__debug__" : Str)) = false := by decide) (hse : starEach [e, .Name x p2] X.env = (false, eval e X.env) :: starEach [.Name x p2] X.env := by rfl) (hse2 : starEach [.Name x p2] X.env = (false, eval (.Name x p2) X.env) :: starEach [] X.env := by rfl) (hpl : (backTo pos (starEach [.Name x p2] X.env)).any (·.1) = false := by rfl) :
    DE (X.suite a ((a, oe) :: pn)) (.Call (.Name "isinstance" p) [e, .Name x p2] [] pos) (isXD errs n gn a d T) := by
  by_cases hn : n ∈ errs
  · obtain ⟨E, ek⟩ := G.ec n hn C cl
    refine (pe_callB (X := X.suite a ((a, oe) :: pn)) (call_isX (Cg := Cg) E hz hf) hg hm boot_isinstance (pa_cons he (pa_cons (pe_glob (X := X.suite a ((a, oe) :: pn)) (v := .ref Cg) hg2 hmg rfl hdb2) pa_nil hse2) hse) (by decide) (by decide) hse hpl).fimp fun σ H Q ⟨ds, M, F, ev, ok, ⟨_, h⟩, af⟩ => ?_
    refine ⟨ds, M, _, ev, ok, h, fun xx M1 h1 v H1 ok1 dt l1 => ?_⟩
    cases dt with
    | obj o1 o2 o3 =>
      rename_i k ns xs es
      cases k with
      | cau a' n' d' =>
        obtain ⟨ea, ed, h1⟩ := h1
        subst ea ed
        obtain ⟨rfl, o1⟩ := o1
        refine ⟨subN n gn, rfl, ek, fun dd e => ?_, af _ _ h1 _ _ ok1 (.bl _) l1⟩
        subst e
        exact ⟨_, hid_sub _ _ o1⟩
      | err n' => exact h1.elim
      | ins n' => exact h1.elim
    | _ => exact h1.elim
  · exact ⟨fun pins s σ H Q I ⟨ds, M, F, ev, ok, ⟨h, _⟩, af⟩ => absurd h hn⟩
end
end Fx

namespace Fx
open PySem PySem.Spec PyProof.Rows L2
/-! a slice of a list that may change -/
def slM : D → Option Int → Option Int → Mp → DK → Prop
  | .ref a, lo, hi, M, F => match M a with
    | some (.lst xs) => F (.lst (cutL xs lo hi)) M
    | _ => False
  | _, _, _, _, _ => False
def sliM (T : TEd) (A B : TOd) : TEd := fun ds M F => T ds M fun d M1 => A ds M1 fun lo M2 => B ds M2 fun hi M3 => slM d lo hi M3 F
section
variable [Grd]
variable {X : Cx} {e : Expr} {lo hi : Option Expr} {T : TEd} {A B : TOd} {pos p2 : Pos}
theorem sl_dM : SlR X (fun v lo hi H Q => ∃ d M F, Dt X.K (hid M H) v d ∧ HpOk X.K M H ∧ slM d lo hi M F ∧ AftE X.K M H F Q) := by
  intro pins s σ H x v vl vu lo hi sl Q I rx hs pl pu h
  obtain ⟨d, M, F, dt, ok, h, af⟩ := h
  unfold slM at h
  split at h
  · split at h
    · next e =>
      cases dt
      obtain ⟨ys, e1, d1⟩ := ok _ _ e
      exact sl_list pins s σ H _ v vl vu lo hi sl Q I rx hs pl pu ⟨_, _, rfl, .inl (.inl e1), af.layL ok (d1.cut lo hi) h⟩
    · exact h.elim
  · exact h.elim
theorem de_sliM (he : DE X e T) (ha : DO X lo A) (hb : DO X hi B) : DE X (.Subscript e (.Slice lo hi none p2) pos) (sliM T A B) := (pe_slice sl_dM he ha hb).fimp fun σ H Q ⟨ds, M, F, ev, ok, h, af⟩ =>
  ⟨ds, M, _, ev, ok, h, fun d M1 h1 v H1 ok1 dt l1 => ⟨ds, M1, _, ev.mono l1, ok1, h1, fun o M2 h2 H2 ok2 l2 => ⟨ds, M2, _, (ev.mono l1).mono l2, ok2, h2, fun o2 M3 h3 H3 ok3 l3 => ⟨d, M3, F, (dt.mono l2.same).mono l3.same, ok3, h3, af.later ((l1.trans l2).trans l3)⟩⟩⟩⟩
end
/-! calls with keywords and defaults -/
def kmix {α : Type} (np nk : Nat) (idx : List Nat) (us ws : List α) : List α := if us.length = np ∧ ws.length = nk then idx.filterMap ((us ++ ws)[·]?) else []
theorem pick_rel {α β : Type} {R : α → β → Prop} {xs : List α} {ys : List β} (h : Paired R xs ys) : ∀ idx : List Nat, Paired R (idx.filterMap (xs[·]?)) (idx.filterMap (ys[·]?))
  | [] => .nil
  | i :: idx => by
    have key : ∀ {xs : List α} {ys : List β}, Paired R xs ys → ∀ i : Nat, (xs[i]? = none ∧ ys[i]? = none) ∨ ∃ a b, xs[i]? = some a ∧ ys[i]? = some b ∧ R a b := by
      intro xs ys h
      induction h with
      | nil => intro i; exact .inl ⟨by simp, by simp⟩
      | cons r t ih =>
        intro i
        cases i with
        | zero => exact .inr ⟨_, _, rfl, rfl, r⟩
        | succ i => simpa using ih i
    rw [List.filterMap_cons, List.filterMap_cons]
    rcases key h i with ⟨e1, e2⟩ | ⟨a, b, e1, e2, r⟩
    · rw [e1, e2]
      exact pick_rel h idx
    · rw [e1, e2]
      exact .cons r (pick_rel h idx)
theorem vals_append {vs ws : List V} {us zs : List Value} (h : Vals vs us) (h' : Vals ws zs) : Vals (vs ++ ws) (us ++ zs) := h.append h'
theorem mix_rel {np nk : Nat} {idx : List Nat} {vs zs : List V} {us ws : List Value} (h : Vals vs us) (h' : Vals zs ws) : Vals (kmix np nk idx vs zs) (kmix np nk idx us ws) := by
  unfold kmix
  rw [h.length, h'.length]
  split
  · exact pick_rel (h.append h') idx
  · exact .nil
theorem Dts.pick {K : PySem.W.Frag} {G : Hp} {xs : List V} {ys : List D} (h : Dts K G xs ys) : ∀ idx : List Nat, Dts K G (idx.filterMap (xs[·]?)) (idx.filterMap (ys[·]?))
  | [] => .nil
  | i :: idx => by
    rw [List.filterMap_cons, List.filterMap_cons]
    cases e : ys[i]? with
    | none =>
      have : xs[i]? = none := by
        rw [List.getElem?_eq_none_iff] at e ⊢
        rw [h.length]
        exact e
      rw [this]
      exact h.pick idx
    | some d =>
      obtain ⟨v, e1, dv⟩ := h.get e
      rw [e1]
      exact .cons dv (h.pick idx)
theorem gd_mix {K : PySem.W.Frag} {np nk : Nat} {idx : List Nat} : ∀ (G : Hp) (vs ws : List V) (xs ys : List D), Dts K G vs xs → Dts K G ws ys → Dts K G (kmix np nk idx vs ws) (kmix np nk idx xs ys) := fun G vs ws xs ys h1 h2 => by
  unfold kmix
  rw [h1.length, h2.length]
  split
  · exact (h1.append h2).pick idx
  · exact .nil
theorem kb_mix {K : PySem.W.Frag} {x qual : Str} {st : Stmt} {f : Addr} {fd : FuncData} {ps ks : List Str} {np : Nat} {idx : List Nat} (F : Fun K x qual st f fd) (hp : ps ≠ [])
    (h : ∀ (kV doc pm : Value) (an : Option Addr) (cdv ct : Value) (us ws : List Value), us.length = np → ws.length = ks.length → bindArgs (PySem.W.fnOf x qual (defArgs st) (defBody st) (defScope st) .none kV doc pm an cdv ct) ⟨us, ks.zip ws⟩ = pure (ps.zip (kmix np ks.length idx us ws))) :
    KBinds K fd ps ks (kmix np ks.length idx) (kmix np ks.length idx) := by
  obtain ⟨oc, od, kV, doc, pm, an, cdv, ct, osl, rfl, lk, hcd⟩ := F.ex
  refine ⟨fun s us ws _ hl => ?_, fun r1 r2 => mix_rel r1 r2⟩
  by_cases c : us.length = np ∧ ws.length = ks.length
  · exact .of_eq (h kV doc pm an cdv ct us ws c.1 c.2)
  · unfold kmix at hl
    rw [if_neg c] at hl
    exact absurd (List.length_eq_zero_iff.mp hl.symm) hp
/-- defaults of keyword parameters behind all others -/
def kdef {α : Type} (ds : List α) (us ws : List α) : List α := match ws with
  | [] => us ++ ds
  | _ :: _ => []
theorem kb_def {K : PySem.W.Frag} {fd : FuncData} {ps : List Str} {ds : List Value} {dvs : List V} (hb : Binds K fd ps ds) (hd : Vals dvs ds) (hp : ps ≠ []) : KBinds K fd ps [] (kdef ds) (kdef dvs) := by
  refine ⟨fun s us ws X hl => ?_, fun {vs us zs ws} r1 r2 => ?_⟩
  · cases ws with
    | nil => exact hb s us X hl
    | cons _ _ => exact absurd (List.length_eq_zero_iff.mp hl.symm) hp
  · cases r2 with
    | nil => exact r1.append hd
    | cons _ _ => exact .nil
theorem gd_def {K : PySem.W.Frag} {dvs : List V} {dds : List D} (hd : ∀ G, Dts K G dvs dds) : ∀ (G : Hp) (vs ws : List V) (xs ys : List D), Dts K G vs xs → Dts K G ws ys → Dts K G (kdef dvs vs ws) (kdef dds xs ys) := fun G vs ws xs ys h1 h2 => by
  cases h2 with
  | nil => exact h1.append (hd G)
  | cons _ _ => exact .nil
/-- a def with keyword-only parameters -/
structure FnX0 (P : Program) (w : World) (K : PySem.W.Frag) (mg : Str → Option Value) (base : Heap) (k : Nat) (x : Str) (f : Addr) (fd : FuncData) (ps : List Str) (R : RX) : Prop where
  fn : FnG P w K mg base (L2.CX P w) k f fd ps (SpX K ps.length R)
  hn : ∀ xs M F W, R xs M F W → xs.length = ps.length
  gm : mg x = some (.ref f)
  kp : PySem.W.keepIn K (.ref f) = true
structure FnH0 (P : Program) (w : World) (K : PySem.W.Frag) (mg : Str → Option Value) (base : Heap) (k : Nat) (x : Str) (f : Addr) (fd : FuncData) (ps : List Str) (R : RD) : Prop where
  fn : FnG P w K mg base CX0 k f fd ps (SpD K ps.length R)
  hn : ∀ xs M F, R xs M F → xs.length = ps.length
  gm : mg x = some (.ref f)
  kp : PySem.W.keepIn K (.ref f) = true
theorem FnX.to0 {P : Program} {w : World} {K : PySem.W.Frag} {mg : Str → Option Value} {base : Heap} {k : Nat} {x : Str} {f : Addr} {fd : FuncData} {ps : List Str} {R : RX} (h : FnX P w K mg base k x f fd ps R) : FnX0 P w K mg base k x f fd ps R := ⟨h.fn, h.hn, h.gm, h.kp⟩
theorem FnH.to0 {P : Program} {w : World} {K : PySem.W.Frag} {mg : Str → Option Value} {base : Heap} {k : Nat} {x : Str} {f : Addr} {fd : FuncData} {ps : List Str} {R : RD} (h : FnH P w K mg base k x f fd ps R) : FnH0 P w K mg base k x f fd ps R := ⟨h.fn, h.hn, h.gm, h.kp⟩
section
variable [Grd]
variable {X : Cx} {j k n : Nat} {f C : Addr} {fd : FuncData} {ps ks : List Str} {R : RX} {R' : RD} {x : Str} {p pos : Pos} {e : Expr} {es : List Expr} {kws : List Keyword} {U V' : TAd} {Wd : WXd} {W : WX} {K : PySem.W.Frag}
variable {g : List Value → List Value → List Value} {gV : List V → List V → List V} {gD : List D → List D → List D}
theorem dcallKX' (h : FnX0 X.prog X.w X.K X.mg X.base j x f fd ps R) (hb : KBinds X.K fd ps ks g gV) (hgd : ∀ G vs ws xs ys, Dts X.K G vs xs → Dts X.K G ws ys → Dts X.K G (gV vs ws) (gD xs ys)) (tk : TkD X Wd) (gd : X.A.guards = some []) (hr : Room k X.A) (ha : DA X (e :: es) U) (hkw : DQ X kws V') (hjk : j ≤ k := by decide) (hg : Gl X x := by rfl)
    (hall : (backToKw pos (keywordEach kws X.env)).all (·.1.isSome) = true := by rfl) (hks : (backToKw pos (keywordEach kws X.env)).filterMap (·.1) = ks := by rfl)
    (hdb : (x == ("__debug__" : Str)) = false := by decide) (he : starEach (e :: es) X.env = (false, eval e X.env) :: starEach es X.env := by rfl)
    (hpl : ((backTo pos (starEach (e :: es) X.env)).any (·.1) || (backToKw pos (keywordEach kws X.env)).any (·.1.isNone)) = false := by rfl) :
    DE X (.Call (.Name x p) (e :: es) kws pos) (callKX R gD Wd U V') := by
  obtain ⟨W, tW, lk⟩ := tk
  exact (pg_callKS h.fn gd (hr.mono hjk) hg h.gm h.kp hb (fun σ => passAt tW σ) ha hkw hall hks hdb he hpl).fimp fun _ _ _ q => emb_callKX h.hn hgd lk (fun _ _ _ z => z) q
theorem dcallKX0' (h : FnX0 X.prog X.w X.K X.mg X.base j x f fd ps R) (hb : KBinds X.K fd ps ks g gV) (hgd : ∀ G vs ws xs ys, Dts X.K G vs xs → Dts X.K G ws ys → Dts X.K G (gV vs ws) (gD xs ys)) (tk : TkD X Wd) (gd : X.A.guards = some []) (hr : Room k X.A) (hkw : DQ X kws V') (hjk : j ≤ k := by decide) (hg : Gl X x := by rfl)
    (hall : (backToKw pos (keywordEach kws X.env)).all (·.1.isSome) = true := by rfl) (hks : (backToKw pos (keywordEach kws X.env)).filterMap (·.1) = ks := by rfl)
    (hdb : (x == ("__debug__" : Str)) = false := by decide)
    (hpl : ((backTo pos (starEach [] X.env)).any (·.1) || (backToKw pos (keywordEach kws X.env)).any (·.1.isNone)) = false := by rfl) :
    DE X (.Call (.Name x p) [] kws pos) (callKX R gD Wd nilD V') := by
  obtain ⟨W, tW, lk⟩ := tk
  exact (pg_callKS0 h.fn gd (hr.mono hjk) hg h.gm h.kp hb (fun σ => passAt tW σ) hkw hall hks hdb hpl).fimp fun _ _ _ q => emb_callKX (t := tNil) h.hn hgd lk (fun _ H _ ⟨ds, M, F, ev, ok, h, a⟩ => a _ _ h _ _ ok .nil (Lat.refl M H)) q
theorem dcallK' (h : FnH0 X.prog X.w X.K X.mg X.base j x f fd ps R') (hb : KBinds X.K fd ps ks g gV) (hgd : ∀ G vs ws xs ys, Dts X.K G vs xs → Dts X.K G ws ys → Dts X.K G (gV vs ws) (gD xs ys)) (gd : X.A.guards = some []) (hr : Room k X.A) (ha : DA X (e :: es) U) (hkw : DQ X kws V') (hjk : j ≤ k := by decide) (hg : Gl X x := by rfl)
    (hall : (backToKw pos (keywordEach kws X.env)).all (·.1.isSome) = true := by rfl) (hks : (backToKw pos (keywordEach kws X.env)).filterMap (·.1) = ks := by rfl)
    (hdb : (x == ("__debug__" : Str)) = false := by decide) (he : starEach (e :: es) X.env = (false, eval e X.env) :: starEach es X.env := by rfl)
    (hpl : ((backTo pos (starEach (e :: es) X.env)).any (·.1) || (backToKw pos (keywordEach kws X.env)).any (·.1.isNone)) = false := by rfl) :
    DE X (.Call (.Name x p) (e :: es) kws pos) (callKD R' gD U V') := de_callK h.fn h.hn gd (hr.mono hjk) hg h.gm h.kp hb hgd ha hkw hall hks hdb he hpl
theorem dcallK0' (h : FnH0 X.prog X.w X.K X.mg X.base j x f fd ps R') (hb : KBinds X.K fd ps ks g gV) (hgd : ∀ G vs ws xs ys, Dts X.K G vs xs → Dts X.K G ws ys → Dts X.K G (gV vs ws) (gD xs ys)) (gd : X.A.guards = some []) (hr : Room k X.A) (hkw : DQ X kws V') (hjk : j ≤ k := by decide) (hg : Gl X x := by rfl)
    (hall : (backToKw pos (keywordEach kws X.env)).all (·.1.isSome) = true := by rfl) (hks : (backToKw pos (keywordEach kws X.env)).filterMap (·.1) = ks := by rfl) (hdb : (x == ("__debug__" : Str)) = false := by decide)
    (hpl : ((backTo pos (starEach [] X.env)).any (·.1) || (backToKw pos (keywordEach kws X.env)).any (·.1.isNone)) = false := by rfl) :
    DE X (.Call (.Name x p) [] kws pos) (callKD R' gD nilD V') := de_callK0 h.fn h.hn gd (hr.mono hjk) hg h.gm h.kp hb hgd hkw hall hks hdb hpl
end
end Fx

namespace Fx
open PySem PySem.Spec PyProof.Rows L2
def clsBody : Stmt → List Stmt
  | .ClassDef _ _ _ b _ _ _ _ _ _ _ => b
  | _ => []
/-- the n-th statement of a class -/
def memb (s : Stmt) (i : Nat) : Stmt := (clsBody s).getD i (.Pass ⟨0, 0, 0, 0⟩)
def posOf (s : Stmt) : Nat → Pos := fun i => match defBody s with
  | [.Expr (.Call (.Attribute (.Call (.Name _ q0) _ _ q1) _ q2) [.Constant _ _ q3] _ q4) q5, .Assign [.Attribute (.Name _ q6) _ q7] (.Name _ q8) q9] => [q0, q1, q2, q3, q4, q5, q6, q7, q8, q9].getD i ⟨0, 0, 0, 0⟩
  | _ => ⟨0, 0, 0, 0⟩
def knOf (s : Stmt) : Nat := match defBody s with
  | .Expr (.Call _ [.Constant _ k _] _ _) _ :: _ => k
  | _ => 0
def parOf (s : Stmt) (i : Nat) : Pos := (((defArgs s).args)[i]?.map (·.pos)).getD ⟨0, 0, 0, 0⟩
theorem errTxt_mk {P : Program} {K : PySem.W.Frag} {f msg qual : Str} {C G fI cc cda N : Addr} {nm q : Str} {bs sub : List Value} {sn : List Str} {ab : Bool} {col : Option Bool} {dd od an cld cdd : Option Addr} {k0 k1 k2 k3 k5 : Option Value} {oc kV doc pm ct cl ccl : Value} {osl csl ccs : Array (Option Value)} {vs : Array Value} {file : Str} {tf : Tok} {s : Stmt}
    (xL : K.lookup C = some (excClassObj nm q C N bs (gTail G) true sn sub ab col dd k0 k1 k2 k3 k5 "Exception.__new__")) (sa : PySem.W.findIn K (.ref C) "__setattr__" = some (some (.builtin "object.__setattr__"))) (nN : PySem.W.findIn K (.ref C) f = some none)
    (iC : PySem.W.findIn K (.ref C) "__init__" = some (some (.ref fI))) (tC : PySem.W.typeIn K (.ref fI) = some (.type "function")) (sup : PySem.W.alongIn K "__init__" (gTail G) = some (some (.builtin "Exception.__init__"))) (opq : PySem.W.nsIn K cStatics "thirdparty.any" = some none)
    (l1 : K.lookup fI = some ⟨oc, od, .func (PySem.W.ksFn "__init__" qual (defArgs s) (defBody s) (defScope s) .none kV doc pm an (.ref cda) ct cc), osl⟩) (c1 : PySem.W.codeIn K (.ref cda) qual = true)
    (cel : K.lookup cc = some ⟨cl, cld, .cell (some (.ref C)), csl⟩) (cod : K.lookup cda = some ⟨ccl, cdd, .fields vs, ccs⟩) (hv : vs[2]? = some (.str file tf)) (hfile : ((P.main.file : Str) == file) = true)
    (top : (P.main.scope.names.lookup ("super" : Str)).isSome = false) (ea : defArgs s = inA f (parOf s 0) (parOf s 1)) (eb : defBody s = inB msg f (posOf s) (knOf s))
    (sk : (defScope s).kind = .function ∧ (defScope s).isGenerator = false ∧ (defScope s).isCoroutine = false) (snc : ∀ x ∈ (defScope s).names, x.2 ≠ .cell) (s1 : (defScope s).names.lookup ("self" : Str) = some .local) (s2 : (defScope s).names.lookup f = some .local)
    (s3 : (defScope s).names.lookup ("super" : Str) = some .globalImplicit) (s4 : (defScope s).names.lookup ("__class__" : Str) = some .free)
    (hb : ∀ (kV doc pm : Value) (an : Option Addr) (ct : Value) (u v : Value), bindArgs (PySem.W.ksFn "__init__" qual (inA f (parOf s 0) (parOf s 1)) (inB msg f (posOf s) (knOf s)) (defScope s) .none kV doc pm an (.ref cda) ct cc) ⟨[u, v], []⟩ = (pure [(("self" : Str), u), (f, v)] : Sem (List (Str × Value)))) (he : supE msg (posOf s) (knOf s)) :
    ErrTxt P K f msg C G fI cc cda :=
  { cls := ⟨nm, q, N, bs, sn, sub, ab, col, dd, k0, k1, k2, k3, k5, xL⟩, sa := sa, noN := nN, iC := iC, tC := tC, sup := sup, opq := opq, cel := ⟨_, _, _, cel⟩, cod := ⟨_, _, _, _, _, _, cod, hv, hfile⟩, top := top,
    fn := ⟨oc, od, qual, defScope s, kV, doc, pm, an, ct, osl, parOf s 0, parOf s 1, posOf s, knOf s, by rw [← ea, ← eb]; exact l1, c1, sk.1, sk.2.1, sk.2.2, snc, s1, s2, s3, s4, fun u v => hb kV doc pm an ct u v, he⟩ }
theorem exm_of {K : PySem.W.Frag} {errs : List String} {cn : String} {c : Value} (h : ∀ n ∈ errs, ∃ C, clsA K n C ∧ PySem.W.exmOne K (.ref C) c = some (subN n cn)) : ExmH K errs cn c := fun n hn C cl => by
  obtain ⟨C', c1, e⟩ := h n hn
  rw [clsA_inj cl c1]
  exact e
theorem isx_of {K : PySem.W.Frag} {errs : List String} {g : String} {Cg : Addr} (cl : clsA K g Cg) (h : ∀ n ∈ errs, ∃ C, clsA K n C ∧ ExcC K C ∧ PySem.W.kitOne K (.ref C) (.ref Cg) = some (subN n g)) : IsxH K errs g Cg := ⟨cl, fun n hn C c1 => by
  obtain ⟨C', c2, e⟩ := h n hn
  rw [clsA_inj c1 c2]
  exact e⟩
end Fx

namespace Fx
open PySem PySem.W PySem.Calls PySem.HandSPX
open Builtin Builtin.ObjectAttr
/-! making errors by keywords -/
section
variable {M : Model} {A : Around} {E : Value → Shared → Prop} {h : Heap} {g : Array GenState} {d : Drawn} {t : Nat} {os : OsState}
variable {nm q : Str} {C N : Addr} {bs bm bmB : List Value} {hdct : Bool} {sn : List Str} {sub : List Value} {ab : Bool} {col : Option Bool} {dd : Option Addr} {k0 k1 k2 k3 k5 : Option Value} {B newId initId : String}
theorem ck_newK (F : ExcBaseFacts B newId initId bmB) (hT : ∀ X : String, bm.contains (.type X) = bmB.contains (.type X)) {rest : List Value} {kw : List (Str × Value)} {Q : Unit → Shared → Prop}
    (hC : h.get? C = some (excClassObj nm q C N bs bm hdct sn sub ab col dd k0 k1 k2 k3 k5 newId)) (hq : Q () ⟨h, g, d, t, os⟩) : wpAny M A (checkBuiltinCall newId ⟨.ref C :: rest, kw⟩) Q E ⟨h, g, d, t, os⟩ := by
  have hcont : (Value.ref C :: bm).contains (.type B) = true := by rw [List.contains_cons, hT, F.hasB, Bool.or_true]
  have hstar := F.noStar
  simp only [checkBuiltinCall, F.newKind, F.newSplit, F.newRow]
  repeat (first | refine wpAny_loadPart_at hC ?_ | (refine wpAny_isSubtype_exc hC ?_; rw [hcont]) | refine wpAny_staticBase_exc hC ?_ | refine wpAny_madeBy_exc hC ?_ | simp only [bne_self_eq_false, Bool.false_eq_true, if_false] | wp_step)
  exact hq
end
section
variable {prog : Program} {w : World} {A : Around} {E : Value → Shared → Prop} {R : Result → Shared → Prop} {h : Heap} {g : Array GenState} {d : Drawn} {t : Nat} {os : OsState}
variable {nm q : Str} {C N : Addr} {bs bm bmB : List Value} {hdct : Bool} {sn : List Str} {sub : List Value} {ab : Bool} {col : Option Bool} {dd : Option Addr} {k0 k1 k2 k3 k5 : Option Value} {B newId initId : String}
theorem newK (F : ExcBaseFacts B newId initId bmB) (hT : ∀ X : String, bm.contains (.type X) = bmB.contains (.type X)) {rest : List Value} {kw : List (Str × Value)}
    (hC : h.get? C = some (excClassObj nm q C N bs bm hdct sn sub ab col dd k0 k1 k2 k3 k5 newId))
    (hq : R (.ok (.ret (.ref (h.objs.size + 1)))) ⟨(h.push (kdv_tup rest)).push (excO C h.objs.size), g, d, t, os⟩) (hrest : rest.length ≤ sizeLine) :
    codeAny (model prog w) A (.builtin newId ⟨.ref C :: rest, kw⟩) R ⟨h, g, d, t, os⟩ := by
  have hends := F.ends
  have hcB : (Value.ref C :: bm).contains (.type B) = true := by rw [List.contains_cons, hT, F.hasB, Bool.or_true]
  have hcA : (Value.ref C :: bm).contains (.type "AttributeError") = false := by rw [List.contains_cons, hT, F.noAttr]; rfl
  have hcN : (Value.ref C :: bm).contains (.type "NameError") = false := by rw [List.contains_cons, hT, F.noName]; rfl
  refine codeAny_builtinAt F.entry ?_
  unfold Builtin.«BaseException.__new__»
  refine wpAt_bind ?_
  show wpAt _ _ _ (stack >>= _) _ _ _
  refine wpAt_bind (wpAt_stack fun p below => wpAt_of_wpAny ?_)
  wp_walk
  refine wpAt_of_wpAny ?_
  rw [F.owner]
  repeat (first | with_reducible refine wpAny_madeHere_exc F.canon hC ?_ | with_reducible refine wpAny_loadPart_at hC ?_ | (with_reducible refine wpAny_isSubtype_exc hC ?_; first | rw [hcB] | rw [hcA] | rw [hcN]) | wp_step)
  show R _ _
  rw [Heap.size_push]
  exact hq
theorem callK (F : ExcBaseFacts B newId initId bmB) (hT : ∀ X : String, bm.contains (.type X) = bmB.contains (.type X)) {rest : List Value} {kw : List (Str × Value)} {fI : Addr}
    (hC : h.get? C = some (excClassObj nm q C N bs bm hdct sn sub ab col dd k0 k1 k2 k3 k5 newId))
    (hi : W.Looks (model prog w) h (typeLookup (.ref C) "__init__") (some (.ref fI))) (hb : ∀ self, W.Looks (model prog w) h (bindSpecial (.ref fI) self) (.ref fI, [self])) (hrest : rest.length ≤ sizeLine)
    (hq : codeAny (model prog w) (A.under (.builtin "type.__call__" ⟨.ref C :: rest, kw⟩)) (.call (.ref fI) ⟨.ref (h.objs.size + 1) :: rest, kw⟩) (W.InitBack (h.objs.size + 1) R)
      ⟨(h.push (kdv_tup rest)).push (excO C h.objs.size), g, d, t, os⟩) :
    codeAny (model prog w) A (.call (.ref C) ⟨rest, kw⟩) R ⟨h, g, d, t, os⟩ := by
  have f1 := tc_lookup
  have f2 := tc_bind (.ref C)
  have hTy : (⟨h, g, d, t, os⟩ : Shared).TypeIs (.ref C) "type" := ⟨_, hC, rfl⟩
  refine codeAny_of_tree ?_
  show wpAny _ _ (callAny (.ref C) _) _ _ _
  repeat (any_goals (first | assumption | with_reducible refine wpAny_loadPart_at hC ?_ | wp_step))
  refine ⟨rfl, ?_⟩
  refine codeAny_call_builtin_at (Code.quiet_builtin _ (by decide +kernel)) entry_typeCall (wpAny_check_type_call_sub hC ?_)
  repeat (first | with_reducible refine wpAny_loadPart_at hC ?_ | with_reducible refine wpAny_madeBy_exc hC ?_ | wp_step)
  refine codeAny_call_builtin_code (Code.quiet_builtin _ F.quiet) (ck_newK F hT hC ?_)
  refine newK F hT hC ?_ hrest
  show wpAny _ _ _ _ _ _
  have k : ∀ b o, h.get? b = some o → ((h.push (W.kdv_tup rest)).push (excO C h.objs.size)).get? b = some o := fun b o e => Heap.get?_push_of_some _ (Heap.get?_push_of_some _ e)
  have hC₁ := k _ _ hC
  have hget : ((h.push (W.kdv_tup rest)).push (excO C h.objs.size)).get? (h.objs.size + 1) = some (excO C h.objs.size) := by heap_get
  have hcC : (Value.ref C :: bm).contains (.ref C) = true := by simp
  have i1 := hi.keeps k
  have b1 := (hb (.ref (h.objs.size + 1))).keeps k
  unfold isInstance
  repeat (first | with_reducible refine wpAny_loadPart_at hget ?_ | wp_step)
  show wpAny _ _ (isSubtype (.ref C) (.ref C)) _ _ _
  refine wpAny_isSubtype_exc hC₁ ?_
  rw [hcC]
  repeat (first | with_reducible refine wpAny_loadPart_at hget ?_ | wp_step)
  show wpAny _ _ (typeLookup (.ref C) _) _ _ _
  refine i1.at ?_
  refine wpAny_holding (wpAny_bind (b1.at ?_))
  refine wpAny_bind (wpAny_call (codeAny_mono hq fun r s' z => ?_))
  rcases r with e | (v | _ | _ | _) <;> first | exact z | exact z.elim | skip
  obtain ⟨rfl, z⟩ := z
  first
    | exact wpAny_pure (wpAny_pure z)
    | (wp_walk; exact z)
end
end Fx

namespace Fx
open PySem PySem.W PySem.Calls PyProof.Rows PySem.HandSPX
/-! errors with any number of fields, made by position or by keyword -/
def asgL (q : Nat → Nat → Pos) : Nat → List Str → List Stmt
  | _, [] => []
  | i, f :: fs => .Assign [.Attribute (.Name "self" (q i 0)) f (q i 1)] (.Name f (q i 2)) (q i 3) :: asgL q (i + 1) fs
def inBL (msg : Str) (fs : List Str) (q : Nat → Pos) (kn : Nat) (r : Nat → Nat → Pos) : List Stmt := .Expr (.Call (.Attribute (.Call (.Name "super" (q 0)) [] [] (q 1)) "__init__" (q 2)) [.Constant (.str msg) kn (q 3)] [] (q 4)) (q 5) :: asgL r 0 fs
def putL : List (Str × Value) → (Str → Option Value) → Str → Option Value
  | [], m => m
  | p :: l, m => putL l (fun y => if y = p.1 then some p.2 else m y)
structure ErrTxtL (P : Program) (K : Frag) (fs : List Str) (msg : Str) (C G fI cc cda : Addr) (fd : FuncData) : Prop where
  cls : ∃ nm q N bs sn sub ab col dd k0 k1 k2 k3 k5, K.lookup C = some (excClassObj nm q C N bs (gTail G) true sn sub ab col dd k0 k1 k2 k3 k5 "Exception.__new__")
  sa : findIn K (.ref C) "__setattr__" = some (some (.builtin "object.__setattr__"))
  noN : ∀ f ∈ fs, findIn K (.ref C) f = some none
  iC : findIn K (.ref C) "__init__" = some (some (.ref fI))
  tC : typeIn K (.ref fI) = some (.type "function")
  sup : alongIn K "__init__" (gTail G) = some (some (.builtin "Exception.__init__"))
  opq : nsIn K cStatics "thirdparty.any" = some none
  cel : ∃ cl cld csl, K.lookup cc = some ⟨cl, cld, .cell (some (.ref C)), csl⟩
  cod : ∃ ccl cdd vs ccs file tf, K.lookup cda = some ⟨ccl, cdd, .fields vs, ccs⟩ ∧ vs[2]? = some (.str file tf) ∧ ((P.main.file : Str) == file) = true
  top : (P.main.scope.names.lookup ("super" : Str)).isSome = false
  nd : fs.Nodup
  ne : fs ≠ []
  few : fs.length ≤ 900
  nos : ∀ f ∈ fs, (f == ("self" : Str)) = false ∧ (f == ("__debug__" : Str)) = false
  fn : ∃ (oc : Value) (od : Option Addr) (qual : Str) (pa : Arguments) (sc : Scope) (kV doc pm : Value) (an : Option Addr) (ct : Value) (osl : Array (Option Value)) (q : Nat → Pos) (kn : Nat) (r : Nat → Nat → Pos),
    fd = ksFn "__init__" qual pa (inBL msg fs q kn r) sc .none kV doc pm an (.ref cda) ct cc ∧
    K.lookup fI = some ⟨oc, od, .func fd, osl⟩ ∧ codeIn K (.ref cda) qual = true ∧
    sc.kind = .function ∧ sc.isGenerator = false ∧ sc.isCoroutine = false ∧ (∀ x ∈ sc.names, x.2 ≠ .cell) ∧ sc.names.lookup ("self" : Str) = some .local ∧ (∀ f ∈ fs, sc.names.lookup f = some .local) ∧ sc.names.lookup ("super" : Str) = some .globalImplicit ∧ sc.names.lookup ("__class__" : Str) = some .free ∧ supE msg q kn ∧ ∃ ar : Arg, (pa.posonlyargs ++ pa.args).head? = some ar ∧ ar.arg = "self"
theorem lookup_rev {α : Type} : ∀ {l : List (Str × α)} (k : Str), (l.map (·.1)).Nodup → l.reverse.lookup k = l.lookup k
  | [], _, _ => rfl
  | p :: l, k, h => by
    rw [List.map_cons, List.nodup_cons] at h
    rw [List.reverse_cons, List.lookup_append, lookup_rev k h.2, List.lookup_cons, List.lookup_cons]
    cases q : (k == p.1) with
    | true =>
      have e : l.lookup k = none := by
        rw [List.lookup_eq_none_iff]
        intro z hz
        rw [bne_iff_ne]
        intro e1
        refine h.1 ?_
        have e2 : k = p.1 := eq_of_beq q
        rw [← e2, e1]
        exact List.mem_map_of_mem hz
      rw [e]
      rfl
    | false =>
      cases l.lookup k <;> rfl
theorem lookup_mem {α : Type} : ∀ {l : List (Str × α)} {p : Str × α}, (l.map (·.1)).Nodup → p ∈ l → l.lookup p.1 = some p.2
  | q :: l, p, h, m => by
    rw [List.map_cons, List.nodup_cons] at h
    rw [List.lookup_cons]
    rcases List.mem_cons.mp m with e | m
    · rw [e, beq_self_eq_true]
    · have : (p.1 == q.1) = false := by
        refine Bool.eq_false_iff.mpr fun w => h.1 ?_
        rw [← eq_of_beq w]
        exact List.mem_map_of_mem m
      rw [this]
      exact lookup_mem h.2 m
section
variable {prog : Program} {w : World} {A : Around} {R : Result → Shared → Prop} {K : Frag} {mg mb : Str → Option Value} {fs : List Str} {msg : Str} {C G fI cc cda : Addr} {fd : FuncData}
theorem st_old {s : Shared} {E : Value → Shared → Prop} {Q : Flow → Shared → Prop} {c : Code} {x dx : Addr} {cd : ClassData} {env : PySem.Env} {q : Nat → Nat → Pos} {fv : Array Value} {m : Str → Option Value} (hcd : clsIn K C = some cd) (hm : cd.mro = .ref C :: gTail G) (hh : cd.hasDict = true) (sa : findIn K (.ref C) "__setattr__" = some (some (.builtin "object.__setattr__")))
    (hL : env.locals ≠ dx) (hK : K.lookup dx = none) (hxd : x ≠ dx) (hs : m "self" = some (.ref x)) (k1 : env.scope.kind = .function) (k2 : env.kindOf "self" = some .local) :
    ∀ (l : List (Str × Value)) (i : Nat) (h : Heap) (tk : Nat) (m0 : Str → Option Value) (nl : List Str), K.In h → h.get? x = some { cls := .ref C, dict := some dx, data := .fields fv } → h.Ns1 dx m0 → Within m0 nl → nl.length + l.length ≤ 1000 → h.Ns env.locals m →
      (∀ p ∈ l, m p.1 = some p.2 ∧ findIn K (.ref C) p.1 = some none ∧ env.kindOf p.1 = some .local ∧ (p.1 == ("__debug__" : Str)) = false) →
      (∀ h' tk', (∀ b o, b ≠ dx → h.get? b = some o → h'.get? b = some o) → h'.Ns1 dx (putL l m0) → Q .next { s with heap := h', toks := tk' }) →
      PySem.wpAt (model prog w) A c (execs (asgL q i (l.map (·.1))) env) Q E { s with heap := h, toks := tk }
  | [], i, h, tk, m0, nl, X, hx, hns, hw, hz, hn, hl, hq => wpAt_of_wpAny (wpAny_execs_nil (hq h tk (fun _ _ _ e => e) hns))
  | p :: l, i, h, tk, m0, nl, X, hx, hns, hw, hz, hn, hl, hq => by
    obtain ⟨a1, a2, a3, a4⟩ := hl p List.mem_cons_self
    obtain ⟨oD, _, _, hoD, _, _⟩ := hns.count hw
    rw [List.length_cons] at hz
    refine ks_wpAt_execs_cons (wpAt_of_wpAny (plainObj_wpAny_Assign_Attribute ?_))
    refine ESX.ldL hn a1 (ESX.ldL hn hs ?_ k1 k2) k1 a3 a4
    refine set_plain X (ox := { cls := .ref C, dict := some dx, data := .fields fv }) (od := some oD) ⟨hx, rfl, rfl, hoD⟩ sa ?_
    refine g_old X hx hns hw (by omega) hcd hm hh a2 fun h' tk' k hn' => ?_
    refine st_old hcd hm hh sa hL hK hxd hs k1 k2 l (i + 1) h' tk' _ (p.1 :: nl) (fun b o e => k b o (fun z => by rw [z, hK] at e; cases e) (X b o e)) (k _ _ hxd hx) hn' (Within.cons _ _ hw) (by rw [List.length_cons]; omega) (hn.at fun o e => k _ o hL e) (fun p' m' => hl p' (List.mem_cons_of_mem _ m')) fun h2 tk2 k2' n2 => hq h2 tk2 (fun b o hb e => k2' b o hb (k b o hb e)) n2
theorem err_initL (T : ErrTxtL prog K fs msg C G fI cc cda fd) {s : Shared} {x t0 : Addr} {vs : List Value} {args : Args} (X : K.In s.heap) (hlim : s.heap.NoLimit) (gn : s.heap.Ns mainGlobals mg) (bn : s.heap.Ns builtinsNs mb) (g0 : mg "super" = none) (b0 : mb "super" = some (.type "super"))
    (hx : s.heap.get? x = some (excO C t0)) (hnx : K.lookup x = none) (hroom : A.depth < recursionLimit) (hlen : fs.length = vs.length) (hb : BindsTo s fd args (("self", .ref x) :: fs.zip vs))
    (hq : ∀ h' tk dx t1, (∀ b o, b ≠ x → s.heap.get? b = some o → h'.get? b = some o) → h'.get? x = some { cls := .ref C, dict := some dx, data := .fields #[.ref t1, .none, .none, .none, .bool false, .none] } → s.heap.objs.size ≤ dx → dx ≠ x → h'.Ns1 dx (putL (fs.zip vs) fun _ => none) → R (.ok (.ret .none)) { s with heap := h', toks := tk }) :
    codeAny (model prog w) A (.call (.ref fI) args) R s := by
  obtain ⟨nm, q, N, bs, sn, sub, ab, col, dd, k0, k1, k2, k3, k5, hC⟩ := T.cls
  obtain ⟨oc, od, qual, pa, sc, kV, doc, pm, an, ct, osl, qp, kn, rp, efd, ho, hcd, s1, s2, s3, s4, n1, n2, n3, n4, hev, ar, har, ear⟩ := T.fn
  obtain ⟨cl, cld, csl, hcell⟩ := T.cel
  obtain ⟨ccl, cdd, cvs, ccs, file, tf, hco, hvs, hfile⟩ := T.cod
  subst efd
  have hcl : clsIn K C = some { name := nm, bases := bs, mro := .ref C :: gTail G, ns := N, qualname := q, hasDict := true, slotNames := sn, subclasses := sub, abstract := ab, collection := col, hasDel := false } := by unfold clsIn; rw [hC] <;> rfl
  have keys : (fs.zip vs).map (·.1) = fs := List.map_fst_zip (Nat.le_of_eq hlen)
  have ks2 : ((("self", .ref x) :: fs.zip vs : List (Str × Value)).map (·.1)).Nodup := by
    rw [List.map_cons, keys, List.nodup_cons]
    refine ⟨fun z => ?_, T.nd⟩
    have := (T.nos _ z).1
    rw [beq_self_eq_true] at this
    cases this
  have lv : ∀ p ∈ fs.zip vs, (("self", .ref x) :: fs.zip vs : List (Str × Value)).reverse.lookup p.1 = some p.2 := fun p hp => by
    rw [lookup_rev _ ks2]
    exact lookup_mem ks2 (List.mem_cons_of_mem _ hp)
  have ls : (("self", .ref x) :: fs.zip vs : List (Str × Value)).reverse.lookup ("self" : Str) = some (.ref x) := by
    rw [lookup_rev _ ks2]
    exact lookup_mem (p := (("self" : Str), Value.ref x)) ks2 List.mem_cons_self
  refine ks_codeAny_call_defAt (fd := ksFn "__init__" qual pa (inBL msg fs qp kn rp) sc .none kV doc pm an (.ref cda) ct cc) (body := inBL msg fs qp kn rp) (binds := ("self", .ref x) :: fs.zip vs) hroom (X _ _ ho) rfl hlim (codeRec_of X hcd) rfl hb s4 (fun y hy => ?_) (fun h1 hns k1 => ?_) s3 s2 s1
  · rcases List.mem_cons.mp hy with rfl | hy
    · exact n1
    · exact n2 _ (List.of_mem_zip (show (y.1, y.2) ∈ _ from hy)).1
  · have hxL : s.heap.objs.size ≠ x := Nat.ne_of_gt (Heap.lt_size hx)
    have X1 : K.In h1 := X.keeps k1
    have hx1 := k1 _ _ hx
    have I1 : InstAt h1 x (excO C t0) C none := ⟨hx1, rfl, rfl, trivial⟩
    obtain ⟨pl, he⟩ := hev (callEnv (ksFn "__init__" qual pa (inBL msg fs qp kn rp) sc .none kV doc pm an (.ref cda) ct cc) s.heap.objs.size fI)
    refine ks_wpAt_execs_cons (ks_wpAt_Expr_any (ks_wpAt_MethodCall ?_ he) (by show (sc.kind == ScopeKind.module && _) = false; rw [s1]; rfl) rfl)
    refine ks_wpAt_super_base (ar := ar) n3 n4 (by decide) rfl (X1 _ _ ho) rfl har rfl (X1 _ _ hco) rfl hvs hfile T.top ?_
    rw [ear]
    refine ks_loadName_global s1 n3 (loadGlobal_builtin (env := callEnv (ksFn "__init__" qual pa (inBL msg fs qp kn rp) sc .none kV doc pm an (.ref cda) ct cc) s.heap.objs.size fI) (gn.keeps k1) g0 (bn.keeps k1) b0 ⟨rfl, ?_⟩)
    refine wpAny_loadName_free s1 n4 rfl ⟨_, X1 _ _ hcell, rfl⟩ (wpAny_loadName_local s1 n1 hns (v := .ref x) ls ?_)
    obtain ⟨oD, hD1, hD2⟩ : ∃ oD, h1.get? C = some oD ∧ oD.data = .cls { name := nm, bases := bs, mro := .ref C :: gTail G, ns := N, qualname := q, hasDict := true, slotNames := sn, subclasses := sub, abstract := ab, collection := col, hasDel := false } := ⟨_, X1 _ _ hC, rfl⟩
    refine ks_wpAny_isType_cls hD1 hD2 ⟨rfl, ?_⟩
    refine ks_wpAny_call_super hD1 hD2 hx1 rfl (fun c e => by cases e) (looks_mroIn X1 (g_mro hcl rfl (by rw [List.contains_cons, beq_self_eq_true]; rfl))) (fun h2 e2 k2 => ?_)
    have X2 : K.In h2 := X1.keeps k2
    have hx2 := k2 _ _ hx1
    have I2 : InstAt h2 x (excO C t0) C none := ⟨hx2, rfl, rfl, trivial⟩
    have mr : Looks (model prog w) h2 (mroOf (.ref C)) (.ref C :: gTail G) := (looks_clsIn X2 hcl).andThen .now
    have ie : Looks (model prog w) h2 (isInstance (.ref x) (.type "Exception")) true := I2.type.andThen (looks_mroIn X2 (g_mro hcl rfl (by rw [List.contains_cons, g_contains, show ESX.exTail.contains (.type "Exception") = true by decide +kernel, Bool.or_true])))
    refine ESX.getMethod_super e2 (looks_opaque X2 T.opq) mr (ESX.drop_own C _) X2 T.sup (ks_ne X2 I2 hcl) (by decide) ie ?_
    refine ESX.callWith_bound (x := x) ?_ rfl rfl
    refine Calls.spliced_cons (Calls.Constant_str (k := kn) (pos := qp 3) (Calls.spliced_nil ⟨Heap.get?_push_size _ rfl, ?_⟩))
    have k3 : ∀ b o, h2.get? b = some o → (h2.push (ESX.bw x)).get? b = some o := fun b o e => Heap.get?_push_of_some _ e
    refine ESX.call_bw (C := C) (X2.keeps k3 _ _ hC) (k3 _ _ hx2) (Heap.get?_push_size _ rfl) (by rw [sizeLine_eq]; exact (by decide : 1 ≤ 16777216)) fun h4 t1 k4 hx4 => ?_
    have k24 : ∀ b o, b ≠ x → s.heap.get? b = some o → h4.get? b = some o := fun b o hb e => k4 b o hb (k3 b o (k2 b o (k1 b o e)))
    have X4 : K.In h4 := fun b o e => k24 b o (fun z => by rw [z, hnx] at e; cases e) (X b o e)
    have hn4 : h4.Ns s.heap.objs.size (fun y => (("self", .ref x) :: fs.zip vs : List (Str × Value)).reverse.lookup y) := hns.at fun o e => k4 _ o hxL (k3 _ o (k2 _ o e))
    have all : ∀ p ∈ fs.zip vs, (("self", .ref x) :: fs.zip vs : List (Str × Value)).reverse.lookup p.1 = some p.2 ∧ findIn K (.ref C) p.1 = some none ∧ sc.names.lookup p.1 = some .local ∧ (p.1 == ("__debug__" : Str)) = false := fun p hp => by
      have m1 := (List.of_mem_zip (show (p.1, p.2) ∈ _ from hp)).1
      exact ⟨lv p hp, T.noN _ m1, n2 _ m1, (T.nos _ m1).2⟩
    have few : (fs.zip vs).length ≤ 900 := by
      rw [List.length_zip]
      have := T.few
      omega
    have bdy : asgL rp 0 fs = asgL rp 0 ((fs.zip vs).map (·.1)) := by rw [keys]
    show PySem.wpAt _ _ _ (execs (asgL rp 0 fs) _) _ _ _
    rw [bdy]
    cases hz : fs.zip vs with
    | nil =>
      exfalso
      have e := keys
      rw [hz] at e
      exact T.ne e.symm
    | cons p l =>
      rw [hz] at all few hn4 hq ls
      obtain ⟨a1, a2, a3, a4⟩ := all p List.mem_cons_self
      rw [List.map_cons]
      refine ks_wpAt_execs_cons (wpAt_of_wpAny (plainObj_wpAny_Assign_Attribute ?_))
      refine ESX.ldL hn4 a1 (ESX.ldL hn4 ls ?_ s1 n1) s1 a3 a4
      refine set_plain X4 (ox := excO C t1) (od := none) ⟨hx4, rfl, rfl, trivial⟩ T.sa ?_
      refine g_new X4 hx4 hcl rfl rfl a2 fun h5 tk5 dx k5 dn dne hx5 hn5 => ?_
      have dxs : s.heap.objs.size ≤ dx := Nat.le_of_lt (Nat.lt_of_lt_of_le hn4.lt dn)
      have kdx : K.lookup dx = none := by
        cases e : K.lookup dx with
        | none => rfl
        | some o => exact absurd (Heap.lt_size (X4 _ _ e)) (Nat.not_lt.mpr dn)
      have hL5 : s.heap.objs.size ≠ dx := Nat.ne_of_lt (Nat.lt_of_lt_of_le hn4.lt dn)
      refine st_old (s := s) (env := callEnv (ksFn "__init__" qual pa (inBL msg fs qp kn rp) sc .none kV doc pm an (.ref cda) ct cc) s.heap.objs.size fI) (m := fun y => (("self", .ref x) :: p :: l : List (Str × Value)).reverse.lookup y) hcl rfl rfl T.sa hL5 kdx (Ne.symm dne) ls s1 n1 l 1 h5 tk5 _ [p.1] (fun b o e => k5 b o (fun z => by rw [z, hnx] at e; cases e) (X4 b o e)) hx5 hn5 (Within.cons _ _ (fun y hy => absurd rfl hy)) (by rw [List.length_cons] at few; simp only [List.length_singleton]; omega) (hn4.at fun o e => k5 _ o hxL e) (fun p' m' => all p' (List.mem_cons_of_mem _ m')) fun h6 tk6 k6 n6 => ?_
      exact hq h6 tk6 dx t1 (fun b o hb e => k6 b o (fun z => by rw [z] at e; exact absurd (Heap.lt_size e) (Nat.not_lt.mpr dxs)) (k5 b o hb (k24 b o hb e))) (k6 _ _ (Ne.symm dne) hx5) dxs dne n6
/-- an error that was made: at e, its own dict d holds the fields -/
structure MdeL (h h' : Heap) (e C d : Addr) (fvs : List (Str × Value)) : Prop where
  keep : ∀ b o, h.get? b = some o → h'.get? b = some o
  new : h.objs.size ≤ e
  obj : ∃ t1 : Addr, h'.get? e = some { cls := .ref C, dict := some d, data := .fields #[.ref t1, .none, .none, .none, .bool false, .none] }
  dbig : h.objs.size ≤ d
  dne : d ≠ e
  ns : h'.Ns1 d (putL fvs fun _ => none)
theorem err_madeL (T : ErrTxtL prog K fs msg C G fI cc cda fd) {s : Shared} {vs us : List Value} {kw : List (Str × Value)} (X : K.In s.heap) (hlim : s.heap.NoLimit) (gn : s.heap.Ns mainGlobals mg) (bn : s.heap.Ns builtinsNs mb) (g0 : mg "super" = none) (b0 : mb "super" = some (.type "super"))
    (hroom : A.depth + 1 < recursionLimit) (hlen : fs.length = vs.length) (hus : us.length ≤ 1000) (hb : ∀ x, bindArgs fd ⟨Value.ref x :: us, kw⟩ = (pure ((("self" : Str), Value.ref x) :: fs.zip vs) : Sem (List (Str × Value)))) (hq : ∀ h' tk e d, MdeL s.heap h' e C d (fs.zip vs) → R (.ok (.ret (.ref e))) { s with heap := h', toks := tk }) :
    codeAny (model prog w) A (.call (.ref C) ⟨us, kw⟩) R s := by
  obtain ⟨nm, q, N, bs, sn, sub, ab, col, dd, k0, k1, k2, k3, k5, hC⟩ := T.cls
  obtain ⟨hp, g, dr, tk, os⟩ := s
  have k : ∀ b o, hp.get? b = some o → ((hp.push (kdv_tup us)).push (excO C hp.objs.size)).get? b = some o := fun b o e => Heap.get?_push_of_some _ (Heap.get?_push_of_some _ e)
  have hg : ((hp.push (kdv_tup us)).push (excO C hp.objs.size)).get? (hp.objs.size + 1) = some (excO C hp.objs.size) := by heap_get
  have hnx : K.lookup (hp.objs.size + 1) = none := by
    cases e : K.lookup (hp.objs.size + 1) with
    | none => rfl
    | some o => exact absurd (Nat.lt_of_succ_lt (Heap.lt_size (show hp.get? (hp.objs.size + 1) = some o from X _ _ e))) (Nat.lt_irrefl _)
  refine Fx.callK F.excBase_Exception (fun X => g_contains G X) (X _ _ hC) (looks_findIn X T.iC) (fun self => bind_fn X self T.tC) (by rw [sizeLine_eq]; omega) ?_
  refine err_initL (s := ⟨(hp.push (kdv_tup us)).push (excO C hp.objs.size), g, dr, tk, os⟩) T (X.keeps k) (hlim.keeps k) (gn.keeps k) (bn.keeps k) g0 b0 hg hnx (show A.depth + 1 < recursionLimit from hroom) hlen (.of_eq (hb _)) fun h' tk' dx t1 k' hx dn dne hns => ?_
  have z : hp.objs.size + 1 + 1 ≤ dx := by
    have := dn
    rw [Heap.size_push, Heap.size_push] at this
    exact this
  exact ⟨rfl, hq h' tk' (hp.objs.size + 1) dx ⟨fun b o e => k' b o (Nat.ne_of_lt (Nat.lt_succ_of_lt (Heap.lt_size e))) (k b o e), Nat.le_succ _, ⟨t1, hx⟩, Nat.le_trans (Nat.le_trans (Nat.le_succ _) (Nat.le_succ _)) z, dne, hns⟩⟩
end
end Fx

namespace Fx
open PySem PySem.Spec PyProof.Rows L2
/-! errors as values -/
theorem rel_put : ∀ {fs : List Str} {vs : List V} {us : List Value} {acc : List (Str × V)} {m : Str → Option Value}, Vals vs us → (∀ y, RelO (acc.lookup y) (m y)) → ∀ y, RelO (((fs.zip vs).reverse ++ acc).lookup y) (putL (fs.zip us) m y)
  | [], vs, us, acc, m, _, h, y => by
    rw [List.zip_nil_left, List.zip_nil_left]
    exact h y
  | f :: fs, [], [], acc, m, .nil, h, y => by
    rw [List.zip_nil_right, List.zip_nil_right]
    exact h y
  | f :: fs, v :: vs, u :: us, acc, m, .cons r rs, h, y => by
    rw [List.zip_cons_cons, List.zip_cons_cons, List.reverse_cons, List.append_assoc]
    show RelO (((fs.zip vs).reverse ++ (f, v) :: acc).lookup y) (putL (fs.zip us) (fun y => if y = f then some u else m y) y)
    exact rel_put rs (fun z => relO_put r h z) y
theorem vals_ty : ∀ {tns : List String} {its : List Value}, Vals (tns.map V.ty) its → its = tns.map Value.type
  | [], _, .nil => rfl
  | t :: ts, _, .cons ra rb => by
    rw [List.map_cons, ← vals_ty rb, show _ = Value.type t from ra]
theorem zip_rev {α β : Type} : ∀ {l : List α} {r : List β}, l.length = r.length → (l.zip r).reverse = l.reverse.zip r.reverse
  | [], [], _ => rfl
  | a :: l, b :: r, h => by
    have h' : l.length = r.length := by simpa using h
    rw [List.zip_cons_cons, List.reverse_cons, List.reverse_cons, List.reverse_cons, zip_rev h', List.zip_append (by rw [List.length_reverse, List.length_reverse, h'])]
    rfl
section
variable {X : Cx} {C : Addr}
theorem made_invL {pins : List (Addr × Obj)} {σ : L2.St} {H : Hp} {s : Shared} {h' : Heap} {tk : Nat} {a d : Addr} {fs : List Str} {vs : List V} {us : List Value} (I : Inv X pins σ H s) (r : Vals vs us) (m : MdeL s.heap h' a C d (fs.zip us)) :
    Inv X pins σ (upd (upd H d (exd d (fs.zip vs).reverse)) a (exo a C (some d))) { s with heap := h', toks := tk } ∧ H d = none ∧ H a = none ∧ d ≠ a := by
  obtain ⟨G, g1, g2⟩ := restrict h' fun b => decide (b ≠ a)
  have gk : ∀ b, b ≠ a → G.get? b = h'.get? b := fun b hb => g1 b (decide_eq_true hb)
  have ge : G.get? a = none := g2 a (by simp)
  have hn : H d = none := I.hok.fresh m.dbig
  have ha : H a = none := I.hok.fresh m.new
  have rr : ∀ y, RelO ((fs.zip vs).reverse.lookup y) (putL (fs.zip us) (fun _ => none) y) := fun y => by
    have := rel_put (fs := fs) (acc := []) (m := fun _ => none) r (fun z => True.intro) y
    rw [List.append_nil] at this
    exact this
  have J : Inv X pins σ (upd H d (exd d (fs.zip vs).reverse)) { s with heap := G, toks := tk } := I.laid (t' := tk) (a := d) (o := exd d (fs.zip vs).reverse) (fun b o e => by
      rw [gk b (Nat.ne_of_lt (Nat.lt_of_lt_of_le (Heap.lt_size e) m.new))]
      exact m.keep b o e) m.dbig (exd_ok (m.ns.at fun o y => (gk d m.dne).trans y) rr)
  obtain ⟨t1, ho⟩ := m.obj
  have J2 := J.laidN (t' := tk) (h' := h') (a := a) (o := exo a C (some d)) (fun b o e => by
    by_cases hb : b = a
    · rw [hb] at e
      exact absurd (e.symm.trans ge) (by simp)
    · exact (gk b hb).symm.trans e) ge (by rw [upd_ne (Ne.symm m.dne)]; exact ha) (exo_ok ho)
  exact ⟨J2, hn, ha, m.dne⟩
end
/-- a class of errors as the module knows it; kwl: the rows of keywords by which it is made -/
structure ErrV (P : Program) (K : PySem.W.Frag) (mg : Str → Option Value) (n : String) (fs : List Str) (kwl : List (List Str × List Nat)) (C : Addr) : Prop where
  T : ∃ msg G fI cc cda fd, ErrTxtL P K fs msg C G fI cc cda fd ∧
    (∀ (x : Addr) (us : List Value), us.length = fs.length → bindArgs fd ⟨.ref x :: us, []⟩ = (pure (((("self" : Str), Value.ref x)) :: fs.zip us) : Sem (List (Str × Value)))) ∧
    (∀ p ∈ kwl, ∀ (x : Addr) (ws : List Value), ws.length = p.1.length → bindArgs fd ⟨[.ref x], p.1.zip ws⟩ = (pure (((("self" : Str), Value.ref x)) :: fs.zip (kmix 0 p.1.length p.2 [] ws)) : Sem (List (Str × Value))))
  cl : clsA K n C
  gm : mg (Str.ofString n) = some (.ref C)
  kp : PySem.W.keepIn K (.ref C) = true
  xf : XfC K C
  su : mg "super" = none
/-- a class without an own __init__ -/
structure ErrV0 (K : PySem.W.Frag) (mg : Str → Option Value) (n : String) (C : Addr) : Prop where
  ex : PySem.W.excIn K C ESX.exTail "Exception.__new__" = true
  cl : clsA K n C
  gm : mg (Str.ofString n) = some (.ref C)
  kp : PySem.W.keepIn K (.ref C) = true
def tMkV (C : Addr) (fs : List Str) (g : List V → List V) (ta : TA) : TE := fun σ H Q => ta σ H fun vs H1 => vs.length ≤ 1000 ∧ (g vs).length = fs.length ∧ ∀ a d, H1 a = none → H1 d = none → d ≠ a → Q (.ref a) (upd (upd H1 d (exd d (fs.zip (g vs)).reverse)) a (exo a C (some d)))
section
variable {X : Cx} {k : Nat} {e : Expr} {es : List Expr} {kws : List Keyword} {ta : TA} {fs : List Str} {kwl : List (List Str × List Nat)} {x f : Str} {p pos : Pos} {n : String} {C : Addr}
theorem pe_mkA (T : ErrV X.prog X.K X.mg n fs kwl C) (hx : x = Str.ofString n) (hr : Room k X.A) (hg : Gl X x) (ha : PA X (e :: es) ta)
    (hdb : (x == ("__debug__" : Str)) = false := by decide) (he : starEach (e :: es) X.env = (false, eval e X.env) :: starEach es X.env := by rfl) (hpl : (backTo pos (starEach es X.env)).any (·.1) = false := by rfl) :
    PE X (.Call (.Name x p) (e :: es) [] pos) (tMkV C fs id ta) := by
  refine ⟨fun pins s σ H Q I h => ?_⟩
  subst hx
  refine wpAny_Call_Name_kw (ld_glob I hg T.gm ?_ hdb)
  refine PySem.W.callWith_K (h₀ := X.base) I.ok.mod.kin T.kp (thn (ha.run pos pins s σ H _ I h) fun us s1 ⟨vs, H1, I1, r1, q0, q1, q2⟩ => ⟨I1.kIn, ?_⟩) he hpl
  obtain ⟨msg, G, fI, cc, cda, fd, ET, hb, _⟩ := T.T
  obtain ⟨mb, h1, h2⟩ := I1.mod.blt
  have hl : us.length = fs.length := by rw [← r1.length]; exact q1
  refine wpAny_call (err_madeL (mg := X.mg) (mb := mb) ET I1.kIn (I1.mod.nolimit.keeps I1.bk) (I1.mod.glob.keeps I1.bk) (h1.keeps I1.bk) T.su ((h2 "super" (by decide)).trans (by decide +kernel)) (by have := hr.dp; omega) hl.symm (by show us.length ≤ 1000; rw [← r1.length]; exact q0) (fun x => hb x us hl) fun h' tk a d m => ?_)
  obtain ⟨J, hn, na, dn⟩ := made_invL (tk := tk) I1 r1 m
  exact ⟨.ref a, _, J, rfl, q2 a d na hn dn⟩
theorem pe_mkK {ks : List Str} {idx : List Nat} (T : ErrV X.prog X.K X.mg n fs kwl C) (hx : x = Str.ofString n) (hr : Room k X.A) (hg : Gl X x) (hm : (ks, idx) ∈ kwl) (hkw : PK X kws ta)
    (hall : (backToKw pos (keywordEach kws X.env)).all (·.1.isSome) = true := by rfl) (hks : (backToKw pos (keywordEach kws X.env)).filterMap (·.1) = ks := by rfl)
    (hdb : (x == ("__debug__" : Str)) = false := by decide) (hpl : ((backTo pos (starEach [] X.env)).any (·.1) || (backToKw pos (keywordEach kws X.env)).any (·.1.isNone)) = false := by rfl) :
    PE X (.Call (.Name x p) [] kws pos) (tMkV C fs (kmix 0 ks.length idx []) fun σ H Q => ta σ H fun vs H1 => vs.length = ks.length ∧ Q vs H1) := by
  refine ⟨fun pins s σ H Q I h => ?_⟩
  subst hx
  refine wpAny_Call_Name_kw (ld_glob I hg T.gm ?_ hdb)
  refine PySem.W.callWith_KW0 (h₀ := X.base) I.ok.mod.kin T.kp hall (thn (hkw.run pos pins s σ H _ I h) fun ws s1 ⟨vs, H1, I1, r1, ql, q0, q1, q2⟩ => ⟨I1.kIn, ?_⟩) hpl
  rw [hks]
  obtain ⟨msg, G, fI, cc, cda, fd, ET, _, hb⟩ := T.T
  obtain ⟨mb, h1, h2⟩ := I1.mod.blt
  have hl : ws.length = ks.length := by rw [← r1.length]; exact ql
  have rm : Vals (kmix 0 ks.length idx [] vs) (kmix 0 ks.length idx [] ws) := mix_rel .nil r1
  refine wpAny_call (err_madeL (us := []) (mg := X.mg) (mb := mb) ET I1.kIn (I1.mod.nolimit.keeps I1.bk) (I1.mod.glob.keeps I1.bk) (h1.keeps I1.bk) T.su ((h2 "super" (by decide)).trans (by decide +kernel)) (by have := hr.dp; omega) (by rw [← rm.length, q1]) (by simp) (fun x => hb _ hm x ws hl) fun h' tk a d m => ?_)
  obtain ⟨J, hn, na, dn⟩ := made_invL (tk := tk) I1 rm m
  exact ⟨.ref a, _, J, rfl, q2 a d na hn dn⟩
def tMk0 (C : Addr) : TE := fun σ H Q => ∀ a, H a = none → Q (.ref a) (upd H a (exo a C none))
theorem pe_mk0 (T : ErrV0 X.K X.mg n C) (hx : x = Str.ofString n) (hg : Gl X x) (hdb : (x == ("__debug__" : Str)) = false := by decide) : PE X (.Call (.Name x p) [] [] pos) (tMk0 C) := by
  refine ⟨fun pins s σ H Q I h => ?_⟩
  subst hx
  refine wpAny_Call_Name_kw (ld_glob I hg T.gm ?_ hdb)
  refine PySem.W.callWith_K0 I.kIn T.kp ?_
  show wpAny _ _ (call (.ref C) []) _ _ _
  obtain ⟨bm, N, nm, qn, bs, hdct, sn, sub, ab, col, dd, k0, k1, k2, k3, k5, mN, hC, hN, hni, TT⟩ := exc_obj I.kIn T.ex
  obtain ⟨hp, g, dr, tk, os⟩ := s
  refine wpAny_call_exc_subT F.excBase_Exception TT hC hN hni (fun h' e hm => ?_) (by rw [sizeLine_eq]; exact Nat.zero_le _)
  obtain ⟨t1, he, _, _⟩ := hm.there
  have na := I.hok.gone hm.new
  exact ⟨.ref e, _, I.laidN (t' := tk) hm.keeps hm.new na (exo_ok he), rfl, h e na⟩
/-- a field -/
def tFld (C : Addr) (f : Str) (te : TE) : TE := fun σ H Q => te σ H fun x H1 => ∃ (a d : Addr) (fs : List (Str × V)) (v : V), x = .ref a ∧ H1 a = some (exo a C (some d)) ∧ H1 d = some (exd d fs) ∧ fs.lookup f = some v ∧ Q v H1
theorem pe_fld {te : TE} (T : XfC X.K C) (hno : PySem.W.findIn X.K (.ref C) f = some none) (he : PE X e te) (hb : attributeBase e f X.env (eval e X.env) = eval e X.env := by rfl) : PE X (.Attribute e f pos) (tFld C f te) := by
  refine ⟨fun pins s σ H Q I h => ?_⟩
  refine attr_of hb (thn (he.run pins s σ H _ I h) fun u s1 hh => ?_)
  obtain ⟨x, H1, I1, rx, a, d, fs, v, ex, ea, ed, l, q⟩ := hh
  subst ex
  obtain rfl : u = Value.ref a := rx
  obtain ⟨t1, ho⟩ := exo_at I1.hok ea
  obtain ⟨mA, hns, hr⟩ := exd_at I1.hok ed
  obtain ⟨od, hod, hl⟩ := lookIn_ns hns
  obtain ⟨u, hu, ru⟩ := RelO.some_of (v := v) (o := mA f) (by rw [← l]; exact hr f)
  have J : PySem.W.InstAt s1.heap a { cls := .ref C, dict := some d, data := .fields #[.ref t1, .none, .none, .none, .bool false, .none] } C (some od) := ⟨ho, rfl, rfl, hod⟩
  exact HandSPX.exc_get I1.kIn J T.ga T.gg T.exC (PySem.W.findObj_own T.hdC hno rfl (by rw [hl, hu])) (handed_of ru) ⟨v, H1, I1.tok _, ru, q⟩
/-- isinstance of such an error -/
theorem inst_exo {pins : List (Addr × Obj)} {σ : L2.St} {H : Hp} {s : Shared} {a : Addr} {d : Option Addr} (I : Inv X pins σ H s) (e : H a = some (exo a C d)) (hd : ∀ dd, d = some dd → ∃ fs, H dd = some (exd dd fs)) : ∃ ox od, PySem.W.InstAt s.heap a ox C od := by
  obtain ⟨t1, ho⟩ := exo_at I.hok e
  cases d with
  | none => exact ⟨_, none, ho, rfl, rfl, trivial⟩
  | some dd =>
    obtain ⟨fs, hfs⟩ := hd dd rfl
    obtain ⟨mA, ⟨o, es, ep, hoo, _⟩, _⟩ := exd_at I.hok hfs
    exact ⟨_, some o, ho, rfl, rfl, hoo⟩
theorem call_isV : CallR X (.builtin "isinstance") (fun vs H Q => ∃ (a : Addr) (C : Addr) (d : Option Addr) (c : V) (cv : Value) (b : Bool), vs = [.ref a, c] ∧ (∀ u, RelV c u → u = cv) ∧ ExcC X.K C ∧ H a = some (exo a C d) ∧ (∀ dd, d = some dd → ∃ fs, H dd = some (exd dd fs)) ∧ PySem.W.kitOne X.K (.ref C) cv = some b ∧ Q (.bl b) H) := by
  intro pins s σ H xs us Q I r h
  obtain ⟨a, C, d, c, cv, b, rfl, hcv, E, ea, hd, e, q⟩ := h
  obtain ⟨u1, u2, rfl, r1, r2⟩ := vals2 r
  obtain rfl : u1 = Value.ref a := r1
  have e2 := hcv _ r2
  subst e2
  have hcl : (PySem.W.clsIn X.K C).isSome = true := by
    obtain ⟨cd, hc, _⟩ := PySem.W.any_some E.hd
    rw [hc]
    rfl
  obtain ⟨ox, od, J⟩ := inst_exo I ea hd
  exact PySem.W.kia_one (PySem.W.kitx_exc hcl E.hg E.hk E.hs E.ha E.hn E.ht E.hm) I.kIn J e (fun z => nomatch z) fun tk => ⟨.bl b, H, I.kept (t' := tk) fun _ _ z => z, rfl, q⟩
theorem call_isU : CallR X (.builtin "isinstance") (fun vs H Q => ∃ (a : Addr) (C : Addr) (d : Option Addr) (tp : Addr) (tns : List String) (b : Bool), vs = [.ref a, .ref tp] ∧ H tp = some (.tup (tns.map V.ty)) ∧ ExcC X.K C ∧ H a = some (exo a C d) ∧ (∀ dd, d = some dd → ∃ fs, H dd = some (exd dd fs)) ∧ PySem.W.kitAny X.K (.ref C) (tns.map Value.type) = some b ∧ Q (.bl b) H) := by
  intro pins s σ H xs us Q I r h
  obtain ⟨a, C, d, tp, tns, b, rfl, hT, E, ea, hd, e, q⟩ := h
  obtain ⟨u1, u2, rfl, r1, r2⟩ := vals2 r
  obtain rfl : u1 = Value.ref a := r1
  obtain rfl : u2 = Value.ref tp := r2
  have hcl : (PySem.W.clsIn X.K C).isSome = true := by
    obtain ⟨cd, hc, _⟩ := PySem.W.any_some E.hd
    rw [hc]
    rfl
  obtain ⟨ox, od, J⟩ := inst_exo I ea hd
  obtain ⟨_, its, rv, o, h1, h2, n, h3⟩ := (show ObjOk X.prog X.w H s.heap tp (.tup (tns.map V.ty)) from I.hok tp _ hT)
  have e3 : its = tns.map Value.type := vals_ty rv
  subst e3
  obtain ⟨oc, od', dt, sl⟩ := o
  simp only at h2 h3
  subst h2 h3
  exact PySem.W.kia_tup (PySem.W.kitx_exc hcl E.hg E.hk E.hs E.ha E.hn E.ht E.hm) I.kIn J h1 e (fun z => nomatch z) fun tk => ⟨.bl b, H, I.kept (t' := tk) fun _ _ z => z, rfl, q⟩
end
/-! the data level -/
def mkA (n : String) (fs : List Str) (U : TAd) : TEd := fun ds M F => U ds M fun xs M1 => xs.length ≤ 1000 ∧ xs.length = fs.length ∧ F (.obj (.err n) fs.reverse xs.reverse) M1
def mkK (n : String) (fs : List Str) (nk : Nat) (idx : List Nat) (U : TAd) : TEd := fun ds M F => U ds M fun xs M1 => xs.length ≤ 1000 ∧ xs.length = nk ∧ (kmix 0 nk idx [] xs).length = fs.length ∧ F (.obj (.err n) fs.reverse (kmix 0 nk idx [] xs).reverse) M1
def mk0 (n : String) : TEd := fun ds M F => F (.obj (.err n) [] []) M
def errK (x : D) (K : String → List Str → List D → Prop) : Prop := match x with
  | .obj (.err n) ns es => K n ns es
  | _ => False
def fldD (n : String) (f : Str) (T : TEd) : TEd := fun ds M F => T ds M fun x M1 => errK x fun n' ns es => n' = n ∧ match (ns.zip es).lookup f with
  | some v => F v M1
  | none => False
def isVD (errs : List String) (g : String) (T : TEd) : TEd := fun ds M F => T ds M fun x M1 => errK x fun n _ _ => n ∈ errs ∧ F (.bl (subN n g)) M1
def isUD (errs : List String) (T : TEd) : TEd := fun ds M F => T ds M fun x M1 => errK x fun n _ _ => n ∈ errs ∧ F (.bl false) M1
structure IsbH (K : PySem.W.Frag) (errs : List String) (g : String) : Prop where
  ec : ∀ n ∈ errs, ∀ C, clsA K n C → ExcC K C ∧ PySem.W.kitOne K (.ref C) (.type g) = some (subN n g)
structure IsuH (K : PySem.W.Frag) (errs : List String) (tns : List String) : Prop where
  ec : ∀ n ∈ errs, ∀ C, clsA K n C → ExcC K C ∧ PySem.W.kitAny K (.ref C) (tns.map Value.type) = some false
def tTys : List String → TA
  | [] => tNil
  | t :: ts => tCons (tC (.ty t)) (tTys ts)
section
variable [Grd]
variable {X : Cx} {k : Nat} {e : Expr} {es : List Expr} {kws : List Keyword} {U : TAd} {T : TEd} {fs : List Str} {kwl : List (List Str × List Nat)} {x f : Str} {p p2 pos pos2 : Pos} {n gn : String} {C Cg : Addr} {errs tns : List String}
theorem AftE.layE {K : PySem.W.Frag} {M : Mp} {H : Hp} {F : DK} {Q : VK} {vs : List V} {xs : List D} {C : Addr} {n : String} {fs : List Str} (a : AftE K M H F Q) (ok : HpOk K M H) (cl : clsA K n C) (hl : vs.length = fs.length) (d : Dts K (hid M H) vs xs) (f : F (.obj (.err n) fs.reverse xs.reverse) M) :
    ∀ p q, H p = none → H q = none → q ≠ p → Q (.ref p) (upd (upd H q (exd q (fs.zip vs).reverse)) p (exo p C (some q))) := fun p q np nq ne => by
  obtain ⟨ok2, l2⟩ := ok.lay (p := q) (o := exd q (fs.zip vs).reverse) nq
  have np2 : upd H q (exd q (fs.zip vs).reverse) p = none := by rw [upd_ne (Ne.symm ne)]; exact np
  obtain ⟨ok3, l3⟩ := ok2.lay (p := p) (o := exo p C (some q)) np2
  have zr : (fs.zip vs).reverse = fs.reverse.zip vs.reverse := zip_rev hl.symm
  refine a _ _ f _ _ ok3 (.obj (ns := fs.reverse) (xs := vs.reverse) ⟨C, cl, .inr ⟨q, ?_, ?_⟩⟩ (by rw [List.length_reverse, List.length_reverse, hl]) ((d.mono (l2.trans l3).same).rev)) (l2.trans l3)
  · rw [hid_of (ok.free np)]
    exact upd_same
  · rw [hid_of (ok.free nq), upd_ne ne, upd_same, zr]
theorem de_mkA (E : ErrV X.prog X.K X.mg n fs kwl C) (hr : Room k X.A) (ha : DA X (e :: es) U) (hx : x = Str.ofString n := by rfl) (hg : Gl X x := by rfl)
    (hdb : (x == ("__debug__" : Str)) = false := by decide) (he : starEach (e :: es) X.env = (false, eval e X.env) :: starEach es X.env := by rfl) (hpl : (backTo pos (starEach es X.env)).any (·.1) = false := by rfl) :
    DE X (.Call (.Name x p) (e :: es) [] pos) (mkA n fs U) := (pe_mkA E hx hr hg ha hdb he hpl).fimp fun σ H Q ⟨ds, M, F, ev, ok, h, af⟩ =>
  ⟨ds, M, _, ev, ok, h, fun xs M1 ⟨q0, q1, q2⟩ vs H1 ok1 dts l1 => ⟨by rw [dts.length]; exact q0, by have e : (id vs).length = vs.length := rfl; rw [e, dts.length]; exact q1, (af.later l1).layE (vs := vs) ok1 E.cl (dts.length.trans q1) dts q2⟩⟩
theorem de_mkK {ks : List Str} {idx : List Nat} {nk : Nat} (E : ErrV X.prog X.K X.mg n fs kwl C) (hr : Room k X.A) (hm : (ks, idx) ∈ kwl) (ha : DQ X kws U) (hnk : ks.length = nk := by rfl) (hx : x = Str.ofString n := by rfl) (hg : Gl X x := by rfl)
    (hall : (backToKw pos (keywordEach kws X.env)).all (·.1.isSome) = true := by rfl) (hks : (backToKw pos (keywordEach kws X.env)).filterMap (·.1) = ks := by rfl)
    (hdb : (x == ("__debug__" : Str)) = false := by decide) (hpl : ((backTo pos (starEach [] X.env)).any (·.1) || (backToKw pos (keywordEach kws X.env)).any (·.1.isNone)) = false := by rfl) :
    DE X (.Call (.Name x p) [] kws pos) (mkK n fs nk idx U) := hnk ▸ (pe_mkK E hx hr hg hm ha hall hks hdb hpl).fimp fun σ H Q ⟨ds, M, F, ev, ok, h, af⟩ =>
  ⟨ds, M, _, ev, ok, h, fun xs M1 ⟨q0, q1, q2, q3⟩ vs H1 ok1 dts l1 => by
    have dm := gd_mix (np := 0) (nk := ks.length) (idx := idx) _ [] vs [] xs .nil dts
    exact ⟨by rw [dts.length]; exact q1, by rw [dts.length]; exact q0, by rw [dm.length]; exact q2, (af.later l1).layE ok1 E.cl (by rw [dm.length]; exact q2) dm q3⟩⟩
theorem de_mk0 (E : ErrV0 X.K X.mg n C) (hx : x = Str.ofString n := by rfl) (hg : Gl X x := by rfl) (hdb : (x == ("__debug__" : Str)) = false := by decide) : DE X (.Call (.Name x p) [] [] pos) (mk0 n) := (pe_mk0 E hx hg hdb).fimp fun σ H Q ⟨ds, M, F, ev, ok, h, af⟩ => fun a na => by
  obtain ⟨ok2, l2⟩ := ok.lay (p := a) (o := exo a C none) na
  refine af _ _ h _ _ ok2 (.obj (ns := []) (xs := []) ⟨C, E.cl, .inl ⟨rfl, ?_⟩⟩ rfl .nil) l2
  rw [hid_of (ok.free na)]
  exact upd_same
omit [Grd] in
theorem err_of {K : PySem.W.Frag} {G : Hp} {v : V} {x : D} {Kk : String → List Str → List D → Prop} (dt : Dt K G v x) (h : errK x Kk) : ∃ n ns es a C d xs, x = .obj (.err n) ns es ∧ v = .ref a ∧ clsA K n C ∧ G a = some (exo a C d) ∧ (∀ dd, d = some dd → G dd = some (exd dd (ns.zip xs))) ∧ (d = none → ns.zip xs = []) ∧ ns.length = xs.length ∧ Dts K G xs es ∧ Kk n ns es := by
  cases dt with
  | obj o1 o2 o3 =>
    rename_i a k ns xs es
    cases k with
    | err n' =>
      obtain ⟨C, c1, c2⟩ := o1
      rcases c2 with ⟨e1, e2⟩ | ⟨d, e1, e2⟩
      · exact ⟨n', ns, es, a, C, none, xs, rfl, rfl, c1, e2, fun dd z => (by cases z), fun _ => e1, o2, o3, h⟩
      · exact ⟨n', ns, es, a, C, some d, xs, rfl, rfl, c1, e1, fun dd z => (by cases z; exact e2), fun z => (by cases z), o2, o3, h⟩
    | cau a' n' d' => exact h.elim
    | ins n' => exact h.elim
  | _ => exact h.elim
theorem de_fld (E : ErrV X.prog X.K X.mg n fs kwl C) (hf : f ∈ fs) (he : DE X e T) (hb : attributeBase e f X.env (eval e X.env) = eval e X.env := by rfl) : DE X (.Attribute e f pos) (fldD n f T) := by
  obtain ⟨msg, G, fI, cc, cda, fd, ET, _⟩ := E.T
  refine (pe_fld E.xf (ET.noN f hf) he hb).fimp fun σ H Q ⟨ds, M, F, ev, ok, h, af⟩ => ⟨ds, M, _, ev, ok, h, fun xx M1 h1 v H1 ok1 dt l1 => ?_⟩
  obtain ⟨n', ns, es, a, C', d, xs, rfl, rfl, cl, ea, hd, hd0, hl, dts, rfl, h2⟩ := err_of dt h1
  have e1 := clsA_inj cl E.cl
  subst e1
  split at h2
  · next v' hv =>
    obtain ⟨u, hu, du⟩ := lookup_dts dts hl hv
    cases d with
    | none =>
      rw [hd0 rfl] at hu
      cases hu
    | some dd => exact ⟨a, dd, _, u, rfl, hid_sub _ _ ea, hid_sub _ _ (hd dd rfl), hu, af _ _ h2 _ _ ok1 du l1⟩
  · exact h2.elim
theorem de_isV (G : IsxH X.K errs gn Cg) (hmg : X.mg x = some (.ref Cg)) (he : DE X e T) (hm : X.mg "isinstance" = none) (hg : Gl X "isinstance" := by rfl) (hg2 : Gl X x := by rfl)
    (hdb2 : (x == ("__debug__" : Str)) = false := by decide) (hse : starEach [e, .Name x p2] X.env = (false, eval e X.env) :: starEach [.Name x p2] X.env := by rfl) (hse2 : starEach [.Name x p2] X.env = (false, eval (.Name x p2) X.env) :: starEach [] X.env := by rfl) (hpl : (backTo pos (starEach [.Name x p2] X.env)).any (·.1) = false := by rfl) :
    DE X (.Call (.Name "isinstance" p) [e, .Name x p2] [] pos) (isVD errs gn T) := by
  refine (pe_callB call_isV hg hm boot_isinstance (pa_cons he (pa_cons (pe_glob (v := .ref Cg) hg2 hmg rfl hdb2) pa_nil hse2) hse) (by decide) (by decide) hse hpl).fimp fun σ H Q ⟨ds, M, F, ev, ok, h, af⟩ => ?_
  refine ⟨ds, M, _, ev, ok, h, fun xx M1 h1 v H1 ok1 dt l1 => ?_⟩
  obtain ⟨n, ns, es, a, C', d, xs, rfl, rfl, cl, ea, hd, hd0, hl, dts, hn, h2⟩ := err_of dt h1
  obtain ⟨E, ek⟩ := G.ec n hn C' cl
  exact ⟨a, C', d, .ref Cg, .ref Cg, _, rfl, fun u r => r, E, hid_sub _ _ ea, fun dd z => ⟨_, hid_sub _ _ (hd dd z)⟩, ek, af _ _ h2 _ _ ok1 (.bl _) l1⟩
theorem de_isB (G : IsbH X.K errs gn) (he : DE X e T) (hm : X.mg "isinstance" = none) (hm2 : X.mg x = none) (hv2 : bootBuiltins x = some (.type gn)) (hg : Gl X "isinstance" := by rfl) (hg2 : Gl X x := by rfl) (hn2 : x ≠ "__name__" := by decide)
    (hdb2 : (x == ("__debug__" : Str)) = false := by decide) (hse : starEach [e, .Name x p2] X.env = (false, eval e X.env) :: starEach [.Name x p2] X.env := by rfl) (hse2 : starEach [.Name x p2] X.env = (false, eval (.Name x p2) X.env) :: starEach [] X.env := by rfl) (hpl : (backTo pos (starEach [.Name x p2] X.env)).any (·.1) = false := by rfl) :
    DE X (.Call (.Name "isinstance" p) [e, .Name x p2] [] pos) (isVD errs gn T) := by
  refine (pe_callB call_isV hg hm boot_isinstance (pa_cons he (pa_cons (pe_bltn (v := .ty gn) hg2 hm2 hv2 rfl hn2 hdb2) pa_nil hse2) hse) (by decide) (by decide) hse hpl).fimp fun σ H Q ⟨ds, M, F, ev, ok, h, af⟩ => ?_
  refine ⟨ds, M, _, ev, ok, h, fun xx M1 h1 v H1 ok1 dt l1 => ?_⟩
  obtain ⟨n, ns, es, a, C', d, xs, rfl, rfl, cl, ea, hd, hd0, hl, dts, hn, h2⟩ := err_of dt h1
  obtain ⟨E, ek⟩ := G.ec n hn C' cl
  exact ⟨a, C', d, .ty gn, .type gn, _, rfl, fun u r => r, E, hid_sub _ _ ea, fun dd z => ⟨_, hid_sub _ _ (hd dd z)⟩, ek, af _ _ h2 _ _ ok1 (.bl _) l1⟩
omit [Grd] in
theorem tTys_ok : ∀ (ts : List String) (σ : L2.St) (H : Hp) (Q : List V → Hp → Prop), Q (ts.map V.ty) H → tTys ts σ H Q
  | [], σ, H, Q, h => h
  | t :: ts, σ, H, Q, h => tTys_ok ts σ H _ h
theorem de_isU {kk : Nat} (G : IsuH X.K errs tns) (he : DE X e T) (hes : PA X es (tTys tns)) (hl : tns.length ≤ 1000) (hm : X.mg "isinstance" = none) (hg : Gl X "isinstance" := by rfl)
    (hse : starEach [e, .Tuple es kk pos2] X.env = (false, eval e X.env) :: starEach [.Tuple es kk pos2] X.env := by rfl) (hse2 : starEach [.Tuple es kk pos2] X.env = (false, eval (.Tuple es kk pos2) X.env) :: starEach [] X.env := by rfl) (hpl : (backTo pos (starEach [.Tuple es kk pos2] X.env)).any (·.1) = false := by rfl) :
    DE X (.Call (.Name "isinstance" p) [e, .Tuple es kk pos2] [] pos) (isUD errs T) := by
  refine (pe_callB call_isU hg hm boot_isinstance (pa_cons he (pa_cons (pe_tup hes) pa_nil hse2) hse) (by decide) (by decide) hse hpl).fimp fun σ H Q ⟨ds, M, F, ev, ok, h, af⟩ => ?_
  refine ⟨ds, M, _, ev, ok, h, fun xx M1 h1 v H1 ok1 dt l1 => ?_⟩
  obtain ⟨n, ns, es', a, C', d, xs, rfl, rfl, cl, ea, hd, hd0, hlen, dts, hn, h2⟩ := err_of dt h1
  obtain ⟨E, ek⟩ := G.ec n hn C' cl
  refine tTys_ok _ _ _ _ ⟨by rw [List.length_map]; exact big_le (by omega), fun tp ntp => ?_⟩
  obtain ⟨ok2, l2⟩ := ok1.lay (p := tp) (o := .tup (tns.map V.ty)) ntp
  have ka : ∀ {b : Addr} {o : HO}, H1 b = some o → upd H1 tp (.tup (tns.map V.ty)) b = some o := fun {b o} z => by rw [upd_ne (ne_of_none z ntp)]; exact z
  exact ⟨a, C', d, tp, tns, false, rfl, upd_same, E, ka (hid_sub _ _ ea), fun dd z => ⟨_, ka (hid_sub _ _ (hd dd z))⟩, ek, af _ _ h2 _ _ ok2 (.bl _) (l1.trans l2)⟩
end
end Fx

namespace Fx
open PySem PySem.Spec PyProof.Rows L2
/-! the texts of error classes -/
def sPos (s : Stmt) : Nat → Pos := fun i => match defBody s with
  | .Expr (.Call (.Attribute (.Call (.Name _ q0) _ _ q1) _ q2) [.Constant _ _ q3] _ q4) q5 :: _ => [q0, q1, q2, q3, q4, q5].getD i ⟨0, 0, 0, 0⟩
  | _ => ⟨0, 0, 0, 0⟩
def aPos (s : Stmt) : Nat → Nat → Pos := fun i j => match (defBody s).drop (i + 1) with
  | .Assign [.Attribute (.Name _ a) _ b] (.Name _ c) d :: _ => [a, b, c, d].getD j ⟨0, 0, 0, 0⟩
  | _ => ⟨0, 0, 0, 0⟩
theorem errTxtL_mk {P : Program} {K : PySem.W.Frag} {fs : List Str} {msg qual : Str} {C G fI cc cda N : Addr} {nm q : Str} {bs sub : List Value} {sn : List Str} {ab : Bool} {col : Option Bool} {dd od an cld cdd : Option Addr} {k0 k1 k2 k3 k5 : Option Value} {oc kV doc pm ct cl ccl : Value} {osl csl ccs : Array (Option Value)} {vs : Array Value} {file : Str} {tf : Tok} {s : Stmt}
    (xL : K.lookup C = some (excClassObj nm q C N bs (gTail G) true sn sub ab col dd k0 k1 k2 k3 k5 "Exception.__new__")) (sa : PySem.W.findIn K (.ref C) "__setattr__" = some (some (.builtin "object.__setattr__"))) (nN : ∀ f ∈ fs, PySem.W.findIn K (.ref C) f = some none)
    (iC : PySem.W.findIn K (.ref C) "__init__" = some (some (.ref fI))) (tC : PySem.W.typeIn K (.ref fI) = some (.type "function")) (sup : PySem.W.alongIn K "__init__" (gTail G) = some (some (.builtin "Exception.__init__"))) (opq : PySem.W.nsIn K cStatics "thirdparty.any" = some none)
    (l1 : K.lookup fI = some ⟨oc, od, .func (PySem.W.ksFn "__init__" qual (defArgs s) (defBody s) (defScope s) .none kV doc pm an (.ref cda) ct cc), osl⟩) (c1 : PySem.W.codeIn K (.ref cda) qual = true)
    (cel : K.lookup cc = some ⟨cl, cld, .cell (some (.ref C)), csl⟩) (cod : K.lookup cda = some ⟨ccl, cdd, .fields vs, ccs⟩) (hv : vs[2]? = some (.str file tf)) (hfile : ((P.main.file : Str) == file) = true)
    (top : (P.main.scope.names.lookup ("super" : Str)).isSome = false) (eb : defBody s = inBL msg fs (sPos s) (knOf s) (aPos s))
    (nd : fs.Nodup) (ne : fs ≠ []) (few : fs.length ≤ 900) (nos : ∀ f ∈ fs, (f == ("self" : Str)) = false ∧ (f == ("__debug__" : Str)) = false)
    (sk : (defScope s).kind = .function ∧ (defScope s).isGenerator = false ∧ (defScope s).isCoroutine = false) (snc : ∀ x ∈ (defScope s).names, x.2 ≠ .cell) (s1 : (defScope s).names.lookup ("self" : Str) = some .local) (s2 : ∀ f ∈ fs, (defScope s).names.lookup f = some .local)
    (s3 : (defScope s).names.lookup ("super" : Str) = some .globalImplicit) (s4 : (defScope s).names.lookup ("__class__" : Str) = some .free) (he : supE msg (sPos s) (knOf s)) (har : ∃ ar : Arg, ((defArgs s).posonlyargs ++ (defArgs s).args).head? = some ar ∧ ar.arg = "self") :
    ErrTxtL P K fs msg C G fI cc cda (PySem.W.ksFn "__init__" qual (defArgs s) (defBody s) (defScope s) .none kV doc pm an (.ref cda) ct cc) :=
  { cls := ⟨nm, q, N, bs, sn, sub, ab, col, dd, k0, k1, k2, k3, k5, xL⟩, sa := sa, noN := nN, iC := iC, tC := tC, sup := sup, opq := opq, cel := ⟨_, _, _, cel⟩, cod := ⟨_, _, _, _, _, _, cod, hv, hfile⟩, top := top, nd := nd, ne := ne, few := few, nos := nos,
    fn := ⟨oc, od, qual, defArgs s, defScope s, kV, doc, pm, an, ct, osl, sPos s, knOf s, aPos s, by rw [← eb], l1, c1, sk.1, sk.2.1, sk.2.2, snc, s1, s2, s3, s4, he, har⟩ }
theorem isb_of {K : PySem.W.Frag} {errs : List String} {g : String} (h : ∀ n ∈ errs, ∃ C, clsA K n C ∧ ExcC K C ∧ PySem.W.kitOne K (.ref C) (.type g) = some (subN n g)) : IsbH K errs g := ⟨fun n hn C c1 => by
  obtain ⟨C', c2, e⟩ := h n hn
  rw [clsA_inj c1 c2]
  exact e⟩
theorem isu_of {K : PySem.W.Frag} {errs tns : List String} (h : ∀ n ∈ errs, ∃ C, clsA K n C ∧ ExcC K C ∧ PySem.W.kitAny K (.ref C) (tns.map Value.type) = some false) : IsuH K errs tns := ⟨fun n hn C c1 => by
  obtain ⟨C', c2, e⟩ := h n hn
  rw [clsA_inj c1 c2]
  exact e⟩
end Fx

namespace Fx
open PySem PySem.Spec PyProof.Rows L2
instance (priority := low) grdTriv : Grd := Grd.triv
/-! what a value must be, to go on -/
def eBl (d : D) (K : Bool → Prop) : Prop := match d with
  | .bl b => K b
  | _ => False
def eInt (d : D) (K : Int → Prop) : Prop := match d with
  | .int b => K b
  | _ => False
def eStr (d : D) (K : Str → Prop) : Prop := match d with
  | .str b => K b
  | _ => False
def eN (d : D) (P Q : Prop) : Prop := match d with
  | .non => P
  | _ => Q
def eTru (d : D) (K : Bool → Prop) : Prop := match d with
  | .bl b => K b
  | .non => K false
  | .int i => K (i != 0)
  | .tup xs => K (!xs.isEmpty)
  | .lst xs => K (!xs.isEmpty)
  | _ => False
def eLst (d : D) (K : List D → Prop) : Prop := match d with
  | .lst b => K b
  | _ => False
def eSeq (d : D) (K : List D → Prop) : Prop := match d with
  | .lst xs => K xs
  | .slst xs => K xs
  | .tup xs => K xs
  | .str z => K (signs z)
  | _ => False
def eRev (d : D) (K : List D → Prop) : Prop := match d with
  | .lst xs => K xs
  | .slst xs => K xs
  | _ => False
def eI1 (xs : List D) (K : Int → Prop) : Prop := match xs with
  | [.int n] => K n
  | _ => False
def eI2 (xs : List D) (K : Int → Int → Prop) : Prop := match xs with
  | [.int a, .int b] => K a b
  | _ => False
def eL1 (xs : List D) (K : List D → Prop) : Prop := match xs with
  | [.lst xs] => K xs
  | [.slst xs] => K xs
  | _ => False
def eL2 (xs : List D) (K : List D → List D → Prop) : Prop := match xs with
  | [.lst xs, .lst ys] => K xs ys
  | _ => False
def eP2 (xs : List D) (K : D → D → Prop) : Prop := match xs with
  | [a, b] => K a b
  | _ => False
def eSl (o : Option (Option D)) (K : D → Prop) : Prop := match o with
  | some (some d) => K d
  | _ => False
def eO {α : Type} (o : Option α) (K : α → Prop) : Prop := match o with
  | some d => K d
  | none => False
def eML (o : Option MO) (K : List D → Prop) : Prop := match o with
  | some (.lst xs) => K xs
  | _ => False
def eMD (o : Option MO) (K : List (Key × D) → Prop) : Prop := match o with
  | some (.dic xs) => K xs
  | _ => False
def eC (z : Str) (K : Nat → Prop) : Prop := match z.cps.toList with
  | [c] => K c
  | _ => False
def ePut (d k : D) (M : Mp) (v : D) (N : Mp → Prop) : Prop := match d, k with
  | .ref a, .str z => match M a with
    | some (.dic kvs) => kvs.length < 1000000 ∧ N (updM M a (.dic (putD kvs (.inr z) v)))
    | _ => False
  | .ref a, .int i => match M a with
    | some (.lst xs) => match ixN xs.length i with
      | some j => N (updM M a (.lst (xs.set j v)))
      | none => False
    | _ => False
  | _, _ => False
def eFz (d : D) (M : Mp) (F : DK) : Prop := match d with
  | .ref p => match M p with
    | some (.lst xs) => F (.lst xs) (delM M p)
    | _ => False
  | d => F d M
def eZs (xs : List D) (M : Mp) (G : List D → Mp → Prop) : Prop := match xs with
  | [d1, d2] => match seqOf d1, seqOf d2 with
    | some (_, xs), some (_, ys) => xs.length = ys.length ∧ G (zipL xs ys) M
    | _, _ => False
  | _ => False
section
variable {T U W : TEd} {A B C : TTd} {S S2 : TSd} {V V2 : TAd} {I : TId} {O O2 : TOd} {ds : Ds} {M : Mp} {F : DK} {G : Bool → Mp → Prop} {GA : List D → Mp → Prop} {GO : Option Int → Mp → Prop} {E : Endd} {i j : Int} {x y z : Str} {xs ys : List D} {d k v : D} {b : Bool} {a : Addr} {n : Nat} {t : Tg} {R : RD} {r r2 : R2d} {rb : RB} {rm : RM} {ty : D → Mp → Prop} {c : Ty6} {kvs : List (Key × D)} {P Q : Prop}
  {KB : Bool → Prop} {KI : Int → Prop} {KS : Str → Prop} {KL : List D → Prop} {KD : D → Prop} {KN : Nat → Prop} {KK : List (Key × D) → Prop} {NM : Mp → Prop} {K2 : D → D → Prop} {KL2 : List D → List D → Prop} {KI2 : Int → Int → Prop} {KDs : Ds → Prop} {ts : List Tg}
theorem q_v : vD n ds M F = eSl ds[n]? fun d => F d M := rfl
theorem q_c : cD d ds M F = F d M := rfl
theorem q_tup : tupD V ds M F = V ds M fun xs M1 => xs.length ≤ 1000000 ∧ F (.tup xs) M1 := rfl
theorem q_lst : lstD V ds M F = V ds M fun xs M1 => xs.length ≤ 1000000 ∧ F (.lst xs) M1 := rfl
theorem q_op : opD r T U ds M F = T ds M fun a M1 => U ds M1 fun b M2 => r a b M2 F := rfl
theorem q_nil : nilD ds M GA = GA [] M := rfl
theorem q_cons : consD T V ds M GA = T ds M fun d M1 => V ds M1 fun xs M2 => GA (d :: xs) M2 := rfl
theorem q_tst : tstD T ds M G = T ds M fun d M1 => eBl d fun b => G b M1 := rfl
theorem q_tru : truD T ds M G = T ds M fun d M1 => eTru d fun b => G b M1 := rfl
theorem q_andT : andT A B ds M G = A ds M fun b M1 => br b (B ds M1 G) (G false M1) := rfl
theorem q_orT : orT A B ds M G = A ds M fun b M1 => br b (G true M1) (B ds M1 G) := rfl
theorem q_notT : notT A ds M G = A ds M fun b M1 => G (!b) M1 := rfl
theorem q_andV : andV T U ds M F = T ds M fun d M1 => eBl d fun b => br b (U ds M1 F) (F (.bl false) M1) := rfl
theorem q_orV : orV T U ds M F = T ds M fun d M1 => eBl d fun b => br b (F (.bl true) M1) (U ds M1 F) := rfl
theorem q_notV : notV T ds M F = T ds M fun d M1 => eBl d fun b => F (.bl (!b)) M1 := rfl
theorem q_ifE : ifE C T U ds M F = C ds M fun b M1 => br b (T ds M1 F) (U ds M1 F) := rfl
theorem q_next : nextD E ds M = E.nx ds M := rfl
theorem q_seq : seqD S S2 E ds M = S { E with nx := S2 E } ds M := rfl
theorem q_asg : asgD T t E ds M = T ds M fun d M1 => gD t d ds fun ds1 => E.nx ds1 M1 := rfl
theorem q_drop : dropD T E ds M = T ds M fun _ M1 => E.nx ds M1 := rfl
theorem q_ret : retD T E ds M = T ds M E.rt := rfl
theorem q_retN : retN E ds M = E.rt .non M := rfl
theorem q_ifS : ifS C S S2 E ds M = C ds M fun b M1 => br b (S E ds M1) (S2 E ds M1) := rfl
theorem q_par {n2 : Nat} : parD n n2 V E ds M = V ds M fun xs M1 => eP2 xs fun a b => E.nx ((ds.set n (some a)).set n2 (some b)) M1 := rfl
theorem q_isi : isiD c T ds M F = T ds M fun d M1 => eO (isT c d) fun b => F (.bl b) M1 := by
  unfold isiD
  congr
  funext d M1
  unfold eO
  generalize isT c d = q
  cases q <;> rfl
theorem q_blt : bltD rb V ds M F = V ds M fun xs M1 => rb xs M1 F := rfl
theorem q_call : callD R V ds M F = V ds M fun xs M1 => R xs M1 F := rfl
theorem q_callK {g : List D → List D → List D} : callKD R g V V2 ds M F = V ds M fun xs M1 => V2 ds M1 fun ys M2 => R (g xs ys) M2 F := rfl
theorem q_kid : kid [] xs = xs := rfl
theorem q_kswap : kswap [] [d, k] = [k, d] := rfl
theorem q_chain : chainD r r2 T U W ds M F = T ds M fun a M1 => U ds M1 fun b M2 => r a b M2 fun z M3 => eBl z fun k => br k (W ds M3 fun c M4 => r2 b c M4 F) (F (.bl false) M3) := rfl
theorem q_neg : negD T ds M F = T ds M fun d M1 => eInt d fun i => F (.int (-i)) M1 := rfl
theorem q_isN : isND T ds M F = T ds M fun d M1 => eN d (F (.bl true) M1) (F (.bl false) M1) := rfl
theorem q_notN : notND T ds M F = T ds M fun d M1 => eN d (F (.bl false) M1) (F (.bl true) M1) := rfl
theorem q_noO : noO ds M GO = GO none M := rfl
theorem q_someO : someO T ds M GO = T ds M fun d M1 => eInt d fun i => GO (some i) M1 := rfl
theorem q_sli : sliD T O O2 ds M F = T ds M fun d M1 => O ds M1 fun lo M2 => O2 ds M2 fun hi M3 => slR d lo hi M3 F := rfl
theorem q_rev : revD T ds M F = T ds M fun d M1 => eRev d fun xs => F (.lst xs.reverse) M1 := by
  first | rfl | (unfold revD; congr; funext d M1; cases d <;> rfl)
theorem q_revM : revM T ds M F = T ds M fun d M1 => eLst d fun xs => ∀ p, M1 p = none → F (.ref p) (updM M1 p (.lst xs.reverse)) := rfl
theorem q_bm : bmD ty rm T V ds M F = T ds M fun d M1 => ty d M1 ∧ V ds M1 fun xs M2 => rm d xs M2 F := rfl
theorem q_bm0 : bm0D ty rm T ds M F = T ds M fun d M1 => ty d M1 ∧ rm d [] M1 F := rfl
theorem q_m1 : m1D rm T U ds M F = T ds M fun d M1 => eStr d fun z => U ds M1 fun x M2 => rm (.str z) [x] M2 F := rfl
theorem q_seqI : seqI T ds M GA = T ds M fun d M1 => eSeq d fun xs => GA xs M1 := by
  first | rfl | (unfold seqI; congr; funext d M1; cases d <;> rfl)
theorem q_rng : rngI V ds M GA = V ds M fun xs M1 => eI1 xs fun n => (-1000000 ≤ n ∧ n ≤ 1000000) ∧ GA ((List.range n.toNat).map fun i => D.int (i : Nat)) M1 := rfl
theorem q_rng2 : rng2I V ds M GA = V ds M fun xs M1 => eI2 xs fun a b => (-1000000 ≤ a ∧ a ≤ 1000000 ∧ -1000000 ≤ b ∧ b ≤ 1000000) ∧ GA ((List.range (b - a).toNat).map fun i => D.int (a + (i : Nat))) M1 := rfl
theorem q_enum : enumI V ds M GA = V ds M fun xs M1 => eL1 xs fun xs => GA (enumL 0 xs) M1 := by
  first | rfl | (unfold enumI; congr; funext d M1; unfold eL1; split <;> rfl)
theorem q_zip : zipI V ds M GA = V ds M fun xs M1 => eL2 xs fun xs ys => GA (zipL xs ys) M1 := rfl
theorem q_gnm : gD (.nm n) d ds KDs = KDs (ds.set n (some d)) := by rw [gD]
theorem q_gtp : gD (.tp ts) (.tup xs) ds KDs = gsD ts xs ds KDs := by rw [gD]
theorem q_gs0 : gsD [] [] ds KDs = KDs ds := by rw [gsD]
theorem q_gs1 : gsD (t :: ts) (d :: xs) ds KDs = gD t d ds fun ds1 => gsD ts xs ds1 KDs := by rw [gsD]
theorem q_yes : yesD ds M G = G true M := rfl
theorem q_put : putS T U W E ds M = W ds M fun v M1 => T ds M1 fun d M2 => U ds M2 fun k M3 => ePut d k M3 v fun M4 => E.nx ds M4 := by
  first | rfl | (unfold putS; congr; funext v M1; congr; funext d M2; congr; funext k M3; cases d <;> cases k <;> rfl)
theorem e_bl : eBl (.bl b) KB = KB b := rfl
theorem e_int : eInt (.int i) KI = KI i := rfl
theorem e_str : eStr (.str x) KS = KS x := rfl
theorem e_lst : eLst (.lst xs) KL = KL xs := rfl
theorem e_n_non : eN .non P Q = P := rfl
theorem e_n_bl : eN (.bl b) P Q = Q := rfl
theorem e_n_int : eN (.int i) P Q = Q := rfl
theorem e_n_str : eN (.str x) P Q = Q := rfl
theorem e_n_tup : eN (.tup xs) P Q = Q := rfl
theorem e_n_lst : eN (.lst xs) P Q = Q := rfl
theorem e_n_slst : eN (.slst xs) P Q = Q := rfl
theorem e_n_dic : eN (.dic kvs) P Q = Q := rfl
theorem e_n_ref : eN (.ref a) P Q = Q := rfl
theorem e_seq_l : eSeq (.lst xs) KL = KL xs := rfl
theorem e_seq_s : eSeq (.slst xs) KL = KL xs := rfl
theorem e_seq_t : eSeq (.tup xs) KL = KL xs := rfl
theorem e_seq_z : eSeq (.str x) KL = KL (signs x) := rfl
theorem e_rev_l : eRev (.lst xs) KL = KL xs := rfl
theorem e_rev_s : eRev (.slst xs) KL = KL xs := rfl
theorem e_i1 : eI1 [.int i] KI = KI i := rfl
theorem e_i2 : eI2 [.int i, .int j] KI2 = KI2 i j := rfl
theorem e_l1 : eL1 [.lst xs] KL = KL xs := rfl
theorem e_l1s : eL1 [.slst xs] KL = KL xs := rfl
theorem e_l2 : eL2 [.lst xs, .lst ys] KL2 = KL2 xs ys := rfl
theorem e_p2 : eP2 [d, k] K2 = K2 d k := rfl
theorem e_sl : eSl (some (some d)) KD = KD d := rfl
theorem e_o : eO (some d) KD = KD d := rfl
theorem e_ob : eO (some b) KB = KB b := rfl
theorem e_on : eO (some n) KN = KN n := rfl
theorem e_ml : eML (some (.lst xs)) KL = KL xs := rfl
theorem e_md : eMD (some (.dic kvs)) KK = KK kvs := rfl
theorem e_c : eC ⟨#[n]⟩ KN = KN n := rfl
theorem e_tru_b : eTru (.bl b) KB = KB b := rfl
theorem e_tru_n : eTru .non KB = KB false := rfl
theorem e_tru_i : eTru (.int i) KB = KB (i != 0) := rfl
theorem e_tru_t : eTru (.tup xs) KB = KB (!xs.isEmpty) := rfl
theorem e_tru_l : eTru (.lst xs) KB = KB (!xs.isEmpty) := rfl
theorem t_str_non : isT .str .non = some false := rfl
theorem t_tup_non : isT .tup .non = some false := rfl
theorem t_int_non : isT .int .non = some false := rfl
theorem t_bool_non : isT .bool .non = some false := rfl
theorem t_lst_non : isT .lst .non = some false := rfl
theorem t_dict_non : isT .dict .non = some false := rfl
theorem t_str_bl : isT .str (.bl b) = some false := rfl
theorem t_tup_bl : isT .tup (.bl b) = some false := rfl
theorem t_int_bl : isT .int (.bl b) = some true := rfl
theorem t_bool_bl : isT .bool (.bl b) = some true := rfl
theorem t_lst_bl : isT .lst (.bl b) = some false := rfl
theorem t_dict_bl : isT .dict (.bl b) = some false := rfl
theorem t_str_int : isT .str (.int i) = some false := rfl
theorem t_tup_int : isT .tup (.int i) = some false := rfl
theorem t_int_int : isT .int (.int i) = some true := rfl
theorem t_bool_int : isT .bool (.int i) = some false := rfl
theorem t_lst_int : isT .lst (.int i) = some false := rfl
theorem t_dict_int : isT .dict (.int i) = some false := rfl
theorem t_str_str : isT .str (.str x) = some true := rfl
theorem t_tup_str : isT .tup (.str x) = some false := rfl
theorem t_int_str : isT .int (.str x) = some false := rfl
theorem t_bool_str : isT .bool (.str x) = some false := rfl
theorem t_lst_str : isT .lst (.str x) = some false := rfl
theorem t_dict_str : isT .dict (.str x) = some false := rfl
theorem t_str_tup : isT .str (.tup xs) = some false := rfl
theorem t_tup_tup : isT .tup (.tup xs) = some true := rfl
theorem t_int_tup : isT .int (.tup xs) = some false := rfl
theorem t_bool_tup : isT .bool (.tup xs) = some false := rfl
theorem t_lst_tup : isT .lst (.tup xs) = some false := rfl
theorem t_dict_tup : isT .dict (.tup xs) = some false := rfl
theorem t_str_lst : isT .str (.lst xs) = some false := rfl
theorem t_tup_lst : isT .tup (.lst xs) = some false := rfl
theorem t_int_lst : isT .int (.lst xs) = some false := rfl
theorem t_bool_lst : isT .bool (.lst xs) = some false := rfl
theorem t_lst_lst : isT .lst (.lst xs) = some true := rfl
theorem t_dict_lst : isT .dict (.lst xs) = some false := rfl
theorem t_str_dic : isT .str (.dic kvs) = some false := rfl
theorem t_tup_dic : isT .tup (.dic kvs) = some false := rfl
theorem t_int_dic : isT .int (.dic kvs) = some false := rfl
theorem t_bool_dic : isT .bool (.dic kvs) = some false := rfl
theorem t_lst_dic : isT .lst (.dic kvs) = some false := rfl
theorem t_dict_dic : isT .dict (.dic kvs) = some true := rfl
theorem r_add_i : addR (.int i) (.int j) M F = F (.int (i + j)) M := rfl
theorem r_add_s : addR (.str x) (.str y) M F = (x.length + y.length ≤ 1000000 ∧ F (.str (x ++ y)) M) := rfl
theorem r_add_t : addR (.tup xs) (.tup ys) M F = (xs.length + ys.length ≤ 1000000 ∧ F (.tup (xs ++ ys)) M) := rfl
theorem r_add_l : addR (.lst xs) (.lst ys) M F = (xs.length + ys.length ≤ 1000000 ∧ F (.lst (xs ++ ys)) M) := rfl
theorem r_sub : subR (.int i) (.int j) M F = F (.int (i - j)) M := rfl
theorem r_mul : mulR (.int i) (.int j) M F = (((-(2 ^ 64) < i ∧ i < 2 ^ 64) ∨ (-(2 ^ 64) < j ∧ j < 2 ^ 64)) ∧ F (.int (i * j)) M) := rfl
theorem r_mul_l : mulR (.lst xs) (.int i) M F = (0 ≤ i ∧ i ≤ 1000000 ∧ xs.length * i.toNat ≤ 1000000 ∧ F (.lst (List.replicate i.toNat xs).flatten) M) := rfl
theorem r_fdiv : fdivR (.int i) (.int j) M F = ((0 < j ∧ j < 1073741824) ∧ F (.int (i / j)) M) := rfl
theorem r_mod : modR (.int i) (.int j) M F = (0 < j ∧ F (.int (i % j)) M) := rfl
theorem r_pow : powR (.int i) (.int j) M F = ((0 ≤ j ∧ j ≤ 1000000 ∧ i.natAbs < 2 ^ 64) ∧ F (.int (i ^ j.toNat)) M) := rfl
theorem r_lt {p : Int → Int → Bool} : ltR p (.int i) (.int j) M F = F (.bl (p i j)) M := rfl
theorem r_ix_l : ixR (.lst xs) (.int i) M F = eO (atI xs i) fun d => F d M := by
  unfold ixR atD eO
  dsimp only
  generalize atI xs i = q
  cases q <;> rfl
theorem r_ix_t : ixR (.tup xs) (.int i) M F = eO (atI xs i) fun d => F d M := by
  unfold ixR atD eO
  dsimp only
  generalize atI xs i = q
  cases q <;> rfl
theorem r_ix_s : ixR (.str x) (.int i) M F = (x.length ≤ 1000000 ∧ eO (atI x.cps.toList i) fun c => F (.str ⟨#[c]⟩) M) := by
  unfold ixR eO
  dsimp only
  generalize atI x.cps.toList i = q
  cases q <;> rfl
theorem r_ix_rl : ixR (.ref a) (.int i) M F = eML (M a) fun xs => eO (atI xs i) fun d => F d M := by
  first
    | rfl
    | (unfold ixR
       try unfold eML
       try unfold eMD
       dsimp only
       generalize M a = o
       cases o with
       | none => rfl
       | some m =>
         cases m with
         | lst xs => first | rfl | (unfold eO; dsimp only; first | (generalize atI xs i = q; cases q <;> rfl) | (generalize xs.getLast? = q; cases q <;> rfl) | (generalize ixN xs.length i = q; cases q <;> rfl)) | (unfold atD eO; dsimp only; generalize atI xs i = q; cases q <;> rfl)
         | dic kvs => first | rfl | (unfold eO keyD; dsimp only; generalize valD kvs (Sum.inr x) = q; cases q <;> rfl)
         | dtp _ _ => rfl
         | ins _ _ _ => rfl)
theorem r_ix_rd : ixR (.ref a) (.str x) M F = eMD (M a) fun kvs => eO (valD kvs (.inr x)) fun d => F d M := by
  first
    | rfl
    | (unfold ixR
       try unfold eML
       try unfold eMD
       dsimp only
       generalize M a = o
       cases o with
       | none => rfl
       | some m =>
         cases m with
         | lst xs => first | rfl | (unfold eO; dsimp only; first | (generalize atI xs i = q; cases q <;> rfl) | (generalize xs.getLast? = q; cases q <;> rfl) | (generalize ixN xs.length i = q; cases q <;> rfl)) | (unfold atD eO; dsimp only; generalize atI xs i = q; cases q <;> rfl)
         | dic kvs => first | rfl | (unfold eO keyD; dsimp only; generalize valD kvs (Sum.inr x) = q; cases q <;> rfl)
         | dtp _ _ => rfl
         | ins _ _ _ => rfl)
theorem r_sl_l {lo hi : Option Int} : slR (.lst xs) lo hi M F = F (.lst (cutL xs lo hi)) M := rfl
theorem r_sl_sl {lo hi : Option Int} : slR (.slst xs) lo hi M F = F (.lst (cutL xs lo hi)) M := rfl
theorem r_sl_t {lo hi : Option Int} : slR (.tup xs) lo hi M F = F (.tup (cutL xs lo hi)) M := rfl
theorem r_sl_s {lo hi : Option Int} : slR (.str x) lo hi M F = (x.length ≤ 1000000 ∧ F (.str (cutS x lo hi)) M) := rfl
theorem r_len_l : lenR [.lst xs] M F = F (.int xs.length) M := rfl
theorem r_len_sl : lenR [.slst xs] M F = F (.int xs.length) M := rfl
theorem r_len_t : lenR [.tup xs] M F = F (.int xs.length) M := rfl
theorem r_len_s : lenR [.str x] M F = (x.length ≤ 1000000 ∧ F (.int x.length) M) := rfl
theorem r_len_r : lenR [.ref a] M F = eML (M a) fun xs => F (.int xs.length) M := by
  first
    | rfl
    | (unfold lenR
       try unfold eML
       try unfold eMD
       dsimp only
       generalize M a = o
       cases o with
       | none => rfl
       | some m =>
         cases m with
         | lst xs => first | rfl | (unfold eO; dsimp only; first | (generalize atI xs i = q; cases q <;> rfl) | (generalize xs.getLast? = q; cases q <;> rfl) | (generalize ixN xs.length i = q; cases q <;> rfl)) | (unfold atD eO; dsimp only; generalize atI xs i = q; cases q <;> rfl)
         | dic kvs => first | rfl | (unfold eO keyD; dsimp only; generalize valD kvs (Sum.inr x) = q; cases q <;> rfl)
         | dtp _ _ => rfl
         | ins _ _ _ => rfl)
theorem r_all : allR [.lst xs] M F = (xs.all isBl = true ∧ F (.bl (xs.all getBl)) M) := rfl
theorem r_any : anyR [.lst xs] M F = (xs.all isBl = true ∧ F (.bl (xs.any getBl)) M) := rfl
theorem r_tuple_l : tupleR [.lst xs] M F = F (.tup xs) M := rfl
theorem r_tuple_sl : tupleR [.slst xs] M F = F (.tup xs) M := rfl
theorem r_tuple_t : tupleR [.tup xs] M F = F (.tup xs) M := rfl
theorem r_tuple_r : tupleR [.ref a] M F = eML (M a) fun xs => F (.tup xs) M := by
  first
    | rfl
    | (unfold tupleR
       try unfold eML
       try unfold eMD
       dsimp only
       generalize M a = o
       cases o with
       | none => rfl
       | some m =>
         cases m with
         | lst xs => first | rfl | (unfold eO; dsimp only; first | (generalize atI xs i = q; cases q <;> rfl) | (generalize xs.getLast? = q; cases q <;> rfl) | (generalize ixN xs.length i = q; cases q <;> rfl)) | (unfold atD eO; dsimp only; generalize atI xs i = q; cases q <;> rfl)
         | dic kvs => first | rfl | (unfold eO keyD; dsimp only; generalize valD kvs (Sum.inr x) = q; cases q <;> rfl)
         | dtp _ _ => rfl
         | ins _ _ _ => rfl)
theorem r_list_l : listR [.lst xs] M F = F (.lst xs) M := rfl
theorem r_list_sl : listR [.slst xs] M F = F (.lst xs) M := rfl
theorem r_list_t : listR [.tup xs] M F = F (.lst xs) M := rfl
theorem r_list_r : listR [.ref a] M F = eML (M a) fun xs => F (.lst xs) M := by
  first
    | rfl
    | (unfold listR
       try unfold eML
       try unfold eMD
       dsimp only
       generalize M a = o
       cases o with
       | none => rfl
       | some m =>
         cases m with
         | lst xs => first | rfl | (unfold eO; dsimp only; first | (generalize atI xs i = q; cases q <;> rfl) | (generalize xs.getLast? = q; cases q <;> rfl) | (generalize ixN xs.length i = q; cases q <;> rfl)) | (unfold atD eO; dsimp only; generalize atI xs i = q; cases q <;> rfl)
         | dic kvs => first | rfl | (unfold eO keyD; dsimp only; generalize valD kvs (Sum.inr x) = q; cases q <;> rfl)
         | dtp _ _ => rfl
         | ins _ _ _ => rfl)
theorem r_ord : ordR [.str x] M F = eC x fun c => F (.int (c : Nat)) M := rfl
theorem r_repr : reprR [d] M F = ((shOk d = true ∧ cst d ≤ 1000000 ∧ dep d ≤ 100) ∧ F (.str (shw d)) M) := rfl
theorem r_pop : popR (.ref a) [] M F = eML (M a) fun xs => eO xs.getLast? fun y => F y (updM M a (.lst xs.dropLast)) := by
  first
    | rfl
    | (unfold popR
       try unfold eML
       try unfold eMD
       dsimp only
       generalize M a = o
       cases o with
       | none => rfl
       | some m =>
         cases m with
         | lst xs => first | rfl | (unfold eO; dsimp only; first | (generalize atI xs i = q; cases q <;> rfl) | (generalize xs.getLast? = q; cases q <;> rfl) | (generalize ixN xs.length i = q; cases q <;> rfl)) | (unfold atD eO; dsimp only; generalize atI xs i = q; cases q <;> rfl)
         | dic kvs => first | rfl | (unfold eO keyD; dsimp only; generalize valD kvs (Sum.inr x) = q; cases q <;> rfl)
         | dtp _ _ => rfl
         | ins _ _ _ => rfl)
theorem r_app : appR (.ref a) [d] M F = eML (M a) fun xs => xs.length < 1000000 ∧ F .non (updM M a (.lst (xs ++ [d]))) := by
  first
    | rfl
    | (unfold appR
       try unfold eML
       try unfold eMD
       dsimp only
       generalize M a = o
       cases o with
       | none => rfl
       | some m =>
         cases m with
         | lst xs => first | rfl | (unfold eO; dsimp only; first | (generalize atI xs i = q; cases q <;> rfl) | (generalize xs.getLast? = q; cases q <;> rfl) | (generalize ixN xs.length i = q; cases q <;> rfl)) | (unfold atD eO; dsimp only; generalize atI xs i = q; cases q <;> rfl)
         | dic kvs => first | rfl | (unfold eO keyD; dsimp only; generalize valD kvs (Sum.inr x) = q; cases q <;> rfl)
         | dtp _ _ => rfl
         | ins _ _ _ => rfl)
theorem r_ext : extR (.ref a) [.lst ys] M F = eML (M a) fun xs => xs.length + ys.length ≤ 1000000 ∧ F .non (updM M a (.lst (xs ++ ys))) := by
  first
    | rfl
    | (unfold extR
       try unfold eML
       try unfold eMD
       dsimp only
       generalize M a = o
       cases o with
       | none => rfl
       | some m =>
         cases m with
         | lst xs => first | rfl | (unfold eO; dsimp only; first | (generalize atI xs i = q; cases q <;> rfl) | (generalize xs.getLast? = q; cases q <;> rfl) | (generalize ixN xs.length i = q; cases q <;> rfl)) | (unfold atD eO; dsimp only; generalize atI xs i = q; cases q <;> rfl)
         | dic kvs => first | rfl | (unfold eO keyD; dsimp only; generalize valD kvs (Sum.inr x) = q; cases q <;> rfl)
         | dtp _ _ => rfl
         | ins _ _ _ => rfl)
theorem r_join : joinR (.str x) [.lst xs] M F = (xs.all isSt = true ∧ ((xs.map fun d => (getSt d).length).sum + xs.length * x.length ≤ 1000000) ∧ F (.str (Txt.join x (xs.map getSt))) M) := rfl
theorem r_join_t : joinR (.str x) [.tup xs] M F = (xs.all isSt = true ∧ ((xs.map fun d => (getSt d).length).sum + xs.length * x.length ≤ 1000000) ∧ F (.str (Txt.join x (xs.map getSt))) M) := rfl
theorem r_isl_r : isLst (.ref a) M = eML (M a) fun _ => True := by
  first
    | rfl
    | (unfold isLst
       try unfold eML
       try unfold eMD
       dsimp only
       generalize M a = o
       cases o with
       | none => rfl
       | some m =>
         cases m with
         | lst xs => first | rfl | (unfold eO; dsimp only; first | (generalize atI xs i = q; cases q <;> rfl) | (generalize xs.getLast? = q; cases q <;> rfl) | (generalize ixN xs.length i = q; cases q <;> rfl)) | (unfold atD eO; dsimp only; generalize atI xs i = q; cases q <;> rfl)
         | dic kvs => first | rfl | (unfold eO keyD; dsimp only; generalize valD kvs (Sum.inr x) = q; cases q <;> rfl)
         | dtp _ _ => rfl
         | ins _ _ _ => rfl)
theorem r_isl_l : isLst (.lst xs) M = True := rfl
theorem r_in : inR b (.str x) (.str y) M F = eC x fun c => F (.bl (if b then !decide (c ∈ y.cps.toList) else decide (c ∈ y.cps.toList))) M := rfl
theorem r_put_d : ePut (.ref a) (.str x) M v NM = eMD (M a) fun kvs => kvs.length < 1000000 ∧ NM (updM M a (.dic (putD kvs (.inr x) v))) := by
  first
    | rfl
    | (unfold ePut
       try unfold eML
       try unfold eMD
       dsimp only
       generalize M a = o
       cases o with
       | none => rfl
       | some m =>
         cases m with
         | lst xs => first | rfl | (unfold eO; dsimp only; first | (generalize atI xs i = q; cases q <;> rfl) | (generalize xs.getLast? = q; cases q <;> rfl) | (generalize ixN xs.length i = q; cases q <;> rfl)) | (unfold atD eO; dsimp only; generalize atI xs i = q; cases q <;> rfl)
         | dic kvs => first | rfl | (unfold eO keyD; dsimp only; generalize valD kvs (Sum.inr x) = q; cases q <;> rfl)
         | dtp _ _ => rfl
         | ins _ _ _ => rfl)
theorem r_put_l : ePut (.ref a) (.int i) M v NM = eML (M a) fun xs => eO (ixN xs.length i) fun j => NM (updM M a (.lst (xs.set j v))) := by
  first
    | rfl
    | (unfold ePut
       try unfold eML
       try unfold eMD
       dsimp only
       generalize M a = o
       cases o with
       | none => rfl
       | some m =>
         cases m with
         | lst xs => first | rfl | (unfold eO; dsimp only; first | (generalize atI xs i = q; cases q <;> rfl) | (generalize xs.getLast? = q; cases q <;> rfl) | (generalize ixN xs.length i = q; cases q <;> rfl)) | (unfold atD eO; dsimp only; generalize atI xs i = q; cases q <;> rfl)
         | dic kvs => first | rfl | (unfold eO keyD; dsimp only; generalize valD kvs (Sum.inr x) = q; cases q <;> rfl)
         | dtp _ _ => rfl
         | ins _ _ _ => rfl)
theorem r_eq_i : eqR (.int i) (.int j) M F = F (.bl (decide (i = j))) M := rfl
theorem r_eq_s : eqR (.str x) (.str y) M F = F (.bl (decide (x = y))) M := rfl
theorem r_ne_i : neR (.int i) (.int j) M F = F (.bl (!decide (i = j))) M := rfl
theorem r_ne_s : neR (.str x) (.str y) M F = F (.bl (!decide (x = y))) M := rfl
theorem r_eq_t0 : eqR (.tup xs) (.tup []) M F = F (.bl xs.isEmpty) M := rfl
theorem r_ne_t0 : neR (.tup xs) (.tup []) M F = F (.bl (!xs.isEmpty)) M := rfl
theorem r_eq_r0 : eqR (.ref a) (.lst []) M F = eML (M a) fun xs => F (.bl xs.isEmpty) M := by
  first
    | rfl
    | (unfold eqR
       try unfold eML
       try unfold eMD
       dsimp only
       generalize M a = o
       cases o with
       | none => rfl
       | some m =>
         cases m with
         | lst xs => first | rfl | (unfold eO; dsimp only; first | (generalize atI xs i = q; cases q <;> rfl) | (generalize xs.getLast? = q; cases q <;> rfl) | (generalize ixN xs.length i = q; cases q <;> rfl)) | (unfold atD eO; dsimp only; generalize atI xs i = q; cases q <;> rfl)
         | dic kvs => first | rfl | (unfold eO keyD; dsimp only; generalize valD kvs (Sum.inr x) = q; cases q <;> rfl)
         | dtp _ _ => rfl
         | ins _ _ _ => rfl)
theorem r_ne_r0 : neR (.ref a) (.lst []) M F = eML (M a) fun xs => F (.bl (!xs.isEmpty)) M := by
  first
    | rfl
    | (unfold neR
       try unfold eML
       try unfold eMD
       dsimp only
       generalize M a = o
       cases o with
       | none => rfl
       | some m =>
         cases m with
         | lst xs => first | rfl | (unfold eO; dsimp only; first | (generalize atI xs i = q; cases q <;> rfl) | (generalize xs.getLast? = q; cases q <;> rfl) | (generalize ixN xs.length i = q; cases q <;> rfl)) | (unfold atD eO; dsimp only; generalize atI xs i = q; cases q <;> rfl)
         | dic kvs => first | rfl | (unfold eO keyD; dsimp only; generalize valD kvs (Sum.inr x) = q; cases q <;> rfl)
         | dtp _ _ => rfl
         | ins _ _ _ => rfl)
theorem r_eq_l0 : eqR (.lst xs) (.lst []) M F = F (.bl xs.isEmpty) M := rfl
theorem r_ne_l0 : neR (.lst xs) (.lst []) M F = F (.bl (!xs.isEmpty)) M := rfl
theorem q_lstM : lstM V ds M F = V ds M fun xs M1 => xs.length ≤ 1000000 ∧ ∀ p, M1 p = none → F (.ref p) (updM M1 p (.lst xs)) := rfl
theorem q_frz : frzD T ds M F = T ds M fun d M1 => eFz d M1 F := by
  first | rfl | (unfold frzD eFz; congr; funext d M1; cases d <;> rfl)
theorem e_fz_r : eFz (.ref a) M F = eML (M a) fun xs => F (.lst xs) (delM M a) := by
  first
    | rfl
    | (unfold eFz
       try unfold eML
       try unfold eMD
       dsimp only
       generalize M a = o
       cases o with
       | none => rfl
       | some m =>
         cases m with
         | lst xs => first | rfl | (unfold eO; dsimp only; first | (generalize atI xs i = q; cases q <;> rfl) | (generalize xs.getLast? = q; cases q <;> rfl) | (generalize ixN xs.length i = q; cases q <;> rfl)) | (unfold atD eO; dsimp only; generalize atI xs i = q; cases q <;> rfl)
         | dic kvs => first | rfl | (unfold eO keyD; dsimp only; generalize valD kvs (Sum.inr x) = q; cases q <;> rfl)
         | dtp _ _ => rfl
         | ins _ _ _ => rfl)
theorem e_fz_non : eFz .non M F = F .non M := rfl
theorem e_fz_bl : eFz (.bl b) M F = F (.bl b) M := rfl
theorem e_fz_int : eFz (.int i) M F = F (.int i) M := rfl
theorem e_fz_str : eFz (.str x) M F = F (.str x) M := rfl
theorem e_fz_tup : eFz (.tup xs) M F = F (.tup xs) M := rfl
theorem e_fz_lst : eFz (.lst xs) M F = F (.lst xs) M := rfl
theorem e_fz_dic : eFz (.dic kvs) M F = F (.dic kvs) M := rfl
theorem q_drp : drpD T ds M F = T ds M fun d M1 => ∃ p, F d (delM M1 p) := rfl
theorem q_zs : zipSI V ds M GA = V ds M fun xs M1 => eZs xs M1 GA := by
  first | rfl | (unfold zipSI eZs; congr)
theorem e_zs_tup_tup : eZs [.tup xs, .tup ys] M GA = (xs.length = ys.length ∧ GA (zipL xs ys) M) := rfl
theorem e_zs_tup_lst : eZs [.tup xs, .lst ys] M GA = (xs.length = ys.length ∧ GA (zipL xs ys) M) := rfl
theorem e_zs_tup_slst : eZs [.tup xs, .slst ys] M GA = (xs.length = ys.length ∧ GA (zipL xs ys) M) := rfl
theorem e_zs_lst_tup : eZs [.lst xs, .tup ys] M GA = (xs.length = ys.length ∧ GA (zipL xs ys) M) := rfl
theorem e_zs_lst_lst : eZs [.lst xs, .lst ys] M GA = (xs.length = ys.length ∧ GA (zipL xs ys) M) := rfl
theorem e_zs_lst_slst : eZs [.lst xs, .slst ys] M GA = (xs.length = ys.length ∧ GA (zipL xs ys) M) := rfl
theorem e_zs_slst_tup : eZs [.slst xs, .tup ys] M GA = (xs.length = ys.length ∧ GA (zipL xs ys) M) := rfl
theorem e_zs_slst_lst : eZs [.slst xs, .lst ys] M GA = (xs.length = ys.length ∧ GA (zipL xs ys) M) := rfl
theorem e_zs_slst_slst : eZs [.slst xs, .slst ys] M GA = (xs.length = ys.length ∧ GA (zipL xs ys) M) := rfl
theorem r_mem_s : memR b (.str x) (.str y) M F = eC x fun c => F (.bl (if b then !decide (c ∈ y.cps.toList) else decide (c ∈ y.cps.toList))) M := rfl
theorem r_mem_t : memR b d (.tup ys) M F = ((okD d && okD (.tup ys)) = true ∧ F (.bl (if b then !(ys.any fun y => eqD y d) else ys.any fun y => eqD y d)) M) := by cases d <;> rfl
theorem r_mem_l : memR b d (.lst ys) M F = ((okD d && okD (.lst ys)) = true ∧ F (.bl (if b then !(ys.any fun y => eqD y d) else ys.any fun y => eqD y d)) M) := by cases d <;> rfl
theorem r_int_i : intR [.int i] M F = F (.int i) M := rfl
theorem r_int_b : intR [.bl b] M F = F (.int (if b then 1 else 0)) M := rfl
theorem r_listM_l : listM [.lst xs] M F = ∀ p, M p = none → F (.ref p) (updM M p (.lst xs)) := rfl
theorem r_listM_sl : listM [.slst xs] M F = ∀ p, M p = none → F (.ref p) (updM M p (.lst xs)) := rfl
theorem r_listM_t : listM [.tup xs] M F = ∀ p, M p = none → F (.ref p) (updM M p (.lst xs)) := rfl
theorem r_start : startD n xs = xs.map some ++ List.replicate (n - xs.length) none := rfl
end
end Fx

namespace Fx
open PySem PySem.Spec PyProof.Rows L2

/-- no test -/
theorem lc_map {T : TId} {t : Tg} {E : TEd} {vs : List Nat} {ds : Ds} {M : Mp} {F : DK} {xs : List D} (v : D → D) (hl : xs.length ≤ 1000000) (hT : ∀ G : List D → Mp → Prop, G xs M → T ds M G)
    (he : ∀ d ∈ xs, gD t d (wipeD ds vs) fun ds2 => ∀ M' (G : DK), G (v d) M' → E ds2 M' G)
    (hF : F (.lst (xs.map v)) M) : lcD T t yesD E vs ds M F :=
  lc_pure (fun _ => true) v hl hT (fun d hd => gD_mono t (fun ds2 h => ⟨fun M' G g => g, fun _ => h⟩) (he d hd)) (by
    have e : xs.filter (fun _ => true) = xs := by simp
    rw [e]
    exact hF)

/-! the hand: a dict with a list of cells -/
def HandAt (M : Mp) (h c : Addr) : Prop := ∃ (cells : List Int) (m n : Int), M h = some (.dic [(.inr "cells", .ref c), (.inr "mixed", .int m), (.inr "draws", .int n)]) ∧ M c = some (.lst (cells.map D.int)) ∧ 0 ≤ m ∧ m < 2147483563 ∧ 0 ≤ n ∧ cells.length ≤ 63
def Oth (h c : Addr) (M M' : Mp) : Prop := ∀ b, b ≠ h → b ≠ c → M' b = M b
theorem HandAt.ne {M : Mp} {h c : Addr} (x : HandAt M h c) : h ≠ c := fun e => by
  obtain ⟨_, _, _, h1, h2, _⟩ := x
  rw [e, h2] at h1
  cases h1
theorem Oth.refl (h c : Addr) (M : Mp) : Oth h c M M := fun _ _ _ => rfl
theorem Oth.trans {h c : Addr} {M M1 M2 : Mp} (a : Oth h c M M1) (b : Oth h c M1 M2) : Oth h c M M2 := fun x p q => (b x p q).trans (a x p q)
def R_hand : RD
  | [.slst xs], M, F => ∃ ns : List Int, xs = ns.map D.int ∧ ns.length ≤ 63 ∧ ∀ h c M', M h = none → M c = none → HandAt M' h c → Oth h c M M' → F (.ref h) M'
  | _, _, _ => False
def R_draw : RD
  | [.ref h, .int many], M, F => ∃ c, HandAt M h c ∧ 0 < many ∧ many < 1073741824 ∧ ∀ r M', 0 ≤ r → r < many → HandAt M' h c → Oth h c M M' → F (.int r) M'
  | _, _, _ => False
def R_pick : RD
  | [.ref h, .lst xs], M, F => ∃ c, HandAt M h c ∧ 0 < xs.length ∧ xs.length ≤ 1000000 ∧ ∀ d M', d ∈ xs → HandAt M' h c → Oth h c M M' → F d M'
  | _, _, _ => False
theorem ln_hand : ∀ xs M F, R_hand xs M F → xs.length = 1 := by
  intro xs M F h
  unfold R_hand at h
  split at h
  · rfl
  · exact h.elim
theorem ln_draw : ∀ xs M F, R_draw xs M F → xs.length = 2 := by
  intro xs M F h
  unfold R_draw at h
  split at h
  · rfl
  · exact h.elim
theorem ln_pick : ∀ xs M F, R_pick xs M F → xs.length = 2 := by
  intro xs M F h
  unfold R_pick at h
  split at h
  · rfl
  · exact h.elim
/-- the hand at the state of a turn -/
theorem val_cells {d e f : D} : valD [(.inr "cells", d), (.inr "mixed", e), (.inr "draws", f)] (.inr "cells") = some d := by
  unfold valD
  rfl
theorem val_mixed {d e f : D} : valD [(.inr "cells", d), (.inr "mixed", e), (.inr "draws", f)] (.inr "mixed") = some e := by
  unfold valD
  rfl
theorem val_draws {d e f : D} : valD [(.inr "cells", d), (.inr "mixed", e), (.inr "draws", f)] (.inr "draws") = some f := by
  unfold valD
  rfl
theorem put_draws {d e f g : D} : putD [(.inr "cells", d), (.inr "mixed", e), (.inr "draws", f)] (.inr "draws") g = [(.inr "cells", d), (.inr "mixed", e), (.inr "draws", g)] := by
  unfold putD
  rfl
theorem atI_mem {xs : List D} {r : Int} (h0 : 0 ≤ r) (h1 : r < xs.length) : ∃ d, atI xs r = some d ∧ d ∈ xs := by
  have hr : r.toNat < xs.length := by omega
  refine ⟨xs[r.toNat], ?_, List.getElem_mem hr⟩
  have : atI xs ((r.toNat : Nat) : Int) = some xs[r.toNat] := atI_nat (by simp [hr])
  have e : ((r.toNat : Nat) : Int) = r := by omega
  rw [e] at this
  exact this

/-! data of a size, with no address within -/
mutual
def nos : D → Bool
  | .tup ds => noss ds
  | .lst ds => noss ds
  | .slst _ | .ref _ | .ty _ | .dtp _ _ | .obj _ _ _ => false
  | _ => true
def noss : List D → Bool
  | [] => true
  | d :: ds => nos d && noss ds
end
structure Itm (c k : Nat) (d : D) : Prop where
  sh : shOk d = true
  no : nos d = true
  cs : cst d ≤ c
  dp : dep d ≤ k
structure Itl (c k : Nat) (xs : List D) : Prop where
  sh : shOks xs = true
  no : noss xs = true
  cs : csts xs ≤ c
  dp : deps xs ≤ k
theorem Itm.mono {c k c' k' : Nat} {d : D} (h : Itm c k d) (hc : c ≤ c') (hk : k ≤ k') : Itm c' k' d := ⟨h.sh, h.no, Nat.le_trans h.cs hc, Nat.le_trans h.dp hk⟩
theorem Itl.mono {c k c' k' : Nat} {d : List D} (h : Itl c k d) (hc : c ≤ c') (hk : k ≤ k') : Itl c' k' d := ⟨h.sh, h.no, Nat.le_trans h.cs hc, Nat.le_trans h.dp hk⟩
theorem Itl.nil {c k : Nat} : Itl c k [] := ⟨rfl, rfl, Nat.zero_le _, Nat.zero_le _⟩
theorem Itl.cons {c c' k : Nat} {d : D} {xs : List D} (h : Itm c k d) (r : Itl c' k xs) : Itl (c + 2 + c') k (d :: xs) := ⟨by rw [shOks, h.sh, r.sh]; rfl, by rw [noss, h.no, r.no]; rfl, by rw [csts]; have := h.cs; have := r.cs; omega, by rw [deps]; exact Nat.max_le.mpr ⟨h.dp, r.dp⟩⟩
theorem Itl.append {c c' k : Nat} : ∀ {xs ys : List D}, Itl c k xs → Itl c' k ys → Itl (c + c') k (xs ++ ys)
  | [], ys, _, h => h.mono (by omega) (Nat.le_refl _)
  | x :: xs, ys, h, h' => by
    have a1 : shOk x = true ∧ shOks xs = true := by have := h.sh; rw [shOks] at this; simpa using this
    have a2 : nos x = true ∧ noss xs = true := by have := h.no; rw [noss] at this; simpa using this
    have a3 : cst x + 2 + csts xs ≤ c := by have := h.cs; rw [csts] at this; exact this
    have a4 : dep x ≤ k ∧ deps xs ≤ k := by have := h.dp; rw [deps] at this; exact Nat.max_le.mp this
    have hx : Itm (cst x) k x := ⟨a1.1, a2.1, Nat.le_refl _, a4.1⟩
    have hr : Itl (c - (cst x + 2)) k xs := ⟨a1.2, a2.2, by omega, a4.2⟩
    exact (Itl.cons hx (Itl.append hr h')).mono (by omega) (Nat.le_refl _)
theorem Itl.parts {c k : Nat} {x : D} {xs : List D} (h : Itl c k (x :: xs)) : Itm c k x ∧ Itl c k xs ∧ cst x + 2 + csts xs ≤ c := by
  have a1 : shOk x = true ∧ shOks xs = true := by have := h.sh; rw [shOks] at this; simpa using this
  have a2 : nos x = true ∧ noss xs = true := by have := h.no; rw [noss] at this; simpa using this
  have a3 : cst x + 2 + csts xs ≤ c := by have := h.cs; rw [csts] at this; exact this
  have a4 : dep x ≤ k ∧ deps xs ≤ k := by have := h.dp; rw [deps] at this; exact Nat.max_le.mp this
  exact ⟨⟨a1.1, a2.1, by omega, a4.1⟩, ⟨a1.2, a2.2, by omega, a4.2⟩, a3⟩
theorem Itl.take {c k : Nat} : ∀ {xs : List D} (n : Nat), Itl c k xs → Itl c k (xs.take n)
  | _, 0, _ => by rw [List.take_zero]; exact Itl.nil
  | [], _ + 1, h => h
  | x :: xs, n + 1, h => by
    obtain ⟨h1, h2, h3⟩ := h.parts
    have hx : Itm (cst x) k x := ⟨h1.sh, h1.no, Nat.le_refl _, h1.dp⟩
    have hr : Itl (c - (cst x + 2)) k (xs.take n) := Itl.take n ⟨h2.sh, h2.no, by omega, h2.dp⟩
    exact (Itl.cons hx hr).mono (by omega) (Nat.le_refl _)
theorem Itl.drop {c k : Nat} : ∀ {xs : List D} (n : Nat), Itl c k xs → Itl c k (xs.drop n)
  | _, 0, h => h
  | [], _ + 1, h => h
  | x :: xs, n + 1, h => Itl.drop n h.parts.2.1
theorem Itl.cut {c k : Nat} {xs : List D} {lo hi : Option Int} (h : Itl c k xs) : Itl c k (cutL xs lo hi) := (h.drop _).take _
theorem Itl.mem {c k : Nat} : ∀ {xs : List D} {d : D}, Itl c k xs → d ∈ xs → Itm c k d
  | x :: xs, d, h, m => by
    rcases List.mem_cons.mp m with e | m
    · rw [e]; exact h.parts.1
    · exact Itl.mem h.parts.2.1 m
theorem Itl.len {c k : Nat} : ∀ {xs : List D}, Itl c k xs → 2 * xs.length ≤ c
  | [], _ => Nat.zero_le _
  | x :: xs, h => by
    obtain ⟨h1, h2, h3⟩ := h.parts
    have := Itl.len (c := c - (cst x + 2)) ⟨h2.sh, h2.no, by omega, h2.dp⟩
    rw [List.length_cons]
    omega
theorem Itl.all {c k n : Nat} : ∀ {xs : List D}, (∀ d ∈ xs, Itm c k d) → xs.length ≤ n → Itl (n * (c + 2)) k xs
  | [], _, _ => Itl.nil
  | x :: xs, h, hl => by
    rw [List.length_cons] at hl
    cases n with
    | zero => omega
    | succ m =>
      have ih := Itl.all (n := m) (fun d hd => h d (List.mem_cons_of_mem _ hd)) (by omega)
      refine (Itl.cons (h x List.mem_cons_self) ih).mono ?_ (Nat.le_refl _)
      rw [Nat.succ_mul]
      omega
theorem Itm.tup {c k : Nat} {xs : List D} (h : Itl c k xs) : Itm (c + 3) (k + 1) (.tup xs) := ⟨by rw [shOk]; exact h.sh, by rw [nos]; exact h.no, by rw [cst]; have := h.cs; omega, by rw [dep]; have := h.dp; omega⟩
theorem Itm.lst {c k : Nat} {xs : List D} (h : Itl c k xs) : Itm (c + 3) (k + 1) (.lst xs) := ⟨by rw [shOk]; exact h.sh, by rw [nos]; exact h.no, by rw [cst]; have := h.cs; omega, by rw [dep]; have := h.dp; omega⟩
theorem Itm.of_tup {c k : Nat} {xs : List D} (h : Itm c k (.tup xs)) : Itl c k xs := ⟨by have := h.sh; rw [shOk] at this; exact this, by have := h.no; rw [nos] at this; exact this, by have := h.cs; rw [cst] at this; omega, by have := h.dp; rw [dep] at this; omega⟩
theorem Itm.of_lst {c k : Nat} {xs : List D} (h : Itm c k (.lst xs)) : Itl c k xs := ⟨by have := h.sh; rw [shOk] at this; exact this, by have := h.no; rw [nos] at this; exact this, by have := h.cs; rw [cst] at this; omega, by have := h.dp; rw [dep] at this; omega⟩
theorem Itm.str {c k : Nat} {x : Str} (h : Itm c k (.str x)) : 10 * x.length + 4 ≤ c := by have := h.cs; rw [cst] at this; exact this
theorem Itm.ofStr {k : Nat} {x : Str} (h : x.cps.toList.all (fun c => decide (c < 1114112)) = true) : Itm (10 * x.length + 4) k (.str x) := ⟨by rw [shOk]; exact h, rfl, by rw [cst]; exact Nat.le_refl _, Nat.zero_le _⟩
theorem Itm.int {k : Nat} {i : Int} (h : i.natAbs.log2 < 1920) : Itm 2000 k (.int i) := ⟨by rw [shOk]; exact decide_eq_true h, rfl, by rw [cst]; exact Nat.le_refl _, Nat.zero_le _⟩
theorem Itm.non {k : Nat} : Itm 5 k .non := ⟨rfl, rfl, (by show (5 : Nat) ≤ 5; decide), Nat.zero_le _⟩
theorem Itm.bl {k : Nat} {b : Bool} : Itm 5 k (.bl b) := ⟨rfl, rfl, (by show (5 : Nat) ≤ 5; decide), Nat.zero_le _⟩
/-- a written value -/
theorem Itm.dec {c k : Nat} {d : D} (h : (shOk d && nos d && decide (cst d ≤ c) && decide (dep d ≤ k)) = true) : Itm c k d := by
  simp only [Bool.and_eq_true, decide_eq_true_eq] at h
  exact ⟨h.1.1.1, h.1.1.2, h.1.2, h.2⟩
theorem Itm.repr {c k : Nat} {d : D} (h : Itm c k d) (hc : c ≤ 1000000) (hk : k ≤ 100) : shOk d = true ∧ cst d ≤ 1000000 ∧ dep d ≤ 100 := ⟨h.sh, Nat.le_trans h.cs hc, Nat.le_trans h.dp hk⟩
end Fx

namespace Fx
open PySem PySem.Spec PyProof.Rows L2
theorem reprChar_head (q c : Nat) : (Builtin.Str.reprChar q c).head? = some 92 ∨ Builtin.Str.reprChar q c = [c] := by
  unfold Builtin.Str.reprChar
  repeat' split
  all_goals first
    | exact .inr rfl
    | exact .inl rfl
theorem repr_list (x : Str) : (reprText x).cps.toList = reprQuote x :: (x.cps.toList.flatMap (Builtin.Str.reprChar (reprQuote x)) ++ [reprQuote x]) := by
  unfold reprText
  have h : ∀ (q : Nat) (l : List Nat) (acc : Array Nat), (l.foldl (fun out c => out ++ (Builtin.Str.reprChar q c).toArray) acc).toList = acc.toList ++ l.flatMap (Builtin.Str.reprChar q) := by
    intro q l
    induction l with
    | nil => intro acc; simp
    | cons c l ih => intro acc; rw [List.foldl_cons, ih]; simp
  show (Array.push _ _).toList = _
  rw [Array.toList_push, ← Array.foldl_toList, h]
  rfl
theorem repr_T {x : Str} (h : reprText x = ("'T'" : Str)) : x = ("T" : Str) := by
  have e := repr_list x
  rw [h] at e
  have e0 : (("'T'" : Str)).cps.toList = [39, 84, 39] := by decide +kernel
  rw [e0] at e
  have e1 : reprQuote x = 39 := by injection e with a; exact a.symm
  rw [e1] at e
  have e2 : [84] ++ [39] = x.cps.toList.flatMap (Builtin.Str.reprChar 39) ++ [39] := by injection e
  have e3 := (List.append_inj_left' e2 rfl).symm
  have e4 : x.cps.toList = [84] := by
    cases hx : x.cps.toList with
    | nil => rw [hx] at e3; cases e3
    | cons c l =>
      rw [hx, List.flatMap_cons] at e3
      rcases reprChar_head 39 c with a | a
      · cases hc : Builtin.Str.reprChar 39 c with
        | nil => rw [hc] at a; cases a
        | cons y ys =>
          rw [hc] at a e3
          cases a
          injection e3 with b
          cases b
      · rw [a] at e3
        injection e3 with b1 b2
        subst b1
        cases l with
        | nil => rfl
        | cons d l =>
          exfalso
          change List.flatMap (Builtin.Str.reprChar 39) (d :: l) = [] at b2
          rw [List.flatMap_cons] at b2
          rcases reprChar_head 39 d with a | a
          · cases hc : Builtin.Str.reprChar 39 d with
            | nil => rw [hc] at a; cases a
            | cons y ys => rw [hc] at b2; cases b2
          · rw [a] at b2; cases b2
  cases x with
  | mk a =>
    have : a = #[84] := Array.toList_inj.mp e4
    rw [this]
    decide +kernel
theorem ends_of {x y : Str} {c : Nat} {z : Str} (h : x ++ y = z) (hy : y.cps.toList = [c]) : z.cps.toList.getLast? = some c := by
  rw [← h]
  show (x.cps ++ y.cps).toList.getLast? = _
  rw [Array.toList_append, hy]
  simp
theorem shw_T (d : D) (h : shOk d = true) (hn : ∀ x, d ≠ .str x) : shw d ≠ ("'T'" : Str) := by
  have e0 : (("'T'" : Str)).cps.toList = [39, 84, 39] := by decide +kernel
  have e1 : (("'T'" : Str)).cps.toList.getLast? = some 39 := by decide +kernel
  intro e
  unfold shw at e
  cases d with
  | non => rw [py, PyData.shown] at e; exact absurd e (by decide +kernel)
  | bl b => rw [py, PyData.shown] at e; cases b <;> exact absurd e (by decide +kernel)
  | int i =>
    rw [py, PyData.shown] at e
    have := int_text_free' 84 ⟨by decide, by decide⟩ i
    rw [e, e0] at this
    exact this (by decide)
  | str x => exact hn x rfl
  | tup xs =>
    rw [py, PyData.shown] at e
    unfold tupleText at e
    split at e
    · have e2 : ∃ y : Str, y ++ (")" : Str) = ("'T'" : Str) := by
        refine ⟨("(" : Str) ++ Str.join ", " (PyData.shownAll (pys xs)) ++ ("," : Str), ?_⟩
        rw [← e]
        have : ((",)" : String) : Str) = ("," : Str) ++ (")" : Str) := by decide +kernel
        rw [this]
        apply congrArg PySem.Str.mk
        exact Array.append_assoc
      obtain ⟨y, e2⟩ := e2
      have := ends_of (c := 41) e2 (by decide +kernel)
      rw [e1] at this
      cases this
    · have := ends_of (c := 41) e (by decide +kernel)
      rw [e1] at this
      cases this
  | lst xs =>
    rw [py, PyData.shown] at e
    have := ends_of (c := 93) e (by decide +kernel)
    rw [e1] at this
    cases this
  | slst xs =>
    rw [py, PyData.shown] at e
    have := ends_of (c := 93) e (by decide +kernel)
    rw [e1] at this
    cases this
  | dic kvs =>
    rw [py, PyData.shown] at e
    have := ends_of (c := 125) e (by decide +kernel)
    rw [e1] at this
    cases this
  | ref _ => cases h
  | ty _ => cases h
  | dtp _ _ => cases h
  | obj _ _ _ => cases h
end Fx

namespace Fx
open PySem PySem.Spec PyProof.Rows L2
/-! functions that draw from the hand -/
def R_gen (P : D → Prop) : RD
  | [.ref h], M, F => ∃ c, HandAt M h c ∧ ∀ d M', P d → HandAt M' h c → Oth h c M M' → F d M'
  | _, _, _ => False
theorem ln_gen {P : D → Prop} : ∀ xs M F, R_gen P xs M F → xs.length = 1 := by
  intro xs M F h
  unfold R_gen at h
  split at h
  · rfl
  · exact h.elim
/-- a list written by drawing, after its row is known -/
def lcE (t : Tg) (C : TTd) (E : TEd) (vs : List Nat) (ds : Ds) (xs : List D) (M1 : Mp) (F : DK) : Prop := ∀ L, M1 L = none → ∃ W : Nat → List D → Mp → Prop, W 0 [] (updM M1 L (.lst [])) ∧
  (∀ i d acc M', xs[i]? = some d → W i acc M' → acc.length < 1000000 ∧ gD t d (wipeD ds vs) fun ds2 => C ds2 M' fun b M2 => br b
    (E ds2 M2 fun y M3 => M3 L = some (.lst acc) ∧ W (i + 1) (acc ++ [y]) (updM M3 L (.lst (acc ++ [y]))))
    (W (i + 1) acc M2)) ∧ ∀ acc M', W xs.length acc M' → M' L = some (.lst acc) ∧ F (.lst acc) (delM M' L)
theorem q_lc {T : TId} {t : Tg} {C : TTd} {E : TEd} {vs : List Nat} {ds : Ds} {M : Mp} {F : DK} : lcD T t C E vs ds M F = T ds M fun xs M1 => lcE t C E vs ds xs M1 F := rfl
theorem HandAt.upd {M : Mp} {h c L : Addr} {m : MO} (hd : HandAt M h c) (h1 : L ≠ h) (h2 : L ≠ c) : HandAt (updM M L m) h c := by
  obtain ⟨cells, a, n, e1, e2, r⟩ := hd
  exact ⟨cells, a, n, (updM_ne h1.symm).trans e1, (updM_ne h2.symm).trans e2, r⟩
theorem HandAt.del {M : Mp} {h c L : Addr} (hd : HandAt M h c) (h1 : L ≠ h) (h2 : L ≠ c) : HandAt (delM M L) h c := by
  obtain ⟨cells, a, n, e1, e2, r⟩ := hd
  refine ⟨cells, a, n, ?_, ?_, r⟩
  · unfold delM
    rw [if_neg h1.symm]
    exact e1
  · unfold delM
    rw [if_neg h2.symm]
    exact e2
theorem HandAt.off {M : Mp} {h c L : Addr} (hd : HandAt M h c) (hL : M L = none) : L ≠ h ∧ L ≠ c := by
  obtain ⟨cells, a, n, e1, e2, r⟩ := hd
  refine ⟨fun e => ?_, fun e => ?_⟩
  · rw [e, e1] at hL; cases hL
  · rw [e, e2] at hL; cases hL
theorem lc_draw {t : Tg} {E : TEd} {vs : List Nat} {ds : Ds} {M : Mp} {F : DK} {xs : List D} {h c : Addr} (P : D → Prop) (hd : HandAt M h c) (hl : xs.length ≤ 1000000)
    (he : ∀ d ∈ xs, gD t d (wipeD ds vs) fun ds2 => ∀ M' (G : DK), HandAt M' h c → (∀ y M2, P y → HandAt M2 h c → Oth h c M' M2 → G y M2) → E ds2 M' G)
    (hF : ∀ ys M', ys.length = xs.length → (∀ y ∈ ys, P y) → HandAt M' h c → Oth h c M M' → F (.lst ys) M') : lcE t yesD E vs ds xs M F := by
  intro L hL
  obtain ⟨o1, o2⟩ := hd.off hL
  refine ⟨fun i acc M' => acc.length = i ∧ (∀ y ∈ acc, P y) ∧ M' L = some (.lst acc) ∧ HandAt M' h c ∧ (∀ b, b ≠ h → b ≠ c → b ≠ L → M' b = M b), ⟨rfl, fun y hy => absurd hy (by simp), updM_same, hd.upd o1 o2, fun b _ _ hb => updM_ne hb⟩, fun i d acc M' hi ⟨w1, w2, w3, w4, w5⟩ => ?_, fun acc M' ⟨w1, w2, w3, w4, w5⟩ => ?_⟩
  · have hx : i < xs.length := (List.getElem?_eq_some_iff.mp hi).1
    refine ⟨by omega, gD_mono t (fun ds2 k => ?_) (he d (List.mem_of_getElem? hi))⟩
    refine k M' _ w4 fun y M2 py h2 ot => ⟨?_, ?_, ?_, updM_same, h2.upd o1 o2, fun b b1 b2 b3 => ?_⟩
    · rw [ot L o1 o2]
      exact w3
    · rw [List.length_append, w1]
      rfl
    · intro z hz
      rcases List.mem_append.mp hz with q | q
      · exact w2 z q
      · rw [List.mem_singleton.mp q]
        exact py
    · rw [updM_ne b3, ot b b1 b2]
      exact w5 b b1 b2 b3
  · refine ⟨w3, hF acc _ w1 w2 (w4.del o1 o2) fun b b1 b2 => ?_⟩
    unfold delM
    by_cases q : b = L
    · rw [if_pos q, q]
      exact hL.symm
    · rw [if_neg q]
      exact w5 b b1 b2 q
/-- a list that may change, written by a comprehension that changes nothing -/
theorem lcM_map {T : TId} {t : Tg} {E : TEd} {vs : List Nat} {ds : Ds} {M : Mp} {F : DK} {xs : List D} (v : D → D) (hl : xs.length ≤ 1000000) (hT : ∀ G : List D → Mp → Prop, G xs M → T ds M G)
    (he : ∀ d ∈ xs, gD t d (wipeD ds vs) fun ds2 => ∀ M' (G : DK), G (v d) M' → E ds2 M' G) (hF : ∀ L, M L = none → F (.ref L) (updM M L (.lst (xs.map v)))) : lcM T t yesD E vs ds M F := by
  refine hT _ fun L hL => ⟨fun i acc M' => acc = (xs.take i).map v ∧ M' = updM M L (.lst acc), ⟨rfl, rfl⟩, fun i d acc M' hd ⟨e1, e2⟩ => ?_, fun acc M' ⟨e1, e2⟩ => ?_⟩
  · have hi : i < xs.length := (List.getElem?_eq_some_iff.mp hd).1
    refine ⟨by rw [e1, List.length_map, List.length_take]; omega, gD_mono t (fun ds2 hE => ?_) (he d (List.mem_of_getElem? hd))⟩
    have et : xs.take (i + 1) = xs.take i ++ [d] := by rw [List.take_add_one, hd]; rfl
    refine hE M' _ ⟨by rw [e2]; exact updM_same, by rw [et, List.map_append, e1]; rfl, ?_⟩
    rw [e2]
    funext b
    by_cases q : b = L
    · rw [q, updM_same, updM_same]
    · rw [updM_ne q, updM_ne q, updM_ne q]
  · rw [List.take_length] at e1
    refine ⟨by rw [e2]; exact updM_same, ?_⟩
    rw [e2, e1]
    exact hF L hL
/-- a loop, after its row is known -/
def forE (t : Tg) (S : TSd) (B : Endd) (ds : Ds) (xs : List D) (M1 : Mp) : Prop := ∃ W : Nat → Ds → Mp → Prop, W 0 ds M1 ∧
  (∀ i d ds' M', xs[i]? = some d → W i ds' M' → gD t d ds' fun ds2 => S { B with nx := W (i + 1), ct := W (i + 1), bk := B.nx } ds2 M') ∧ ∀ ds' M', W xs.length ds' M' → B.nx ds' M'
theorem q_for {T : TId} {t : Tg} {S : TSd} {B : Endd} {ds : Ds} {M : Mp} : forD T t S B ds M = T ds M fun xs M1 => forE t S B ds xs M1 := rfl
theorem for_inv {t : Tg} {S : TSd} {B : Endd} {ds : Ds} {xs : List D} {M1 : Mp} (W : Nat → Ds → Mp → Prop) (h0 : W 0 ds M1)
    (ht : ∀ i d ds' M', xs[i]? = some d → W i ds' M' → gD t d ds' fun ds2 => S { B with nx := W (i + 1), ct := W (i + 1), bk := B.nx } ds2 M') (hd : ∀ ds' M', W xs.length ds' M' → B.nx ds' M') : forE t S B ds xs M1 := ⟨W, h0, ht, hd⟩
theorem join_flat (xs : List Str) : (Txt.join ("" : Str) xs).cps.toList = xs.flatMap fun x => x.cps.toList := by
  have h : ∀ (l : List Str) (acc : Array Nat), (l.foldl (fun acc (p : Str) => acc ++ ("" : Str).cps ++ p.cps) acc).toList = acc.toList ++ l.flatMap fun x => x.cps.toList := by
    intro l
    induction l with
    | nil => intro acc; simp
    | cons c l ih =>
      intro acc
      have e : ("" : Str).cps = #[] := by decide +kernel
      rw [List.foldl_cons, ih, e]
      simp
  cases xs with
  | nil => rfl
  | cons x xs => exact h xs x.cps
/-- a text joined of letters -/
theorem join_Itm {k : Nat} {xs : List Str} {n : Nat} (hl : xs.length ≤ n) (h : ∀ x ∈ xs, ∃ c, c < 1114112 ∧ x = ⟨#[c]⟩) : Itm (10 * n + 4) k (.str (Txt.join ("" : Str) xs)) := by
  have e := join_flat xs
  have a1 : ∀ l : List Str, (∀ x ∈ l, ∃ c, c < 1114112 ∧ x = ⟨#[c]⟩) → (l.flatMap fun x => x.cps.toList).length = l.length ∧ (l.flatMap fun x => x.cps.toList).all (fun c => decide (c < 1114112)) = true := by
    intro l
    induction l with
    | nil => intro _; exact ⟨rfl, rfl⟩
    | cons x l ih =>
      intro g
      obtain ⟨b1, b2⟩ := ih fun z hz => g z (List.mem_cons_of_mem _ hz)
      obtain ⟨c, hc, rfl⟩ := g x List.mem_cons_self
      rw [List.flatMap_cons]
      refine ⟨?_, ?_⟩
      · rw [List.length_append, b1, List.length_cons]
        exact Nat.add_comm 1 _
      · rw [List.all_append, b2, Bool.and_true]
        show (decide (c < 1114112) && true) = true
        rw [decide_eq_true hc]
        rfl
  obtain ⟨b1, b2⟩ := a1 xs h
  rw [← e] at b1 b2
  have b3 : (Txt.join ("" : Str) xs).length = xs.length := by
    rw [← b1]
    show Array.size _ = _
    simp
  exact (Itm.ofStr b2).mono (by omega) (Nat.le_refl _)
end Fx

namespace Fx
open PySem PySem.Spec PyProof.Rows L2
def eRevA (d : D) (M : Mp) (F : DK) : Prop := match d with
  | .lst xs => F (.lst xs.reverse) M
  | .slst xs => F (.lst xs.reverse) M
  | .tup xs => F (.tup xs.reverse) M
  | .str z => z.length ≤ 1000000 ∧ F (.str (revS z)) M
  | _ => False
def eStar (d : D) (K : List D → Prop) : Prop := match d with
  | .lst xs => K xs
  | .slst xs => K xs
  | .tup xs => K xs
  | _ => False
def eP3 (xs : List D) (K : D → D → D → Prop) : Prop := match xs with
  | [a, b, c] => K a b c
  | _ => False
def eD1 (xs : List D) (K : D → Prop) : Prop := match xs with
  | [a] => K a
  | _ => False
def eIx (l : List Nat) (K : Nat → Prop) : Prop := match l with
  | i :: _ => K i
  | [] => False
section
variable {T U : TEd} {S : TSd} {V V2 : TAd} {ds : Ds} {M : Mp} {F : DK} {GA : List D → Mp → Prop} {E : Endd} {i j : Int} {x y f : Str} {xs ys : List D} {d v : D} {b : Bool} {a : Addr} {n m l : Nat} {R : RX} {W : WXd} {cn c g : String} {errs : List String} {o : Option Addr} {ns : List Str} {es : List D}
  {KL : List D → Prop} {KD : D → Prop} {KN : Nat → Prop} {K3 : D → D → D → Prop} {KC : List Str → List D → Prop} {tb : WXd → TSd} {th : Addr → String → Option Addr → TSd}
theorem q_revA : revA T ds M F = T ds M fun d M1 => eRevA d M1 F := by
  unfold revA eRevA
  congr
theorem e_ra_l : eRevA (.lst xs) M F = F (.lst xs.reverse) M := rfl
theorem e_ra_s : eRevA (.slst xs) M F = F (.lst xs.reverse) M := rfl
theorem e_ra_t : eRevA (.tup xs) M F = F (.tup xs.reverse) M := rfl
theorem e_ra_z : eRevA (.str x) M F = (x.length ≤ 1000000 ∧ F (.str (revS x)) M) := rfl
theorem q_star : starD T V ds M GA = T ds M fun d M1 => eStar d fun xs => V ds M1 fun ys M2 => GA (xs ++ ys) M2 := by
  unfold starD eStar
  congr
theorem e_st_l : eStar (.lst xs) KL = KL xs := rfl
theorem e_st_s : eStar (.slst xs) KL = KL xs := rfl
theorem e_st_t : eStar (.tup xs) KL = KL xs := rfl
theorem q_par3 : par3D n m l V E ds M = V ds M fun xs M1 => eP3 xs fun a b c => E.nx (((ds.set n (some a)).set m (some b)).set l (some c)) M1 := rfl
theorem e_p3 {d1 d2 d3 : D} : eP3 [d1, d2, d3] K3 = K3 d1 d2 d3 := rfl
theorem q_cont : contD E ds M = E.ct ds M := rfl
theorem r_add2_i : addR2 (.int i) (.int j) M F = F (.int (i + j)) M := rfl
theorem r_add2_s : addR2 (.str x) (.str y) M F = (x.length + y.length ≤ 1000000 ∧ F (.str (x ++ y)) M) := rfl
theorem r_add2_t : addR2 (.tup xs) (.tup ys) M F = (xs.length + ys.length ≤ 1000000 ∧ F (.tup (xs ++ ys)) M) := rfl
theorem r_add2_l : addR2 (.lst xs) (.lst ys) M F = (xs.length + ys.length ≤ 1000000 ∧ F (.lst (xs ++ ys)) M) := rfl
theorem r_add2_rl : addR2 (.ref a) (.lst ys) M F = eML (M a) fun xs => xs.length + ys.length ≤ 1000000 ∧ F (.lst (xs ++ ys)) M := by
  unfold addR2 lisD eML
  dsimp only
  generalize M a = o
  cases o with
  | none => rfl
  | some m => cases m <;> rfl
theorem r_add2_lr : addR2 (.lst ys) (.ref a) M F = eML (M a) fun xs => ys.length + xs.length ≤ 1000000 ∧ F (.lst (ys ++ xs)) M := by
  unfold addR2 lisD eML
  dsimp only
  generalize M a = o
  cases o with
  | none => rfl
  | some m => cases m <;> rfl
theorem r_mul2_i : mulR2 (.int i) (.int j) M F = (((-(2 ^ 64) < i ∧ i < 2 ^ 64) ∨ (-(2 ^ 64) < j ∧ j < 2 ^ 64)) ∧ F (.int (i * j)) M) := rfl
theorem r_mul2_l : mulR2 (.lst xs) (.int i) M F = (0 ≤ i ∧ i ≤ 1000000 ∧ xs.length * i.toNat ≤ 1000000 ∧ F (.lst (List.replicate i.toNat xs).flatten) M) := rfl
theorem r_mul2_s : mulR2 (.str x) (.int i) M F = (-1000000 ≤ i ∧ i ≤ 1000000 ∧ x.length * i.toNat ≤ 1000000 ∧ F (.str (Txt.mul x i)) M) := rfl
theorem r_le2_i : leR2 (.int i) (.int j) M F = F (.bl (decide (i ≤ j))) M := rfl
theorem r_le2_s : leR2 (.str x) (.str y) M F = F (.bl (!decide (y.cps.toList < x.cps.toList))) M := rfl
theorem r_lt2_i : ltR2 (.int i) (.int j) M F = F (.bl (decide (i < j))) M := rfl
theorem r_lt2_s : ltR2 (.str x) (.str y) M F = F (.bl (decide (x.cps.toList < y.cps.toList))) M := rfl
theorem r_sum : sumR [.lst xs] M F = (xs.all isInt = true ∧ F (.int (xs.map getInt).sum) M) := rfl
theorem r_max2 : max2R [.int i, .int j] M F = F (.int (max i j)) M := rfl
theorem r_min2 : min2R [.int i, .int j] M F = F (.int (min i j)) M := rfl
theorem r_rst : rstR (.str x) [.str y] M F = (x.length ≤ 1000000 ∧ F (.str (Txt.rstripChars x y)) M) := rfl
theorem r_spl : splR (.str x) [.str y] M F = (0 < y.length ∧ x.length ≤ 1000000 ∧ F (.lst ((Txt.split x y).map D.str)) M) := rfl
theorem r_six : sixR (.str x) [.str y] M F = eIx (Builtin.Str.occurrences x y 0 x.length 1) fun i => F (.int (i : Nat)) M := by
  unfold sixR eIx
  rfl
theorem q_callX : callX R W V ds M F = V ds M fun xs M1 => R xs M1 F fun n ns es M2 => W n ns es ds M2 := rfl
theorem q_callKX {g : List D → List D → List D} : callKX R g W V V2 ds M F = V ds M fun xs M1 => V2 ds M1 fun ys M2 => R (g xs ys) M2 F fun n ns es M3 => W n ns es ds M3 := rfl
theorem q_sliM {O O2 : TOd} : sliM T O O2 ds M F = T ds M fun d M1 => O ds M1 fun lo M2 => O2 ds M2 fun hi M3 => slM d lo hi M3 F := rfl
theorem r_slM {lo hi : Option Int} : slM (.ref a) lo hi M F = eML (M a) fun xs => F (.lst (cutL xs lo hi)) M := by
  unfold slM eML
  first
    | rfl
    | (dsimp only
       generalize M a = o
       cases o with
       | none => rfl
       | some m => cases m <;> rfl)
theorem q_kdef {dds : List D} : kdef dds xs [] = xs ++ dds := rfl
theorem q_mix21 {d1 d2 d3 : D} : kmix 2 1 [0, 1, 2] [d1, d2] [d3] = [d1, d2, d3] := rfl
theorem q_mix03 {d1 d2 d3 : D} : kmix 0 3 [2, 1, 0] [] [d1, d2, d3] = [d3, d2, d1] := rfl
theorem q_raise : raiseD cn f W V E ds M = V ds M fun xs M1 => eD1 xs fun v => W cn [f] [v] ds M1 := rfl
theorem e_d1 : eD1 [d] KD = KD d := rfl
theorem q_try : tryD errs cn n tb th W E ds M = tb (tryW errs cn n th W E) E ds M := rfl
theorem q_tryW : tryW errs cn n th W E c ns es ds M = (c ∈ errs ∧ br (subN c cn) (∀ a d, th a c d { nx := fun ds2 M2 => E.nx (ds2.set n none) M2, rt := E.rt, bk := fun ds2 M2 => E.bk (ds2.set n none) M2, ct := fun ds2 M2 => E.ct (ds2.set n none) M2 } (ds.set n (some (.obj (.cau a c d) ns es))) M) (W c ns es ds M)) := rfl
theorem q_xf : xfD cn c a o f T ds M F = (c = cn ∧ T ds M fun x M1 => cauD a o x fun ns es => eO ((ns.zip es).lookup f) fun v => F v M1) := by
  unfold xfD
  congr
  funext x M1
  congr
  funext ns es
  unfold eO
  generalize (ns.zip es).lookup f = q
  cases q <;> rfl
theorem q_isX : isXD errs c g a o T ds M F = (c ∈ errs ∧ T ds M fun x M1 => cauD a o x fun _ _ => F (.bl (subN c g)) M1) := rfl
theorem e_cau {s : String} : cauD a o (.obj (.cau a s o) ns es) KC = KC ns es := by simp [cauD]
end
end Fx

namespace Fx
open PySem PySem.Spec PyProof.Rows L2
section
variable {ds : Ds} {M : Mp} {F : DK} {T : TEd} {V : TAd} {n g : String} {f : Str} {fs ns : List Str} {es : List D} {errs : List String} {nk : Nat} {idx : List Nat} {KE : String → List Str → List D → Prop}
theorem q_mkA : mkA n fs V ds M F = V ds M fun xs M1 => xs.length ≤ 1000 ∧ xs.length = fs.length ∧ F (.obj (.err n) fs.reverse xs.reverse) M1 := rfl
theorem q_mkK : mkK n fs nk idx V ds M F = V ds M fun xs M1 => xs.length ≤ 1000 ∧ xs.length = nk ∧ (kmix 0 nk idx [] xs).length = fs.length ∧ F (.obj (.err n) fs.reverse (kmix 0 nk idx [] xs).reverse) M1 := rfl
theorem q_mk0 : mk0 n ds M F = F (.obj (.err n) [] []) M := rfl
theorem e_err : errK (.obj (.err n) ns es) KE = KE n ns es := rfl
theorem q_fld : fldD n f T ds M F = T ds M fun x M1 => errK x fun n' ns es => n' = n ∧ eO ((ns.zip es).lookup f) fun v => F v M1 := by
  unfold fldD
  congr
  funext x M1
  congr
  funext n' ns es
  unfold eO
  generalize (ns.zip es).lookup f = q
  cases q <;> rfl
theorem q_isV : isVD errs g T ds M F = T ds M fun x M1 => errK x fun n _ _ => n ∈ errs ∧ F (.bl (subN n g)) M1 := rfl
theorem q_isU : isUD errs T ds M F = T ds M fun x M1 => errK x fun n _ _ => n ∈ errs ∧ F (.bl false) M1 := rfl
theorem q_m01 {d1 : D} : kmix 0 1 [0] [] [d1] = [d1] := rfl
theorem q_m02 {d1 d2 : D} : kmix 0 2 [0, 1] [] [d1, d2] = [d1, d2] := rfl
theorem q_m02s {d1 d2 : D} : kmix 0 2 [1, 0] [] [d1, d2] = [d2, d1] := rfl
end
end Fx

namespace Fx
open PySem PySem.Spec PyProof.Rows L2
/-! rows of texts -/
def tS (w : List Str) : D := .tup (w.map .str)
def sOk (x : Str) : Prop := x.cps.toList.all (fun c => decide (c < 1114112)) = true
theorem delM_upd {M : Mp} {p : Addr} {o : MO} (h : M p = none) : delM (updM M p o) p = M := by
  funext b
  unfold delM
  by_cases e : b = p
  · rw [if_pos e, e, h]
  · rw [if_neg e, updM_ne e]
theorem updM_two {M : Mp} {p : Addr} {o o' : MO} : updM (updM M p o) p o' = updM M p o' := by
  funext b
  by_cases e : b = p
  · rw [e, updM_same, updM_same]
  · rw [updM_ne e, updM_ne e, updM_ne e]
theorem eqR_tt {xs ys : List D} {M : Mp} {F : DK} (h : (okD (.tup xs) && okD (.tup ys)) = true) (f : F (.bl (eqD (.tup xs) (.tup ys))) M) : eqR (.tup xs) (.tup ys) M F := by
  cases ys with
  | nil =>
    rw [r_eq_t0]
    have : eqD (.tup xs) (.tup []) = xs.isEmpty := by
      cases xs with
      | nil => rfl
      | cons x xs => unfold eqD; rw [py, py, pys, pys, PyData.eqv, PyData.eqvAll]; rfl
    rw [← this]
    exact f
  | cons y ys => exact ⟨h, f⟩
theorem eqR_ll {xs ys : List D} {M : Mp} {F : DK} (h : (okD (.lst xs) && okD (.lst ys)) = true) (f : F (.bl (eqD (.lst xs) (.lst ys))) M) : eqR (.lst xs) (.lst ys) M F := by
  cases ys with
  | nil =>
    rw [r_eq_l0]
    have : eqD (.lst xs) (.lst []) = xs.isEmpty := by
      cases xs with
      | nil => rfl
      | cons x xs => unfold eqD; rw [py, py, pys, pys, PyData.eqv, PyData.eqvAll]; rfl
    rw [← this]
    exact f
  | cons y ys => exact ⟨h, f⟩
theorem eqvAll_str : ∀ a b : List Str, PyData.eqvAll (pys (a.map .str)) (pys (b.map .str)) = decide (a = b)
  | [], [] => by rw [List.map_nil, pys, PyData.eqvAll]; simp
  | [], y :: b => by rw [List.map_nil, List.map_cons, pys, pys, PyData.eqvAll]; simp
  | x :: a, [] => by rw [List.map_nil, List.map_cons, pys, pys, PyData.eqvAll]; simp
  | x :: a, y :: b => by
    rw [List.map_cons, List.map_cons, pys, pys, PyData.eqvAll, eqvAll_str a b, py, py, PyData.eqv]
    by_cases e : x = y <;> by_cases e' : a = b <;> simp [e, e']
theorem eqD_tS (a b : List Str) : eqD (tS a) (tS b) = decide (a = b) := by
  unfold eqD tS
  rw [py, py, PyData.eqv]
  exact eqvAll_str a b
theorem eqvAll_tS : ∀ a b : List (List Str), PyData.eqvAll (pys (a.map tS)) (pys (b.map tS)) = decide (a = b)
  | [], [] => by rw [List.map_nil, pys, PyData.eqvAll]; simp
  | [], y :: b => by rw [List.map_nil, List.map_cons, pys, pys, PyData.eqvAll]; simp
  | x :: a, [] => by rw [List.map_nil, List.map_cons, pys, pys, PyData.eqvAll]; simp
  | x :: a, y :: b => by
    rw [List.map_cons, List.map_cons, pys, pys, PyData.eqvAll, eqvAll_tS a b]
    have := eqD_tS x y
    unfold eqD at this
    rw [this]
    by_cases e : x = y <;> by_cases e' : a = b <;> simp [e, e']
theorem eqD_ltS (a b : List (List Str)) : eqD (.lst (a.map tS)) (.lst (b.map tS)) = decide (a = b) := by
  unfold eqD
  rw [py, py, PyData.eqv]
  exact eqvAll_tS a b
theorem eqD_ttS (a b : List (List Str)) : eqD (.tup (a.map tS)) (.tup (b.map tS)) = decide (a = b) := by
  unfold eqD
  rw [py, py, PyData.eqv]
  exact eqvAll_tS a b
/-! data that may be compared -/
mutual
theorem lay_of : ∀ (d : D), shOk d = true → flat d = true → (py d).canLay0 = true
  | .non, _, _ => rfl
  | .bl _, _, _ => rfl
  | .int _, _, _ => rfl
  | .str x, h, _ => by
    rw [py, PyData.canLay0]
    rw [shOk] at h
    unfold PyData.strOk
    rw [← Array.all_toList]
    exact h
  | .tup xs, h, f => by
    rw [py, PyData.canLay0]
    rw [shOk] at h
    exact lays_of xs h (by simpa [flat] using f)
  | .lst xs, h, f => by
    rw [py, PyData.canLay0]
    rw [shOk] at h
    exact lays_of xs h (by simpa [flat] using f)
  | .slst xs, h, f => by
    rw [py, PyData.canLay0]
    rw [shOk] at h
    exact lays_of xs h (by simpa [flat] using f)
  | .dic _, _, f => by simp [flat] at f
  | .ref _, h, _ => by cases h
  | .ty _, h, _ => by cases h
  | .dtp _ _, h, _ => by cases h
  | .obj _ _ _, h, _ => by cases h
theorem lays_of : ∀ (xs : List D), shOks xs = true → flats xs = true → PyData.canLayAll0 (pys xs) = true
  | [], _, _ => by rw [pys]; rfl
  | x :: xs, h, f => by
    rw [shOks] at h
    have h' : shOk x = true ∧ shOks xs = true := by simpa using h
    have f' : flat x = true ∧ flats xs = true := by simpa [flats] using f
    rw [pys, PyData.canLayAll0, lay_of x h'.1 f'.1, lays_of xs h'.2 f'.2]
    rfl
end
mutual
theorem dep_of : ∀ (d : D), shOk d = true → flat d = true → (py d).depth = dep d
  | .non, _, _ => rfl
  | .bl _, _, _ => rfl
  | .int _, _, _ => rfl
  | .str x, _, _ => rfl
  | .tup xs, h, f => by
    rw [py, PyData.depth, dep, deps_of xs (by rw [shOk] at h; exact h) (by simpa [flat] using f)]
  | .lst xs, h, f => by
    rw [py, PyData.depth, dep, deps_of xs (by rw [shOk] at h; exact h) (by simpa [flat] using f)]
  | .slst xs, h, f => by
    rw [py, PyData.depth, dep, deps_of xs (by rw [shOk] at h; exact h) (by simpa [flat] using f)]
  | .dic _, _, f => by simp [flat] at f
  | .ref _, h, _ => by cases h
  | .ty _, h, _ => by cases h
  | .dtp _ _, h, _ => by cases h
  | .obj _ _ _, h, _ => by cases h
theorem deps_of : ∀ (xs : List D), shOks xs = true → flats xs = true → PyData.depthAll (pys xs) = deps xs
  | [], _, _ => by rw [pys]; rfl
  | x :: xs, h, f => by
    rw [shOks] at h
    have h' : shOk x = true ∧ shOks xs = true := by simpa using h
    have f' : flat x = true ∧ flats xs = true := by simpa [flats] using f
    rw [pys, PyData.depthAll, deps, dep_of x h'.1 f'.1, deps_of xs h'.2 f'.2]
end
theorem Itm.ok {c k : Nat} {d : D} (h : Itm c k d) (hk : k ≤ 64) (f : flat d = true) : okD d = true := by
  unfold okD SeqAt.shaped
  rw [f, lay_of d h.sh f, dep_of d h.sh f, decide_eq_true (Nat.le_trans h.dp hk)]
  rfl
theorem flats_str : ∀ a : List Str, flats (a.map .str) = true
  | [] => rfl
  | x :: a => by rw [List.map_cons, flats, flats_str a]; rfl
theorem flats_tS : ∀ a : List (List Str), flats (a.map tS) = true
  | [] => rfl
  | x :: a => by
    rw [List.map_cons, flats, flats_tS a]
    have : flat (tS x) = true := by unfold tS; rw [flat]; exact flats_str x
    rw [this]
    rfl
/-- a row of texts, of a size -/
structure Wd (n k : Nat) (w : List Str) : Prop where
  len : w.length ≤ n
  all : ∀ x ∈ w, sOk x ∧ x.length ≤ k
theorem Wd.itl {n k : Nat} {w : List Str} (h : Wd n k w) : Itl (n * (10 * k + 6)) 0 (w.map .str) := by
  refine Itl.all (c := 10 * k + 4) (fun d hd => ?_) (by rw [List.length_map]; exact h.len)
  obtain ⟨x, hx, rfl⟩ := List.mem_map.mp hd
  obtain ⟨a, b⟩ := h.all x hx
  exact (Itm.ofStr a).mono (by omega) (Nat.le_refl _)
theorem Wd.itm {n k : Nat} {w : List Str} (h : Wd n k w) : Itm (n * (10 * k + 6) + 3) 1 (tS w) := Itm.tup h.itl
theorem Wd.ok {n k : Nat} {w : List Str} (h : Wd n k w) : okD (tS w) = true := h.itm.ok (by decide) (by unfold tS; rw [flat]; exact flats_str w)
theorem Wd.mono {n k n' k' : Nat} {w : List Str} (h : Wd n k w) (hn : n ≤ n') (hk : k ≤ k') : Wd n' k' w := ⟨Nat.le_trans h.len hn, fun x hx => ⟨(h.all x hx).1, Nat.le_trans (h.all x hx).2 hk⟩⟩
theorem Wd.sub {n k n' : Nat} {w v : List Str} (h : Wd n k w) (hs : ∀ x ∈ v, x ∈ w) (hl : v.length ≤ n') : Wd n' k v := ⟨hl, fun x hx => h.all x (hs x hx)⟩
theorem rows_itl {n k m : Nat} {a : List (List Str)} (h : ∀ w ∈ a, Wd n k w) (hl : a.length ≤ m) : Itl (m * (n * (10 * k + 6) + 5)) 1 (a.map tS) := by
  refine Itl.all (c := n * (10 * k + 6) + 3) (fun d hd => ?_) (by rw [List.length_map]; exact hl)
  obtain ⟨x, hx, rfl⟩ := List.mem_map.mp hd
  exact (h x hx).itm
theorem rows_okL {n k m : Nat} {a : List (List Str)} (h : ∀ w ∈ a, Wd n k w) (hl : a.length ≤ m) : okD (.lst (a.map tS)) = true := (Itm.lst (rows_itl h hl)).ok (by decide) (by rw [flat]; exact flats_tS a)
theorem rows_okT {n k m : Nat} {a : List (List Str)} (h : ∀ w ∈ a, Wd n k w) (hl : a.length ≤ m) : okD (.tup (a.map tS)) = true := (Itm.tup (rows_itl h hl)).ok (by decide) (by rw [flat]; exact flats_tS a)
theorem cut_map {α : Type} {f : α → D} (w : List α) (lo hi : Option Int) : cutL (w.map f) lo hi = (cutL w lo hi).map f := by
  unfold cutL
  rw [List.length_map, List.map_take, List.map_drop]
end Fx

namespace Fx
open PySem PySem.Spec PyProof.Rows
/-! comprehensions that read what may change -/
def Kept (M M' : Mp) : Prop := ∀ b o, M b = some o → M' b = some o
theorem lc_pureK {T : TId} {t : Tg} {C : TTd} {E : TEd} {vs : List Nat} {ds : Ds} {M : Mp} {F : DK} {xs : List D} (keep : D → Bool) (v : D → D) (hl : xs.length ≤ 1000000) (hT : ∀ G : List D → Mp → Prop, G xs M → T ds M G)
    (he : ∀ d ∈ xs, gD t d (wipeD ds vs) fun ds2 => ∀ M', Kept M M' → (∀ (G : Bool → Mp → Prop), G (keep d) M' → C ds2 M' G) ∧ (keep d = true → ∀ (G : DK), G (v d) M' → E ds2 M' G))
    (hF : F (.lst ((xs.filter keep).map v)) M) : lcD T t C E vs ds M F := by
  refine hT _ fun L hL => ⟨fun i acc M' => acc = ((xs.take i).filter keep).map v ∧ M' = updM M L (.lst acc), ⟨rfl, rfl⟩, fun i d acc M' hd ⟨e1, e2⟩ => ?_, fun acc M' ⟨e1, e2⟩ => ?_⟩
  · have hi : i < xs.length := (List.getElem?_eq_some_iff.mp hd).1
    have hk' : Kept M M' := fun b o hb => by
      rw [e2, updM_ne fun z => by rw [z, hL] at hb; cases hb]
      exact hb
    have hlen : acc.length < 1000000 := by
      rw [e1, List.length_map]
      have h1 := List.length_filter_le keep (xs.take i)
      have h2 : (xs.take i).length ≤ i := by rw [List.length_take]; exact Nat.min_le_left _ _
      omega
    refine ⟨hlen, gD_mono t (fun ds2 hh => (hh M' hk').1 _ ?_) (he d (List.mem_of_getElem? hd))⟩
    have et : xs.take (i + 1) = xs.take i ++ [d] := by rw [List.take_add_one, hd]; rfl
    cases hk : keep d with
    | true =>
      refine (hh M' hk').2 hk _ ⟨by rw [e2]; exact updM_same, ?_, ?_⟩
      · rw [et, List.filter_append, List.map_append, ← e1, List.filter_cons, if_pos hk]
        rfl
      · rw [e2]
        funext b
        unfold updM
        split <;> rfl
    | false =>
      refine ⟨?_, e2⟩
      rw [et, List.filter_append, List.map_append, ← e1, List.filter_cons, if_neg (by rw [hk]; decide)]
      show _ = _ ++ []
      rw [List.append_nil]
  · rw [List.take_length] at e1
    refine ⟨by rw [e2]; exact updM_same, ?_⟩
    rw [e2, delM_upd hL, e1]
    exact hF
theorem lc_mapK {T : TId} {t : Tg} {E : TEd} {vs : List Nat} {ds : Ds} {M : Mp} {F : DK} {xs : List D} (v : D → D) (hl : xs.length ≤ 1000000) (hT : ∀ G : List D → Mp → Prop, G xs M → T ds M G)
    (he : ∀ d ∈ xs, gD t d (wipeD ds vs) fun ds2 => ∀ M', Kept M M' → ∀ (G : DK), G (v d) M' → E ds2 M' G)
    (hF : F (.lst (xs.map v)) M) : lcD T t yesD E vs ds M F :=
  lc_pureK (fun _ => true) v hl hT (fun d hd => gD_mono t (fun ds2 h M' k => ⟨fun G g => g, fun _ => h M' k⟩) (he d hd)) (by
    have e : xs.filter (fun _ => true) = xs := by simp
    rw [e]
    exact hF)
/-! texts as lists of signs -/
abbrev S (l : List Nat) : Str := ⟨l.toArray⟩
theorem S_tl (x : Str) : S x.cps.toList = x := TL.mk_tl x
theorem S_len (a : List Nat) : (S a).length = a.length := by simp [S, Str.length]
theorem S_cat (a b : List Nat) : S a ++ S b = S (a ++ b) := TL.ext_tl (TL.tl_append (S a) (S b))
theorem S_eq {a b : List Nat} : S a = S b ↔ a = b := ⟨fun h => congrArg (fun x : Str => x.cps.toList) h, fun h => by rw [h]⟩
theorem S_cps (a : List Nat) : (S a).cps.toList = a := rfl
theorem cutS_S (a : List Nat) (lo hi : Option Int) : L2.cutS (S a) lo hi = S (cutL a lo hi) := by
  unfold L2.cutS cutL
  have e : (S a).length = a.length := S_len a
  rw [e]
theorem rst_S (a : List Nat) (c : Nat) : Txt.rstripChars (S a) (S [c]) = S (a.reverse.dropWhile (· == c)).reverse := by
  unfold Txt.rstripChars
  rw [stripBy_eq]
  have e0 : stripLo ((S [c]).cps.contains) false (S a) = 0 := by simp [stripLo]
  rw [e0]
  have tk : ∀ l : List Nat, l.takeWhile (fun x => (S [c]).cps.contains x) = l.takeWhile (· == c) := by
    intro l
    congr 1
    funext x
    show #[c].contains x = _
    simp [Array.contains, eq_comm]
  have e1 : stripHi ((S [c]).cps.contains) true (S a) 0 = a.length - (a.reverse.takeWhile (· == c)).length := by
    unfold stripHi
    have e := tk a.reverse
    have e' : (List.takeWhile (S [c]).cps.contains (List.drop 0 (S a).cps.toList).reverse).length = (a.reverse.takeWhile (· == c)).length := congrArg List.length e
    simp only [if_true, S_len]
    rw [e']
  rw [e1]
  have l1 : (a.reverse.takeWhile (· == c)).length + (a.reverse.dropWhile (· == c)).length = a.length := by
    rw [← List.length_append, List.takeWhile_append_dropWhile, List.length_reverse]
  have e2 : (a.reverse.dropWhile (· == c)).reverse = a.take (a.length - (a.reverse.takeWhile (· == c)).length) := by
    have : a = (a.reverse.dropWhile (· == c)).reverse ++ (a.reverse.takeWhile (· == c)).reverse := by
      rw [← List.reverse_append, List.takeWhile_append_dropWhile, List.reverse_reverse]
    generalize (a.reverse.dropWhile (· == c)).reverse = p at *
    generalize hq : a.reverse.takeWhile (· == c) = q at *
    rw [this, List.length_append, List.length_reverse, Nat.add_sub_cancel, List.take_left']
    rfl
  rw [e2]
  refine TL.ext_tl ?_
  show (Builtin.Str.strSub (S a) 0 _).cps.toList = (a.take _)
  simp [Builtin.Str.strSub]
theorem mul_S (a : List Nat) (k : Int) : Txt.mul (S a) k = S (List.replicate k.toNat a).flatten := by
  unfold Txt.mul
  by_cases h : k < 1
  · rw [if_pos h]
    have : k.toNat = 0 := by omega
    rw [this]
    rfl
  · rw [if_neg h]
    split
    · next h2 =>
      rw [Bool.or_eq_true, beq_iff_eq, beq_iff_eq] at h2
      rcases h2 with h2 | h2
      · subst h2
        simp
      · rw [S_len] at h2
        have : a = [] := List.length_eq_zero_iff.mp h2
        subst this
        simp
    · refine TL.ext_tl ?_
      have key : ∀ (n : Nat) (acc : Array Nat), ((List.replicate n (S a).cps).foldl (· ++ ·) acc).toList = acc.toList ++ (List.replicate n a).flatten := by
        intro n
        induction n with
        | zero => intro acc; simp
        | succ n ih =>
          intro acc
          rw [List.replicate_succ, List.foldl_cons, ih, List.replicate_succ, List.flatten_cons]
          simp
      show ((List.replicate k.toNat (S a).cps).foldl (· ++ ·) #[]).toList = _
      rw [key]
      rfl
theorem revS_S (a : List Nat) : revS (S a) = S a.reverse := rfl
theorem ix_S {a : List Nat} {c : Nat} {K : Nat → Prop} (h : c ∈ a) (k : K (a.takeWhile (· != c)).length) : eIx (Builtin.Str.occurrences (S a) (S [c]) 0 (S a).length 1) K := by
  rcases StrLaws.occ_head (S a) (S [c]) 1 (Nat.le_refl _) with ⟨_, h2⟩ | ⟨i, r, h1, h2, h3⟩
  · obtain ⟨j, hj⟩ := List.mem_iff_getElem?.mp h
    exact absurd ((StrLaws.subAt_one (S a) c j).mpr hj) (h2 j)
  · rw [h1]
    show K i
    have e : (a.takeWhile (· != c)).length = i := by
      have hi : a[i]? = some c := (StrLaws.subAt_one (S a) c i).mp h2
      have hb : ∀ k, k < i → a[k]? ≠ some c := fun k hk z => h3 k hk ((StrLaws.subAt_one (S a) c k).mpr z)
      clear h1 h2 h3 k
      induction a generalizing i with
      | nil => simp at hi
      | cons x a ih =>
        by_cases e : x = c
        · subst e
          cases i with
          | zero => simp
          | succ i => exact absurd rfl (hb 0 (by omega))
        · cases i with
          | zero => simp at hi; exact absurd hi e
          | succ i =>
            rw [List.takeWhile_cons, if_pos (by simpa using e), List.length_cons, ih (i := i)]
            · rcases List.mem_cons.mp h with q | q
              · exact absurd q.symm e
              · exact q
            · simpa using hi
            · intro k hk
              have := hb (k + 1) (by omega)
              simpa using this
    rw [← e]
    exact k
theorem spl_S {a : List Nat} {c : Nat} (hc : c < 256) : Txt.split (S a) (S [c]) = (TL.spl [c] 0 [] a).map S := SX.split_S (by simp) (by simp [hc])
end Fx

namespace K01
open PySem PySem.Spec PyProof.Rows L2 Fx
def T_l_hand : TSd := (seqD (parD 1 2 (consD (bltD listR (consD (sliD (vD 0) noO (someO (cD (.int 63)))) nilD)) (consD (cD (.int 98501)) nilD))) (seqD (forD (seqI (vD 1)) (.nm 3) (asgD (opD modR (opD addR2 (opD addR2 (opD mulR2 (vD 2) (cD (.int 40014))) (opD modR (vD 3) (cD (.int 2147483549)))) (cD (.int 17))) (cD (.int 2147483563))) (.nm 2))) (retD (dispD true ["cells", "mixed", "draws"] (consD (revM (vD 1)) (consD (vD 2) (consD (cD (.int 0)) nilD)))))))
def T_l_draw : TSd := (seqD (putS (vD 0) (cD (.str "draws")) (opD addR2 (opD ixR (vD 0) (cD (.str "draws"))) (cD (.int 1)))) (seqD (asgD (opD addR2 (opD ixR (vD 0) (cD (.str "mixed"))) (opD mulR2 (cD (.int 70001)) (opD ixR (vD 0) (cD (.str "draws"))))) (.nm 2)) (seqD (ifS (tstD (opD neR (opD ixR (vD 0) (cD (.str "cells"))) (lstD nilD))) (seqD (asgD (bm0D isLst popR (opD ixR (vD 0) (cD (.str "cells")))) (.nm 3)) (seqD (ifS (tstD (opD (ltR fun i j => decide (j ≤ i)) (vD 3) (opD powR (cD (.int 10)) (cD (.int 18))))) (seqD (dropD (bmD isLst appR (opD ixR (vD 0) (cD (.str "cells"))) (consD (opD fdivR (vD 3) (vD 1)) nilD))) (retD (opD modR (vD 3) (vD 1)))) nextD) (asgD (opD addR2 (vD 2) (vD 3)) (.nm 2)))) nextD) (seqD (asgD (opD modR (opD mulR2 (opD modR (vD 2) (cD (.int 2147483549))) (cD (.int 40692))) (cD (.int 2147483399))) (.nm 2)) (seqD (asgD (opD modR (opD addR2 (opD addR2 (opD mulR2 (vD 2) (vD 2)) (opD mulR2 (cD (.int 60013)) (opD ixR (vD 0) (cD (.str "draws"))))) (cD (.int 5))) (cD (.int 2147483563))) (.nm 2)) (retD (opD modR (opD fdivR (opD modR (opD mulR2 (vD 2) (cD (.int 39373))) (cD (.int 2147483549))) (cD (.int 32))) (vD 1))))))))
def T_l_with_one : TSd := (seqD (asgD (lstD (consD (tupD (consD (mkA "BadLibrary" ["part"] (consD (vD 0) nilD)) (consD (fldD "BadLibrary" "part" (mkA "BadLibrary" ["part"] (consD (vD 0) nilD))) nilD))) (consD (tupD (consD (mkK "BadLibrary" ["part"] 1 [0] (consD (vD 0) nilD)) (consD (fldD "BadLibrary" "part" (mkK "BadLibrary" ["part"] 1 [0] (consD (vD 0) nilD))) nilD))) nilD))) (.nm 1)) (seqD (asgD (opD addR2 (vD 1) (lstD (consD (tupD (consD (mkA "BadGoal" ["part"] (consD (vD 0) nilD)) (consD (fldD "BadGoal" "part" (mkA "BadGoal" ["part"] (consD (vD 0) nilD))) nilD))) (consD (tupD (consD (mkK "BadGoal" ["part"] 1 [0] (consD (vD 0) nilD)) (consD (fldD "BadGoal" "part" (mkK "BadGoal" ["part"] 1 [0] (consD (vD 0) nilD))) nilD))) nilD)))) (.nm 1)) (seqD (asgD (opD addR2 (vD 1) (lstD (consD (tupD (consD (mkA "BadToken" ["token"] (consD (vD 0) nilD)) (consD (fldD "BadToken" "token" (mkA "BadToken" ["token"] (consD (vD 0) nilD))) nilD))) (consD (tupD (consD (mkK "BadToken" ["token"] 1 [0] (consD (vD 0) nilD)) (consD (fldD "BadToken" "token" (mkK "BadToken" ["token"] 1 [0] (consD (vD 0) nilD))) nilD))) nilD)))) (.nm 1)) (seqD (asgD (opD addR2 (vD 1) (lstD (consD (tupD (consD (mkA "NotBuildable" ["kind"] (consD (vD 0) nilD)) (consD (fldD "NotBuildable" "kind" (mkA "NotBuildable" ["kind"] (consD (vD 0) nilD))) nilD))) (consD (tupD (consD (mkK "NotBuildable" ["kind"] 1 [0] (consD (vD 0) nilD)) (consD (fldD "NotBuildable" "kind" (mkK "NotBuildable" ["kind"] 1 [0] (consD (vD 0) nilD))) nilD))) nilD)))) (.nm 1)) (seqD (asgD (opD addR2 (vD 1) (lstD (consD (tupD (consD (mkA "NotUndeclared" ["name"] (consD (vD 0) nilD)) (consD (fldD "NotUndeclared" "name" (mkA "NotUndeclared" ["name"] (consD (vD 0) nilD))) nilD))) nilD))) (.nm 1)) (seqD (asgD (opD addR2 (vD 1) (lstD (consD (tupD (consD (mkK "NotUndeclared" ["name"] 1 [0] (consD (vD 0) nilD)) (consD (fldD "NotUndeclared" "name" (mkK "NotUndeclared" ["name"] 1 [0] (consD (vD 0) nilD))) nilD))) nilD))) (.nm 1)) (seqD (asgD (opD addR2 (vD 1) (lstD (consD (tupD (consD (mkA "TooLong" ["length"] (consD (vD 0) nilD)) (consD (fldD "TooLong" "length" (mkA "TooLong" ["length"] (consD (vD 0) nilD))) nilD))) (consD (tupD (consD (mkK "TooLong" ["length"] 1 [0] (consD (vD 0) nilD)) (consD (fldD "TooLong" "length" (mkK "TooLong" ["length"] 1 [0] (consD (vD 0) nilD))) nilD))) nilD)))) (.nm 1)) (seqD (asgD (opD addR2 (vD 1) (lstD (consD (tupD (consD (mkA "Stuck" ["index"] (consD (vD 0) nilD)) (consD (fldD "Stuck" "index" (mkA "Stuck" ["index"] (consD (vD 0) nilD))) nilD))) (consD (tupD (consD (mkK "Stuck" ["index"] 1 [0] (consD (vD 0) nilD)) (consD (fldD "Stuck" "index" (mkK "Stuck" ["index"] 1 [0] (consD (vD 0) nilD))) nilD))) nilD)))) (.nm 1)) (seqD (asgD (opD addR2 (vD 1) (lstD (consD (tupD (consD (mkA "NoName" ["name"] (consD (vD 0) nilD)) (consD (fldD "NoName" "name" (mkA "NoName" ["name"] (consD (vD 0) nilD))) nilD))) (consD (tupD (consD (mkK "NoName" ["name"] 1 [0] (consD (vD 0) nilD)) (consD (fldD "NoName" "name" (mkK "NoName" ["name"] 1 [0] (consD (vD 0) nilD))) nilD))) nilD)))) (.nm 1)) (seqD (asgD (opD addR2 (vD 1) (lstD (consD (tupD (consD (mkA "InvalidText" ["place"] (consD (vD 0) nilD)) (consD (fldD "InvalidText" "place" (mkA "InvalidText" ["place"] (consD (vD 0) nilD))) nilD))) (consD (tupD (consD (mkK "InvalidText" ["place"] 1 [0] (consD (vD 0) nilD)) (consD (fldD "InvalidText" "place" (mkK "InvalidText" ["place"] 1 [0] (consD (vD 0) nilD))) nilD))) nilD)))) (.nm 1)) (seqD (asgD (opD addR2 (vD 1) (lstD (consD (tupD (consD (mkA "InvalidCommand" ["line"] (consD (vD 0) nilD)) (consD (fldD "InvalidCommand" "line" (mkA "InvalidCommand" ["line"] (consD (vD 0) nilD))) nilD))) nilD))) (.nm 1)) (retD (opD addR2 (vD 1) (lstD (consD (tupD (consD (mkK "InvalidCommand" ["line"] 1 [0] (consD (vD 0) nilD)) (consD (fldD "InvalidCommand" "line" (mkK "InvalidCommand" ["line"] 1 [0] (consD (vD 0) nilD))) nilD))) nilD)))))))))))))))
def T_l_places : TSd := (seqD (asgD (lstD (consD (isVD ["GapError", "BadLibrary", "Clash", "BadGoal", "BadToken", "NotBuildable", "NotOpen", "NotUndeclared", "TooLong", "Stuck", "NothingThere", "NoName", "InvalidText", "InvalidCommand", "NoGoal"] "BadLibrary" (vD 0)) (consD (isVD ["GapError", "BadLibrary", "Clash", "BadGoal", "BadToken", "NotBuildable", "NotOpen", "NotUndeclared", "TooLong", "Stuck", "NothingThere", "NoName", "InvalidText", "InvalidCommand", "NoGoal"] "BadGoal" (vD 0)) (consD (isVD ["GapError", "BadLibrary", "Clash", "BadGoal", "BadToken", "NotBuildable", "NotOpen", "NotUndeclared", "TooLong", "Stuck", "NothingThere", "NoName", "InvalidText", "InvalidCommand", "NoGoal"] "BadToken" (vD 0)) nilD)))) (.nm 1)) (seqD (asgD (opD addR2 (vD 1) (lstD (consD (isVD ["GapError", "BadLibrary", "Clash", "BadGoal", "BadToken", "NotBuildable", "NotOpen", "NotUndeclared", "TooLong", "Stuck", "NothingThere", "NoName", "InvalidText", "InvalidCommand", "NoGoal"] "NotBuildable" (vD 0)) (consD (isVD ["GapError", "BadLibrary", "Clash", "BadGoal", "BadToken", "NotBuildable", "NotOpen", "NotUndeclared", "TooLong", "Stuck", "NothingThere", "NoName", "InvalidText", "InvalidCommand", "NoGoal"] "NotUndeclared" (vD 0)) (consD (isVD ["GapError", "BadLibrary", "Clash", "BadGoal", "BadToken", "NotBuildable", "NotOpen", "NotUndeclared", "TooLong", "Stuck", "NothingThere", "NoName", "InvalidText", "InvalidCommand", "NoGoal"] "TooLong" (vD 0)) nilD))))) (.nm 1)) (seqD (asgD (opD addR2 (vD 1) (lstD (consD (isVD ["GapError", "BadLibrary", "Clash", "BadGoal", "BadToken", "NotBuildable", "NotOpen", "NotUndeclared", "TooLong", "Stuck", "NothingThere", "NoName", "InvalidText", "InvalidCommand", "NoGoal"] "Stuck" (vD 0)) (consD (isVD ["GapError", "BadLibrary", "Clash", "BadGoal", "BadToken", "NotBuildable", "NotOpen", "NotUndeclared", "TooLong", "Stuck", "NothingThere", "NoName", "InvalidText", "InvalidCommand", "NoGoal"] "NoName" (vD 0)) (consD (isVD ["GapError", "BadLibrary", "Clash", "BadGoal", "BadToken", "NotBuildable", "NotOpen", "NotUndeclared", "TooLong", "Stuck", "NothingThere", "NoName", "InvalidText", "InvalidCommand", "NoGoal"] "InvalidText" (vD 0)) nilD))))) (.nm 1)) (seqD (asgD (opD addR2 (vD 1) (lstD (consD (isVD ["GapError", "BadLibrary", "Clash", "BadGoal", "BadToken", "NotBuildable", "NotOpen", "NotUndeclared", "TooLong", "Stuck", "NothingThere", "NoName", "InvalidText", "InvalidCommand", "NoGoal"] "InvalidCommand" (vD 0)) (consD (isVD ["GapError", "BadLibrary", "Clash", "BadGoal", "BadToken", "NotBuildable", "NotOpen", "NotUndeclared", "TooLong", "Stuck", "NothingThere", "NoName", "InvalidText", "InvalidCommand", "NoGoal"] "Clash" (vD 0)) (consD (isVD ["GapError", "BadLibrary", "Clash", "BadGoal", "BadToken", "NotBuildable", "NotOpen", "NotUndeclared", "TooLong", "Stuck", "NothingThere", "NoName", "InvalidText", "InvalidCommand", "NoGoal"] "NotOpen" (vD 0)) nilD))))) (.nm 1)) (seqD (asgD (opD addR2 (vD 1) (lstD (consD (isVD ["GapError", "BadLibrary", "Clash", "BadGoal", "BadToken", "NotBuildable", "NotOpen", "NotUndeclared", "TooLong", "Stuck", "NothingThere", "NoName", "InvalidText", "InvalidCommand", "NoGoal"] "NothingThere" (vD 0)) (consD (isVD ["GapError", "BadLibrary", "Clash", "BadGoal", "BadToken", "NotBuildable", "NotOpen", "NotUndeclared", "TooLong", "Stuck", "NothingThere", "NoName", "InvalidText", "InvalidCommand", "NoGoal"] "NoGoal" (vD 0)) nilD)))) (.nm 1)) (retD (lcD (enumI (consD (vD 1) nilD)) (.tp [(.nm 2), (.nm 3)]) (tstD (vD 3)) (vD 2) [2, 3])))))))
def T_l_value (R_l_draw : RD) : TSd := (seqD (asgD (lstD (consD (cD .non) (consD (cD (.bl true)) (consD (cD (.bl false)) (consD (cD (.int 0)) (consD (negD (cD (.int 1))) (consD (opD powR (cD (.int 10)) (cD (.int 39))) (consD (cD (.str "")) (consD (cD (.str "let")) (consD (cD (.str "x y")) (consD (tupD nilD) (consD (tupD (consD (cD (.str "num")) nilD)) (consD (tupD (consD (tupD (consD (cD (.str "list")) (consD (cD (.str "T")) nilD))) (consD (cD (.int 3)) nilD))) (consD (lstD nilD) (consD (lstD (consD (cD (.str "a")) (consD (lstD (consD (cD (.int 1)) nilD)) nilD))) (consD (cD (.dic [])) nilD)))))))))))))))) (.nm 2)) (seqD (asgD (opD addR2 (vD 2) (lstD (consD (dispD false ["a"] (consD (tupD (consD (cD (.int 1)) nilD)) nilD)) (consD (cD (.str "\n")) (consD (bltD tupleR (consD (lcD (seqI (sliD (vD 1) noO (someO (cD (.int 3))))) (.nm 3) yesD (opD modR (vD 3) (opD powR (cD (.int 10)) (cD (.int 30)))) [3]) nilD)) (consD (cD (.str "T")) nilD)))))) (.nm 2)) (retD (opD ixR (vD 2) (callD R_l_draw (consD (vD 0) (consD (bltD lenR (consD (vD 2) nilD)) nilD)))))))
def T_l_is_alone (R_l_places : RD) : TSd := (seqD (ifS (orT (notT (tstD (isVD ["GapError", "BadLibrary", "Clash", "BadGoal", "BadToken", "NotBuildable", "NotOpen", "NotUndeclared", "TooLong", "Stuck", "NothingThere", "NoName", "InvalidText", "InvalidCommand", "NoGoal"] "GapError" (vD 0)))) (orT (notT (tstD (isVD ["GapError", "BadLibrary", "Clash", "BadGoal", "BadToken", "NotBuildable", "NotOpen", "NotUndeclared", "TooLong", "Stuck", "NothingThere", "NoName", "InvalidText", "InvalidCommand", "NoGoal"] "Exception" (vD 0)))) (tstD (opD neR (callD R_l_places (consD (vD 0) nilD)) (vD 1))))) (retD (cD (.bl false))) nextD) (retD (notV (isUD ["GapError", "BadLibrary", "Clash", "BadGoal", "BadToken", "NotBuildable", "NotOpen", "NotUndeclared", "TooLong", "Stuck", "NothingThere", "NoName", "InvalidText", "InvalidCommand", "NoGoal"] (vD 0)))))
def T_l_right (R_l_is_alone : RD) (R_l_with_one : RD) : TSd := (seqD (asgD (bltD reprR (consD (lstD (consD (vD 0) (consD (vD 1) nilD))) nilD)) (.nm 2)) (seqD (forD (enumI (consD (callD R_l_with_one (consD (vD 0) nilD)) nilD)) (.tp [(.nm 3), (.tp [(.nm 4), (.nm 5)])]) (ifS (orT (notT (tstD (callD R_l_is_alone (consD (vD 4) (consD (lstD (consD (opD fdivR (vD 3) (cD (.int 2))) nilD)) nilD))))) (tstD (opD neR (bltD reprR (consD (vD 5) nilD)) (bltD reprR (consD (vD 0) nilD))))) (retD (cD (.bl false))) nextD)) (seqD (forD (seqI (lstD (consD (mkA "Clash" ["one", "other"] (consD (vD 0) (consD (vD 1) nilD))) (consD (mkK "Clash" ["one", "other"] 2 [0, 1] (consD (vD 0) (consD (vD 1) nilD))) (consD (mkK "Clash" ["one", "other"] 2 [1, 0] (consD (vD 1) (consD (vD 0) nilD))) nilD))))) (.nm 4) (ifS (orT (notT (tstD (callD R_l_is_alone (consD (vD 4) (consD (lstD (consD (cD (.int 10)) nilD)) nilD))))) (tstD (opD neR (bltD reprR (consD (lstD (consD (fldD "Clash" "one" (vD 4)) (consD (fldD "Clash" "other" (vD 4)) nilD))) nilD)) (bltD reprR (consD (lstD (consD (vD 0) (consD (vD 1) nilD))) nilD))))) (retD (cD (.bl false))) nextD)) (seqD (forD (enumI (consD (lstD (consD (mk0 "NotOpen") (consD (mk0 "NothingThere") (consD (mk0 "NoGoal") nilD)))) nilD)) (.tp [(.nm 3), (.nm 4)]) (ifS (notT (tstD (callD R_l_is_alone (consD (vD 4) (consD (lstD (consD (opD addR2 (cD (.int 11)) (vD 3)) nilD)) nilD))))) (retD (cD (.bl false))) nextD)) (retD (andV (callD R_l_is_alone (consD (mk0 "GapError") (consD (lstD nilD) nilD))) (opD eqR (bltD reprR (consD (lstD (consD (vD 0) (consD (vD 1) nilD))) nilD)) (vD 2))))))))
def T_law (R_l_right : RD) (R_l_value : RD) (R_l_hand : RD) : TSd := (seqD (asgD (callD R_l_hand (consD (vD 0) nilD)) (.nm 1)) (seqD (forD (rngI (consD (cD (.int 6)) nilD)) (.nm 2) (ifS (notT (tstD (callD R_l_right (consD (callD R_l_value (consD (vD 1) (consD (vD 0) nilD))) (consD (callD R_l_value (consD (vD 1) (consD (vD 0) nilD))) nilD))))) (retD (cD (.bl false))) nextD)) (retD (cD (.bl true)))))
end K01

namespace K01
open PySem L2 Fx
theorem rd_l_draw : ∀ ds M F, R_draw ds M F → T_l_draw { nx := fun _ M' => F .non M', rt := F } (startD 4 ds) M := by
  intro ds M F h
  unfold R_draw at h
  split at h
  · next h' many =>
    obtain ⟨c, hd, h0, h1, hF⟩ := h
    have ne := hd.ne
    obtain ⟨cells, m, n, e1, e2, m0, m1, n0, cl⟩ := hd
    have fin : ∀ (x : Int) (cs : List Int) (M' : Mp), M' h' = some (.dic [(.inr "cells", .ref c), (.inr "mixed", .int m), (.inr "draws", .int (n + 1))]) → M' c = some (.lst (cs.map D.int)) → cs.length ≤ 63 → Oth h' c M M' → F (.int (x % many)) M' := fun x cs M' a1 a2 a3 o =>
      hF _ _ (Int.emod_nonneg _ (by omega)) (Int.emod_lt_of_pos _ h0) ⟨cs, m, n + 1, a1, a2, m0, m1, by omega, a3⟩ o
    simp only [T_l_draw, q_v, q_c, q_tup, q_lst, q_op, q_nil, q_cons, q_tst, q_tru, q_andT, q_orT, q_notT, q_andV, q_orV, q_notV, q_ifE, q_next, q_seq, q_asg, q_drop, q_ret, q_retN, q_ifS, q_par, q_isi, q_blt, q_call, q_callK, q_kid, q_kswap, q_chain, q_neg, q_isN, q_notN, q_noO, q_someO, q_sli, q_rev, q_revM, q_bm, q_bm0, q_m1, q_seqI, q_rng, q_rng2, q_enum, q_zip, q_gnm, q_gtp, q_gs0, q_gs1, q_yes, q_put, e_bl, e_int, e_str, e_lst, e_n_non, e_n_bl, e_n_int, e_n_str, e_n_tup, e_n_lst, e_n_slst, e_n_dic, e_n_ref, e_seq_l, e_seq_s, e_seq_t, e_seq_z, e_rev_l, e_rev_s, e_i1, e_i2, e_l1, e_l1s, e_l2, e_p2, e_sl, e_o, e_ob, e_on, e_ml, e_md, e_c, e_tru_b, e_tru_n, e_tru_i, e_tru_t, e_tru_l, t_str_non, t_tup_non, t_int_non, t_bool_non, t_lst_non, t_dict_non, t_str_bl, t_tup_bl, t_int_bl, t_bool_bl, t_lst_bl, t_dict_bl, t_str_int, t_tup_int, t_int_int, t_bool_int, t_lst_int, t_dict_int, t_str_str, t_tup_str, t_int_str, t_bool_str, t_lst_str, t_dict_str, t_str_tup, t_tup_tup, t_int_tup, t_bool_tup, t_lst_tup, t_dict_tup, t_str_lst, t_tup_lst, t_int_lst, t_bool_lst, t_lst_lst, t_dict_lst, t_str_dic, t_tup_dic, t_int_dic, t_bool_dic, t_lst_dic, t_dict_dic, r_add_i, r_add_s, r_add_t, r_add_l, r_sub, r_mul, r_mul_l, r_fdiv, r_mod, r_pow, r_lt, r_ix_l, r_ix_t, r_ix_s, r_ix_rl, r_ix_rd, r_sl_l, r_sl_sl, r_sl_t, r_sl_s, r_len_l, r_len_sl, r_len_t, r_len_s, r_len_r, r_all, r_any, r_tuple_l, r_tuple_sl, r_tuple_t, r_tuple_r, r_list_l, r_list_sl, r_list_t, r_list_r, r_ord, r_repr, r_pop, r_app, r_ext, r_join, r_join_t, r_isl_r, r_isl_l, r_in, r_put_d, r_put_l, r_eq_i, r_eq_s, r_ne_i, r_ne_s, r_eq_t0, r_ne_t0, r_eq_r0, r_ne_r0, r_eq_l0, r_ne_l0, q_lstM, q_frz, e_fz_r, e_fz_non, e_fz_bl, e_fz_int, e_fz_str, e_fz_tup, e_fz_lst, e_fz_dic, q_drp, q_zs, e_zs_tup_tup, e_zs_tup_lst, e_zs_tup_slst, e_zs_lst_tup, e_zs_lst_lst, e_zs_lst_slst, e_zs_slst_tup, e_zs_slst_lst, e_zs_slst_slst, r_mem_s, r_mem_t, r_mem_l, r_int_i, r_int_b, r_listM_l, r_listM_sl, r_listM_t, r_start, wipeD, br_not, br_true, br_false, br_dec, List.map_cons, List.map_nil, List.length_cons, List.length_nil, List.replicate_succ, List.replicate_zero, List.cons_append, List.nil_append, List.getElem?_cons_zero, List.getElem?_cons_succ, List.getElem?_nil, List.set_cons_zero, List.set_cons_succ, Nat.reduceAdd, Nat.reduceSub, Nat.reduceLeDiff, Nat.zero_add, updM_same, true_and, List.isEmpty_nil, List.isEmpty_cons, Bool.not_true, Bool.not_false, Bool.not_not, q_revA, e_ra_l, e_ra_s, e_ra_t, e_ra_z, q_star, e_st_l, e_st_s, e_st_t, q_par3, e_p3, q_cont, r_mul2_i, r_mul2_l, r_mul2_s, r_le2_i, r_le2_s, r_lt2_i, r_lt2_s, r_sum, r_max2, r_min2, r_rst, r_spl, r_six, q_callX, q_callKX, q_raise, e_d1, q_try, q_tryW, q_xf, q_isX, e_cau, r_add2_i, r_add2_s, r_add2_t, r_add2_l, r_add2_rl, r_add2_lr, q_sliM, r_slM, q_kdef, q_mix21, q_mix03, q_mkA, q_mkK, q_mk0, e_err, q_fld, q_isV, q_isU, q_m01, q_m02, q_m02s, e1, val_draws, put_draws, val_mixed, val_cells, updM_ne (Ne.symm ne), e2]
    refine ⟨by decide, .inl (by decide), ?_⟩
    rcases List.eq_nil_or_concat cells with rfl | ⟨cs, x, rfl⟩
    · simp only [List.map_nil, List.isEmpty_nil, Bool.not_true, br_false]
      repeat (refine ⟨by omega, ?_⟩)
      exact fin _ [] _ updM_same ((updM_ne (Ne.symm ne)).trans e2) (by decide) fun b hb _ => updM_ne hb
    · have cl' : cs.length + 1 ≤ 63 := by simpa using cl
      have t1 : ((cs.concat x).map D.int).isEmpty = false := by simp
      have t2 : ((cs.concat x).map D.int).getLast? = some (.int x) := by simp
      have t3 : ((cs.concat x).map D.int).dropLast = cs.map D.int := by simp
      simp only [t1, t2, t3, Bool.not_false, q_v, q_c, q_tup, q_lst, q_op, q_nil, q_cons, q_tst, q_tru, q_andT, q_orT, q_notT, q_andV, q_orV, q_notV, q_ifE, q_next, q_seq, q_asg, q_drop, q_ret, q_retN, q_ifS, q_par, q_isi, q_blt, q_call, q_callK, q_kid, q_kswap, q_chain, q_neg, q_isN, q_notN, q_noO, q_someO, q_sli, q_rev, q_revM, q_bm, q_bm0, q_m1, q_seqI, q_rng, q_rng2, q_enum, q_zip, q_gnm, q_gtp, q_gs0, q_gs1, q_yes, q_put, e_bl, e_int, e_str, e_lst, e_n_non, e_n_bl, e_n_int, e_n_str, e_n_tup, e_n_lst, e_n_slst, e_n_dic, e_n_ref, e_seq_l, e_seq_s, e_seq_t, e_seq_z, e_rev_l, e_rev_s, e_i1, e_i2, e_l1, e_l1s, e_l2, e_p2, e_sl, e_o, e_ob, e_on, e_ml, e_md, e_c, e_tru_b, e_tru_n, e_tru_i, e_tru_t, e_tru_l, t_str_non, t_tup_non, t_int_non, t_bool_non, t_lst_non, t_dict_non, t_str_bl, t_tup_bl, t_int_bl, t_bool_bl, t_lst_bl, t_dict_bl, t_str_int, t_tup_int, t_int_int, t_bool_int, t_lst_int, t_dict_int, t_str_str, t_tup_str, t_int_str, t_bool_str, t_lst_str, t_dict_str, t_str_tup, t_tup_tup, t_int_tup, t_bool_tup, t_lst_tup, t_dict_tup, t_str_lst, t_tup_lst, t_int_lst, t_bool_lst, t_lst_lst, t_dict_lst, t_str_dic, t_tup_dic, t_int_dic, t_bool_dic, t_lst_dic, t_dict_dic, r_add_i, r_add_s, r_add_t, r_add_l, r_sub, r_mul, r_mul_l, r_fdiv, r_mod, r_pow, r_lt, r_ix_l, r_ix_t, r_ix_s, r_ix_rl, r_ix_rd, r_sl_l, r_sl_sl, r_sl_t, r_sl_s, r_len_l, r_len_sl, r_len_t, r_len_s, r_len_r, r_all, r_any, r_tuple_l, r_tuple_sl, r_tuple_t, r_tuple_r, r_list_l, r_list_sl, r_list_t, r_list_r, r_ord, r_repr, r_pop, r_app, r_ext, r_join, r_join_t, r_isl_r, r_isl_l, r_in, r_put_d, r_put_l, r_eq_i, r_eq_s, r_ne_i, r_ne_s, r_eq_t0, r_ne_t0, r_eq_r0, r_ne_r0, r_eq_l0, r_ne_l0, q_lstM, q_frz, e_fz_r, e_fz_non, e_fz_bl, e_fz_int, e_fz_str, e_fz_tup, e_fz_lst, e_fz_dic, q_drp, q_zs, e_zs_tup_tup, e_zs_tup_lst, e_zs_tup_slst, e_zs_lst_tup, e_zs_lst_lst, e_zs_lst_slst, e_zs_slst_tup, e_zs_slst_lst, e_zs_slst_slst, r_mem_s, r_mem_t, r_mem_l, r_int_i, r_int_b, r_listM_l, r_listM_sl, r_listM_t, r_start, wipeD, br_not, br_true, br_false, br_dec, List.map_cons, List.map_nil, List.length_cons, List.length_nil, List.replicate_succ, List.replicate_zero, List.cons_append, List.nil_append, List.getElem?_cons_zero, List.getElem?_cons_succ, List.getElem?_nil, List.set_cons_zero, List.set_cons_succ, Nat.reduceAdd, Nat.reduceSub, Nat.reduceLeDiff, Nat.zero_add, updM_same, true_and, List.isEmpty_nil, List.isEmpty_cons, Bool.not_true, Bool.not_false, Bool.not_not, q_revA, e_ra_l, e_ra_s, e_ra_t, e_ra_z, q_star, e_st_l, e_st_s, e_st_t, q_par3, e_p3, q_cont, r_mul2_i, r_mul2_l, r_mul2_s, r_le2_i, r_le2_s, r_lt2_i, r_lt2_s, r_sum, r_max2, r_min2, r_rst, r_spl, r_six, q_callX, q_callKX, q_raise, e_d1, q_try, q_tryW, q_xf, q_isX, e_cau, r_add2_i, r_add2_s, r_add2_t, r_add2_l, r_add2_rl, r_add2_lr, q_sliM, r_slM, q_kdef, q_mix21, q_mix03, q_mkA, q_mkK, q_mk0, e_err, q_fld, q_isV, q_isU, q_m01, q_m02, q_m02s, updM_ne ne, val_cells, val_draws]
      refine ⟨by decide, fun _ => ?_, fun _ => ?_⟩
      · refine ⟨⟨h0, h1⟩, by rw [List.length_map]; omega, h0, ?_⟩
        refine fin _ (cs ++ [x / many]) _ ?_ ?_ (by rw [List.length_append, List.length_cons, List.length_nil]; omega) fun b hb hc => ?_
        · rw [updM_ne ne, updM_ne ne, updM_same]
        · rw [updM_same, List.map_append]
          rfl
        · rw [updM_ne hc, updM_ne hc, updM_ne hb]
      · repeat (refine ⟨by omega, ?_⟩)
        refine fin _ cs _ ?_ updM_same (by omega) fun b hb hc => ?_
        · rw [updM_ne ne, updM_same]
        · rw [updM_ne hc, updM_ne hb]
  · exact h.elim
theorem rd_l_hand : ∀ ds M F, R_hand ds M F → T_l_hand { nx := fun _ M' => F .non M', rt := F } (startD 4 ds) M := by
  intro ds M F h
  unfold R_hand at h
  split at h
  · next xs =>
    obtain ⟨ns, rfl, hl, hF⟩ := h
    have ec : cutL (ns.map D.int) none (some 63) = ns.map D.int := cut_all rfl (by
      show min 63 _ = _
      rw [List.length_map]
      omega)
    simp only [T_l_hand, q_v, q_c, q_tup, q_lst, q_op, q_nil, q_cons, q_tst, q_tru, q_andT, q_orT, q_notT, q_andV, q_orV, q_notV, q_ifE, q_next, q_seq, q_asg, q_drop, q_ret, q_retN, q_ifS, q_par, q_isi, q_blt, q_call, q_callK, q_kid, q_kswap, q_chain, q_neg, q_isN, q_notN, q_noO, q_someO, q_sli, q_rev, q_revM, q_bm, q_bm0, q_m1, q_seqI, q_rng, q_rng2, q_enum, q_zip, q_gnm, q_gtp, q_gs0, q_gs1, q_yes, q_put, e_bl, e_int, e_str, e_lst, e_n_non, e_n_bl, e_n_int, e_n_str, e_n_tup, e_n_lst, e_n_slst, e_n_dic, e_n_ref, e_seq_l, e_seq_s, e_seq_t, e_seq_z, e_rev_l, e_rev_s, e_i1, e_i2, e_l1, e_l1s, e_l2, e_p2, e_sl, e_o, e_ob, e_on, e_ml, e_md, e_c, e_tru_b, e_tru_n, e_tru_i, e_tru_t, e_tru_l, t_str_non, t_tup_non, t_int_non, t_bool_non, t_lst_non, t_dict_non, t_str_bl, t_tup_bl, t_int_bl, t_bool_bl, t_lst_bl, t_dict_bl, t_str_int, t_tup_int, t_int_int, t_bool_int, t_lst_int, t_dict_int, t_str_str, t_tup_str, t_int_str, t_bool_str, t_lst_str, t_dict_str, t_str_tup, t_tup_tup, t_int_tup, t_bool_tup, t_lst_tup, t_dict_tup, t_str_lst, t_tup_lst, t_int_lst, t_bool_lst, t_lst_lst, t_dict_lst, t_str_dic, t_tup_dic, t_int_dic, t_bool_dic, t_lst_dic, t_dict_dic, r_add_i, r_add_s, r_add_t, r_add_l, r_sub, r_mul, r_mul_l, r_fdiv, r_mod, r_pow, r_lt, r_ix_l, r_ix_t, r_ix_s, r_ix_rl, r_ix_rd, r_sl_l, r_sl_sl, r_sl_t, r_sl_s, r_len_l, r_len_sl, r_len_t, r_len_s, r_len_r, r_all, r_any, r_tuple_l, r_tuple_sl, r_tuple_t, r_tuple_r, r_list_l, r_list_sl, r_list_t, r_list_r, r_ord, r_repr, r_pop, r_app, r_ext, r_join, r_join_t, r_isl_r, r_isl_l, r_in, r_put_d, r_put_l, r_eq_i, r_eq_s, r_ne_i, r_ne_s, r_eq_t0, r_ne_t0, r_eq_r0, r_ne_r0, r_eq_l0, r_ne_l0, q_lstM, q_frz, e_fz_r, e_fz_non, e_fz_bl, e_fz_int, e_fz_str, e_fz_tup, e_fz_lst, e_fz_dic, q_drp, q_zs, e_zs_tup_tup, e_zs_tup_lst, e_zs_tup_slst, e_zs_lst_tup, e_zs_lst_lst, e_zs_lst_slst, e_zs_slst_tup, e_zs_slst_lst, e_zs_slst_slst, r_mem_s, r_mem_t, r_mem_l, r_int_i, r_int_b, r_listM_l, r_listM_sl, r_listM_t, r_start, wipeD, br_not, br_true, br_false, br_dec, List.map_cons, List.map_nil, List.length_cons, List.length_nil, List.replicate_succ, List.replicate_zero, List.cons_append, List.nil_append, List.getElem?_cons_zero, List.getElem?_cons_succ, List.getElem?_nil, List.set_cons_zero, List.set_cons_succ, Nat.reduceAdd, Nat.reduceSub, Nat.reduceLeDiff, Nat.zero_add, updM_same, true_and, List.isEmpty_nil, List.isEmpty_cons, Bool.not_true, Bool.not_false, Bool.not_not, q_revA, e_ra_l, e_ra_s, e_ra_t, e_ra_z, q_star, e_st_l, e_st_s, e_st_t, q_par3, e_p3, q_cont, r_mul2_i, r_mul2_l, r_mul2_s, r_le2_i, r_le2_s, r_lt2_i, r_lt2_s, r_sum, r_max2, r_min2, r_rst, r_spl, r_six, q_callX, q_callKX, q_raise, e_d1, q_try, q_tryW, q_xf, q_isX, e_cau, r_add2_i, r_add2_s, r_add2_t, r_add2_l, r_add2_rl, r_add2_lr, q_sliM, r_slM, q_kdef, q_mix21, q_mix03, q_mkA, q_mkK, q_mk0, e_err, q_fld, q_isV, q_isU, q_m01, q_m02, q_m02s, forD, ec]
    refine ⟨fun i ds' M' => M' = M ∧ ∃ m x, ds' = [some (D.slst (ns.map D.int)), some (.lst (ns.map D.int)), some (.int m), x] ∧ 0 ≤ m ∧ m < 2147483563, ⟨rfl, 98501, none, rfl, by decide, by decide⟩, fun i d ds' M' hd hw => ?_, fun ds' M' hw => ?_⟩
    · obtain ⟨rfl, m, x, rfl, m0, m1⟩ := hw
      rw [List.getElem?_map] at hd
      cases e : ns[i]? with
      | none => rw [e] at hd; cases hd
      | some k =>
        rw [e] at hd
        cases hd
        simp only [q_v, q_c, q_tup, q_lst, q_op, q_nil, q_cons, q_tst, q_tru, q_andT, q_orT, q_notT, q_andV, q_orV, q_notV, q_ifE, q_next, q_seq, q_asg, q_drop, q_ret, q_retN, q_ifS, q_par, q_isi, q_blt, q_call, q_callK, q_kid, q_kswap, q_chain, q_neg, q_isN, q_notN, q_noO, q_someO, q_sli, q_rev, q_revM, q_bm, q_bm0, q_m1, q_seqI, q_rng, q_rng2, q_enum, q_zip, q_gnm, q_gtp, q_gs0, q_gs1, q_yes, q_put, e_bl, e_int, e_str, e_lst, e_n_non, e_n_bl, e_n_int, e_n_str, e_n_tup, e_n_lst, e_n_slst, e_n_dic, e_n_ref, e_seq_l, e_seq_s, e_seq_t, e_seq_z, e_rev_l, e_rev_s, e_i1, e_i2, e_l1, e_l1s, e_l2, e_p2, e_sl, e_o, e_ob, e_on, e_ml, e_md, e_c, e_tru_b, e_tru_n, e_tru_i, e_tru_t, e_tru_l, t_str_non, t_tup_non, t_int_non, t_bool_non, t_lst_non, t_dict_non, t_str_bl, t_tup_bl, t_int_bl, t_bool_bl, t_lst_bl, t_dict_bl, t_str_int, t_tup_int, t_int_int, t_bool_int, t_lst_int, t_dict_int, t_str_str, t_tup_str, t_int_str, t_bool_str, t_lst_str, t_dict_str, t_str_tup, t_tup_tup, t_int_tup, t_bool_tup, t_lst_tup, t_dict_tup, t_str_lst, t_tup_lst, t_int_lst, t_bool_lst, t_lst_lst, t_dict_lst, t_str_dic, t_tup_dic, t_int_dic, t_bool_dic, t_lst_dic, t_dict_dic, r_add_i, r_add_s, r_add_t, r_add_l, r_sub, r_mul, r_mul_l, r_fdiv, r_mod, r_pow, r_lt, r_ix_l, r_ix_t, r_ix_s, r_ix_rl, r_ix_rd, r_sl_l, r_sl_sl, r_sl_t, r_sl_s, r_len_l, r_len_sl, r_len_t, r_len_s, r_len_r, r_all, r_any, r_tuple_l, r_tuple_sl, r_tuple_t, r_tuple_r, r_list_l, r_list_sl, r_list_t, r_list_r, r_ord, r_repr, r_pop, r_app, r_ext, r_join, r_join_t, r_isl_r, r_isl_l, r_in, r_put_d, r_put_l, r_eq_i, r_eq_s, r_ne_i, r_ne_s, r_eq_t0, r_ne_t0, r_eq_r0, r_ne_r0, r_eq_l0, r_ne_l0, q_lstM, q_frz, e_fz_r, e_fz_non, e_fz_bl, e_fz_int, e_fz_str, e_fz_tup, e_fz_lst, e_fz_dic, q_drp, q_zs, e_zs_tup_tup, e_zs_tup_lst, e_zs_tup_slst, e_zs_lst_tup, e_zs_lst_lst, e_zs_lst_slst, e_zs_slst_tup, e_zs_slst_lst, e_zs_slst_slst, r_mem_s, r_mem_t, r_mem_l, r_int_i, r_int_b, r_listM_l, r_listM_sl, r_listM_t, r_start, wipeD, br_not, br_true, br_false, br_dec, List.map_cons, List.map_nil, List.length_cons, List.length_nil, List.replicate_succ, List.replicate_zero, List.cons_append, List.nil_append, List.getElem?_cons_zero, List.getElem?_cons_succ, List.getElem?_nil, List.set_cons_zero, List.set_cons_succ, Nat.reduceAdd, Nat.reduceSub, Nat.reduceLeDiff, Nat.zero_add, updM_same, true_and, List.isEmpty_nil, List.isEmpty_cons, Bool.not_true, Bool.not_false, Bool.not_not, q_revA, e_ra_l, e_ra_s, e_ra_t, e_ra_z, q_star, e_st_l, e_st_s, e_st_t, q_par3, e_p3, q_cont, r_mul2_i, r_mul2_l, r_mul2_s, r_le2_i, r_le2_s, r_lt2_i, r_lt2_s, r_sum, r_max2, r_min2, r_rst, r_spl, r_six, q_callX, q_callKX, q_raise, e_d1, q_try, q_tryW, q_xf, q_isX, e_cau, r_add2_i, r_add2_s, r_add2_t, r_add2_l, r_add2_rl, r_add2_lr, q_sliM, r_slM, q_kdef, q_mix21, q_mix03, q_mkA, q_mkK, q_mk0, e_err, q_fld, q_isV, q_isU, q_m01, q_m02, q_m02s]
        refine ⟨by omega, by omega, by omega, _, _, rfl, ?_, ?_⟩
        · exact Int.emod_nonneg _ (by decide)
        · exact Int.emod_lt_of_pos _ (by decide)
    · obtain ⟨rfl, m, x, rfl, m0, m1⟩ := hw
      intro p hp
      simp only [q_v, q_c, q_tup, q_lst, q_op, q_nil, q_cons, q_tst, q_tru, q_andT, q_orT, q_notT, q_andV, q_orV, q_notV, q_ifE, q_next, q_seq, q_asg, q_drop, q_ret, q_retN, q_ifS, q_par, q_isi, q_blt, q_call, q_callK, q_kid, q_kswap, q_chain, q_neg, q_isN, q_notN, q_noO, q_someO, q_sli, q_rev, q_revM, q_bm, q_bm0, q_m1, q_seqI, q_rng, q_rng2, q_enum, q_zip, q_gnm, q_gtp, q_gs0, q_gs1, q_yes, q_put, e_bl, e_int, e_str, e_lst, e_n_non, e_n_bl, e_n_int, e_n_str, e_n_tup, e_n_lst, e_n_slst, e_n_dic, e_n_ref, e_seq_l, e_seq_s, e_seq_t, e_seq_z, e_rev_l, e_rev_s, e_i1, e_i2, e_l1, e_l1s, e_l2, e_p2, e_sl, e_o, e_ob, e_on, e_ml, e_md, e_c, e_tru_b, e_tru_n, e_tru_i, e_tru_t, e_tru_l, t_str_non, t_tup_non, t_int_non, t_bool_non, t_lst_non, t_dict_non, t_str_bl, t_tup_bl, t_int_bl, t_bool_bl, t_lst_bl, t_dict_bl, t_str_int, t_tup_int, t_int_int, t_bool_int, t_lst_int, t_dict_int, t_str_str, t_tup_str, t_int_str, t_bool_str, t_lst_str, t_dict_str, t_str_tup, t_tup_tup, t_int_tup, t_bool_tup, t_lst_tup, t_dict_tup, t_str_lst, t_tup_lst, t_int_lst, t_bool_lst, t_lst_lst, t_dict_lst, t_str_dic, t_tup_dic, t_int_dic, t_bool_dic, t_lst_dic, t_dict_dic, r_add_i, r_add_s, r_add_t, r_add_l, r_sub, r_mul, r_mul_l, r_fdiv, r_mod, r_pow, r_lt, r_ix_l, r_ix_t, r_ix_s, r_ix_rl, r_ix_rd, r_sl_l, r_sl_sl, r_sl_t, r_sl_s, r_len_l, r_len_sl, r_len_t, r_len_s, r_len_r, r_all, r_any, r_tuple_l, r_tuple_sl, r_tuple_t, r_tuple_r, r_list_l, r_list_sl, r_list_t, r_list_r, r_ord, r_repr, r_pop, r_app, r_ext, r_join, r_join_t, r_isl_r, r_isl_l, r_in, r_put_d, r_put_l, r_eq_i, r_eq_s, r_ne_i, r_ne_s, r_eq_t0, r_ne_t0, r_eq_r0, r_ne_r0, r_eq_l0, r_ne_l0, q_lstM, q_frz, e_fz_r, e_fz_non, e_fz_bl, e_fz_int, e_fz_str, e_fz_tup, e_fz_lst, e_fz_dic, q_drp, q_zs, e_zs_tup_tup, e_zs_tup_lst, e_zs_tup_slst, e_zs_lst_tup, e_zs_lst_lst, e_zs_lst_slst, e_zs_slst_tup, e_zs_slst_lst, e_zs_slst_slst, r_mem_s, r_mem_t, r_mem_l, r_int_i, r_int_b, r_listM_l, r_listM_sl, r_listM_t, r_start, wipeD, br_not, br_true, br_false, br_dec, List.map_cons, List.map_nil, List.length_cons, List.length_nil, List.replicate_succ, List.replicate_zero, List.cons_append, List.nil_append, List.getElem?_cons_zero, List.getElem?_cons_succ, List.getElem?_nil, List.set_cons_zero, List.set_cons_succ, Nat.reduceAdd, Nat.reduceSub, Nat.reduceLeDiff, Nat.zero_add, updM_same, true_and, List.isEmpty_nil, List.isEmpty_cons, Bool.not_true, Bool.not_false, Bool.not_not, q_revA, e_ra_l, e_ra_s, e_ra_t, e_ra_z, q_star, e_st_l, e_st_s, e_st_t, q_par3, e_p3, q_cont, r_mul2_i, r_mul2_l, r_mul2_s, r_le2_i, r_le2_s, r_lt2_i, r_lt2_s, r_sum, r_max2, r_min2, r_rst, r_spl, r_six, q_callX, q_callKX, q_raise, e_d1, q_try, q_tryW, q_xf, q_isX, e_cau, r_add2_i, r_add2_s, r_add2_t, r_add2_l, r_add2_rl, r_add2_lr, q_sliM, r_slM, q_kdef, q_mix21, q_mix03, q_mkA, q_mkK, q_mk0, e_err, q_fld, q_isV, q_isU, q_m01, q_m02, q_m02s]
      intro c hc
      have cp : c ≠ p := fun e => by
        rw [e, updM_same] at hc
        cases hc
      rw [updM_ne cp] at hc
      refine ⟨?_, hF p c _ hp hc ⟨ns.reverse, m, 0, updM_same, ?_, m0, m1, by decide, by rw [List.length_reverse]; exact hl⟩ fun b hb hb' => ?_⟩
      · rw [updM_ne cp.symm, updM_same]
      · rw [updM_ne cp, updM_same, List.map_reverse]
      · rw [updM_ne hb, updM_ne hb', updM_ne hb]
  · exact h.elim
end K01

namespace K01
open PySem L2 Fx
def errL : List String := ["GapError", "BadLibrary", "Clash", "BadGoal", "BadToken", "NotBuildable", "NotOpen", "NotUndeclared", "TooLong", "Stuck", "NothingThere", "NoName", "InvalidText", "InvalidCommand", "NoGoal"]
/-- the classes in the order of the places -/
def CN : List String := ["BadLibrary", "BadGoal", "BadToken", "NotBuildable", "NotUndeclared", "TooLong", "Stuck", "NoName", "InvalidText", "InvalidCommand", "Clash", "NotOpen", "NothingThere", "NoGoal"]
def posB : Nat → List Bool → List Nat
  | _, [] => []
  | k, b :: bs => if b then k :: posB (k + 1) bs else posB (k + 1) bs
def plcN (n : String) : List Nat := posB 0 (CN.map (subN n))
def plc (n : String) : List D := (plcN n).map fun (j : Nat) => D.int (j : Int)
def NF : List (String × Str) := [("BadLibrary", "part"), ("BadLibrary", "part"), ("BadGoal", "part"), ("BadGoal", "part"), ("BadToken", "token"), ("BadToken", "token"), ("NotBuildable", "kind"), ("NotBuildable", "kind"), ("NotUndeclared", "name"), ("NotUndeclared", "name"), ("TooLong", "length"), ("TooLong", "length"), ("Stuck", "index"), ("Stuck", "index"), ("NoName", "name"), ("NoName", "name"), ("InvalidText", "place"), ("InvalidText", "place"), ("InvalidCommand", "line"), ("InvalidCommand", "line")]
def wl (d : D) : List D := NF.map fun p => .tup [.obj (.err p.1) [p.2] [d], d]
theorem look1 {f : Str} {v : D} : List.lookup f (([f] : List Str).zip [v]) = some v := by
  rw [List.zip_cons_cons, List.lookup_cons, beq_self_eq_true]
theorem rv1 {α : Type} {a : α} : [a].reverse = [a] := rfl
theorem rv2 {α : Type} {a b : α} : [a, b].reverse = [b, a] := rfl
def R_l_with_one : RD := fun xs M F => ∃ d, xs = [d] ∧ F (.lst (wl d)) M
theorem ln_l_with_one : ∀ xs M F, R_l_with_one xs M F → xs.length = 1 := fun xs M F ⟨p, e, _⟩ => by rw [e]; rfl
theorem rd_l_with_one : ∀ ds M F, R_l_with_one ds M F → T_l_with_one { nx := fun _ M' => F .non M', rt := F } (startD 2 ds) M := by
  intro ds M F ⟨d, e, h⟩
  subst e
  simp only [T_l_with_one, q_v, q_c, q_tup, q_lst, q_op, q_nil, q_cons, q_tst, q_tru, q_andT, q_orT, q_notT, q_andV, q_orV, q_notV, q_ifE, q_next, q_seq, q_asg, q_drop, q_ret, q_retN, q_ifS, q_par, q_isi, q_blt, q_call, q_callK, q_kid, q_kswap, q_chain, q_neg, q_isN, q_notN, q_noO, q_someO, q_sli, q_rev, q_revM, q_bm, q_bm0, q_m1, q_seqI, q_rng, q_rng2, q_enum, q_zip, q_gnm, q_gtp, q_gs0, q_gs1, q_yes, q_put, e_bl, e_int, e_str, e_lst, e_n_non, e_n_bl, e_n_int, e_n_str, e_n_tup, e_n_lst, e_n_slst, e_n_dic, e_n_ref, e_seq_l, e_seq_s, e_seq_t, e_seq_z, e_rev_l, e_rev_s, e_i1, e_i2, e_l1, e_l1s, e_l2, e_p2, e_sl, e_o, e_ob, e_on, e_ml, e_md, e_c, e_tru_b, e_tru_n, e_tru_i, e_tru_t, e_tru_l, t_str_non, t_tup_non, t_int_non, t_bool_non, t_lst_non, t_dict_non, t_str_bl, t_tup_bl, t_int_bl, t_bool_bl, t_lst_bl, t_dict_bl, t_str_int, t_tup_int, t_int_int, t_bool_int, t_lst_int, t_dict_int, t_str_str, t_tup_str, t_int_str, t_bool_str, t_lst_str, t_dict_str, t_str_tup, t_tup_tup, t_int_tup, t_bool_tup, t_lst_tup, t_dict_tup, t_str_lst, t_tup_lst, t_int_lst, t_bool_lst, t_lst_lst, t_dict_lst, t_str_dic, t_tup_dic, t_int_dic, t_bool_dic, t_lst_dic, t_dict_dic, r_add_i, r_add_s, r_add_t, r_add_l, r_sub, r_mul, r_mul_l, r_fdiv, r_mod, r_pow, r_lt, r_ix_l, r_ix_t, r_ix_s, r_ix_rl, r_ix_rd, r_sl_l, r_sl_sl, r_sl_t, r_sl_s, r_len_l, r_len_sl, r_len_t, r_len_s, r_len_r, r_all, r_any, r_tuple_l, r_tuple_sl, r_tuple_t, r_tuple_r, r_list_l, r_list_sl, r_list_t, r_list_r, r_ord, r_repr, r_pop, r_app, r_ext, r_join, r_join_t, r_isl_r, r_isl_l, r_in, r_put_d, r_put_l, r_eq_i, r_eq_s, r_ne_i, r_ne_s, r_eq_t0, r_ne_t0, r_eq_r0, r_ne_r0, r_eq_l0, r_ne_l0, q_lstM, q_frz, e_fz_r, e_fz_non, e_fz_bl, e_fz_int, e_fz_str, e_fz_tup, e_fz_lst, e_fz_dic, q_drp, q_zs, e_zs_tup_tup, e_zs_tup_lst, e_zs_tup_slst, e_zs_lst_tup, e_zs_lst_lst, e_zs_lst_slst, e_zs_slst_tup, e_zs_slst_lst, e_zs_slst_slst, r_mem_s, r_mem_t, r_mem_l, r_int_i, r_int_b, r_listM_l, r_listM_sl, r_listM_t, r_start, wipeD, br_not, br_true, br_false, br_dec, List.map_cons, List.map_nil, List.length_cons, List.length_nil, List.replicate_succ, List.replicate_zero, List.cons_append, List.nil_append, List.getElem?_cons_zero, List.getElem?_cons_succ, List.getElem?_nil, List.set_cons_zero, List.set_cons_succ, Nat.reduceAdd, Nat.reduceSub, Nat.reduceLeDiff, Nat.zero_add, updM_same, true_and, List.isEmpty_nil, List.isEmpty_cons, Bool.not_true, Bool.not_false, Bool.not_not, q_revA, e_ra_l, e_ra_s, e_ra_t, e_ra_z, q_star, e_st_l, e_st_s, e_st_t, q_par3, e_p3, q_cont, r_mul2_i, r_mul2_l, r_mul2_s, r_le2_i, r_le2_s, r_lt2_i, r_lt2_s, r_sum, r_max2, r_min2, r_rst, r_spl, r_six, q_callX, q_callKX, q_raise, e_d1, q_try, q_tryW, q_xf, q_isX, e_cau, r_add2_i, r_add2_s, r_add2_t, r_add2_l, r_add2_rl, r_add2_lr, q_sliM, r_slM, q_kdef, q_mix21, q_mix03, q_mkA, q_mkK, q_mk0, e_err, q_fld, q_isV, q_isU, q_m01, q_m02, q_m02s, rv1, look1, List.length_cons, List.length_nil]
  exact h
def keepP : D → Bool
  | .tup [_, .bl b] => b
  | _ => false
def fstP : D → D
  | .tup [a, _] => a
  | d => d
theorem enum_pos : ∀ (bs : List Bool) (k : Nat), ((enumL k (bs.map D.bl)).filter keepP).map fstP = (posB k bs).map fun (j : Nat) => D.int (j : Int)
  | [], k => rfl
  | b :: bs, k => by
    rw [List.map_cons, enumL, List.filter_cons, posB]
    have ih := enum_pos bs (k + 1)
    cases b with
    | true =>
      show (fstP (.tup [.int (k : Int), .bl true]) :: ((enumL (k + 1) (bs.map D.bl)).filter keepP).map fstP) = _
      rw [ih]
      rfl
    | false => exact ih
theorem mem_enum : ∀ {bs : List Bool} {k : Nat} {d : D}, d ∈ enumL k (bs.map D.bl) → ∃ (i : Int) (b : Bool), d = .tup [.int i, .bl b]
  | [], k, d, h => by cases h
  | b :: bs, k, d, h => by
    rw [List.map_cons, enumL] at h
    rcases List.mem_cons.mp h with e | e
    · exact ⟨_, _, e⟩
    · exact mem_enum e
theorem enum_get : ∀ {xs : List D} {k i : Nat}, (enumL k xs)[i]? = (xs[i]?).map fun d => .tup [.int ((k + i : Nat) : Int), d]
  | [], k, i => by simp [enumL]
  | x :: xs, k, 0 => rfl
  | x :: xs, k, i + 1 => by
    rw [enumL, List.getElem?_cons_succ, List.getElem?_cons_succ, enum_get, show k + 1 + i = k + (i + 1) by omega]
def R_l_places : RD := fun xs M F => ∃ n ns es, xs = [.obj (.err n) ns es] ∧ n ∈ errL ∧ F (.lst (plc n)) M
theorem ln_l_places : ∀ xs M F, R_l_places xs M F → xs.length = 1 := fun xs M F ⟨p, a, b, e, _⟩ => by rw [e]; rfl
theorem rd_l_places : ∀ ds M F, R_l_places ds M F → T_l_places { nx := fun _ M' => F .non M', rt := F } (startD 4 ds) M := by
  intro ds M F ⟨n, ns, es, e, hn, h⟩
  subst e
  have hn' : n ∈ ["GapError", "BadLibrary", "Clash", "BadGoal", "BadToken", "NotBuildable", "NotOpen", "NotUndeclared", "TooLong", "Stuck", "NothingThere", "NoName", "InvalidText", "InvalidCommand", "NoGoal"] := hn
  simp only [T_l_places, q_v, q_c, q_tup, q_lst, q_op, q_nil, q_cons, q_tst, q_tru, q_andT, q_orT, q_notT, q_andV, q_orV, q_notV, q_ifE, q_next, q_seq, q_asg, q_drop, q_ret, q_retN, q_ifS, q_par, q_isi, q_blt, q_call, q_callK, q_kid, q_kswap, q_chain, q_neg, q_isN, q_notN, q_noO, q_someO, q_sli, q_rev, q_revM, q_bm, q_bm0, q_m1, q_seqI, q_rng, q_rng2, q_enum, q_zip, q_gnm, q_gtp, q_gs0, q_gs1, q_yes, q_put, e_bl, e_int, e_str, e_lst, e_n_non, e_n_bl, e_n_int, e_n_str, e_n_tup, e_n_lst, e_n_slst, e_n_dic, e_n_ref, e_seq_l, e_seq_s, e_seq_t, e_seq_z, e_rev_l, e_rev_s, e_i1, e_i2, e_l1, e_l1s, e_l2, e_p2, e_sl, e_o, e_ob, e_on, e_ml, e_md, e_c, e_tru_b, e_tru_n, e_tru_i, e_tru_t, e_tru_l, t_str_non, t_tup_non, t_int_non, t_bool_non, t_lst_non, t_dict_non, t_str_bl, t_tup_bl, t_int_bl, t_bool_bl, t_lst_bl, t_dict_bl, t_str_int, t_tup_int, t_int_int, t_bool_int, t_lst_int, t_dict_int, t_str_str, t_tup_str, t_int_str, t_bool_str, t_lst_str, t_dict_str, t_str_tup, t_tup_tup, t_int_tup, t_bool_tup, t_lst_tup, t_dict_tup, t_str_lst, t_tup_lst, t_int_lst, t_bool_lst, t_lst_lst, t_dict_lst, t_str_dic, t_tup_dic, t_int_dic, t_bool_dic, t_lst_dic, t_dict_dic, r_add_i, r_add_s, r_add_t, r_add_l, r_sub, r_mul, r_mul_l, r_fdiv, r_mod, r_pow, r_lt, r_ix_l, r_ix_t, r_ix_s, r_ix_rl, r_ix_rd, r_sl_l, r_sl_sl, r_sl_t, r_sl_s, r_len_l, r_len_sl, r_len_t, r_len_s, r_len_r, r_all, r_any, r_tuple_l, r_tuple_sl, r_tuple_t, r_tuple_r, r_list_l, r_list_sl, r_list_t, r_list_r, r_ord, r_repr, r_pop, r_app, r_ext, r_join, r_join_t, r_isl_r, r_isl_l, r_in, r_put_d, r_put_l, r_eq_i, r_eq_s, r_ne_i, r_ne_s, r_eq_t0, r_ne_t0, r_eq_r0, r_ne_r0, r_eq_l0, r_ne_l0, q_lstM, q_frz, e_fz_r, e_fz_non, e_fz_bl, e_fz_int, e_fz_str, e_fz_tup, e_fz_lst, e_fz_dic, q_drp, q_zs, e_zs_tup_tup, e_zs_tup_lst, e_zs_tup_slst, e_zs_lst_tup, e_zs_lst_lst, e_zs_lst_slst, e_zs_slst_tup, e_zs_slst_lst, e_zs_slst_slst, r_mem_s, r_mem_t, r_mem_l, r_int_i, r_int_b, r_listM_l, r_listM_sl, r_listM_t, r_start, wipeD, br_not, br_true, br_false, br_dec, List.map_cons, List.map_nil, List.length_cons, List.length_nil, List.replicate_succ, List.replicate_zero, List.cons_append, List.nil_append, List.getElem?_cons_zero, List.getElem?_cons_succ, List.getElem?_nil, List.set_cons_zero, List.set_cons_succ, Nat.reduceAdd, Nat.reduceSub, Nat.reduceLeDiff, Nat.zero_add, updM_same, true_and, List.isEmpty_nil, List.isEmpty_cons, Bool.not_true, Bool.not_false, Bool.not_not, q_revA, e_ra_l, e_ra_s, e_ra_t, e_ra_z, q_star, e_st_l, e_st_s, e_st_t, q_par3, e_p3, q_cont, r_mul2_i, r_mul2_l, r_mul2_s, r_le2_i, r_le2_s, r_lt2_i, r_lt2_s, r_sum, r_max2, r_min2, r_rst, r_spl, r_six, q_callX, q_callKX, q_raise, e_d1, q_try, q_tryW, q_xf, q_isX, e_cau, r_add2_i, r_add2_s, r_add2_t, r_add2_l, r_add2_rl, r_add2_lr, q_sliM, r_slM, q_kdef, q_mix21, q_mix03, q_mkA, q_mkK, q_mk0, e_err, q_fld, q_isV, q_isU, q_m01, q_m02, q_m02s, hn', true_and]
  refine lc_pure keepP fstP (xs := enumL 0 ((CN.map (subN n)).map D.bl)) (show (14 : Nat) ≤ 1000000 by decide) (fun G g => ?_) (fun d hd => ?_) ?_
  · simp only [q_v, q_c, q_tup, q_lst, q_op, q_nil, q_cons, q_tst, q_tru, q_andT, q_orT, q_notT, q_andV, q_orV, q_notV, q_ifE, q_next, q_seq, q_asg, q_drop, q_ret, q_retN, q_ifS, q_par, q_isi, q_blt, q_call, q_callK, q_kid, q_kswap, q_chain, q_neg, q_isN, q_notN, q_noO, q_someO, q_sli, q_rev, q_revM, q_bm, q_bm0, q_m1, q_seqI, q_rng, q_rng2, q_enum, q_zip, q_gnm, q_gtp, q_gs0, q_gs1, q_yes, q_put, e_bl, e_int, e_str, e_lst, e_n_non, e_n_bl, e_n_int, e_n_str, e_n_tup, e_n_lst, e_n_slst, e_n_dic, e_n_ref, e_seq_l, e_seq_s, e_seq_t, e_seq_z, e_rev_l, e_rev_s, e_i1, e_i2, e_l1, e_l1s, e_l2, e_p2, e_sl, e_o, e_ob, e_on, e_ml, e_md, e_c, e_tru_b, e_tru_n, e_tru_i, e_tru_t, e_tru_l, t_str_non, t_tup_non, t_int_non, t_bool_non, t_lst_non, t_dict_non, t_str_bl, t_tup_bl, t_int_bl, t_bool_bl, t_lst_bl, t_dict_bl, t_str_int, t_tup_int, t_int_int, t_bool_int, t_lst_int, t_dict_int, t_str_str, t_tup_str, t_int_str, t_bool_str, t_lst_str, t_dict_str, t_str_tup, t_tup_tup, t_int_tup, t_bool_tup, t_lst_tup, t_dict_tup, t_str_lst, t_tup_lst, t_int_lst, t_bool_lst, t_lst_lst, t_dict_lst, t_str_dic, t_tup_dic, t_int_dic, t_bool_dic, t_lst_dic, t_dict_dic, r_add_i, r_add_s, r_add_t, r_add_l, r_sub, r_mul, r_mul_l, r_fdiv, r_mod, r_pow, r_lt, r_ix_l, r_ix_t, r_ix_s, r_ix_rl, r_ix_rd, r_sl_l, r_sl_sl, r_sl_t, r_sl_s, r_len_l, r_len_sl, r_len_t, r_len_s, r_len_r, r_all, r_any, r_tuple_l, r_tuple_sl, r_tuple_t, r_tuple_r, r_list_l, r_list_sl, r_list_t, r_list_r, r_ord, r_repr, r_pop, r_app, r_ext, r_join, r_join_t, r_isl_r, r_isl_l, r_in, r_put_d, r_put_l, r_eq_i, r_eq_s, r_ne_i, r_ne_s, r_eq_t0, r_ne_t0, r_eq_r0, r_ne_r0, r_eq_l0, r_ne_l0, q_lstM, q_frz, e_fz_r, e_fz_non, e_fz_bl, e_fz_int, e_fz_str, e_fz_tup, e_fz_lst, e_fz_dic, q_drp, q_zs, e_zs_tup_tup, e_zs_tup_lst, e_zs_tup_slst, e_zs_lst_tup, e_zs_lst_lst, e_zs_lst_slst, e_zs_slst_tup, e_zs_slst_lst, e_zs_slst_slst, r_mem_s, r_mem_t, r_mem_l, r_int_i, r_int_b, r_listM_l, r_listM_sl, r_listM_t, r_start, wipeD, br_not, br_true, br_false, br_dec, List.map_cons, List.map_nil, List.length_cons, List.length_nil, List.replicate_succ, List.replicate_zero, List.cons_append, List.nil_append, List.getElem?_cons_zero, List.getElem?_cons_succ, List.getElem?_nil, List.set_cons_zero, List.set_cons_succ, Nat.reduceAdd, Nat.reduceSub, Nat.reduceLeDiff, Nat.zero_add, updM_same, true_and, List.isEmpty_nil, List.isEmpty_cons, Bool.not_true, Bool.not_false, Bool.not_not, q_revA, e_ra_l, e_ra_s, e_ra_t, e_ra_z, q_star, e_st_l, e_st_s, e_st_t, q_par3, e_p3, q_cont, r_mul2_i, r_mul2_l, r_mul2_s, r_le2_i, r_le2_s, r_lt2_i, r_lt2_s, r_sum, r_max2, r_min2, r_rst, r_spl, r_six, q_callX, q_callKX, q_raise, e_d1, q_try, q_tryW, q_xf, q_isX, e_cau, r_add2_i, r_add2_s, r_add2_t, r_add2_l, r_add2_rl, r_add2_lr, q_sliM, r_slM, q_kdef, q_mix21, q_mix03, q_mkA, q_mkK, q_mk0, e_err, q_fld, q_isV, q_isU, q_m01, q_m02, q_m02s]
    exact g
  · obtain ⟨i, b, rfl⟩ := mem_enum hd
    simp only [q_v, q_c, q_tup, q_lst, q_op, q_nil, q_cons, q_tst, q_tru, q_andT, q_orT, q_notT, q_andV, q_orV, q_notV, q_ifE, q_next, q_seq, q_asg, q_drop, q_ret, q_retN, q_ifS, q_par, q_isi, q_blt, q_call, q_callK, q_kid, q_kswap, q_chain, q_neg, q_isN, q_notN, q_noO, q_someO, q_sli, q_rev, q_revM, q_bm, q_bm0, q_m1, q_seqI, q_rng, q_rng2, q_enum, q_zip, q_gnm, q_gtp, q_gs0, q_gs1, q_yes, q_put, e_bl, e_int, e_str, e_lst, e_n_non, e_n_bl, e_n_int, e_n_str, e_n_tup, e_n_lst, e_n_slst, e_n_dic, e_n_ref, e_seq_l, e_seq_s, e_seq_t, e_seq_z, e_rev_l, e_rev_s, e_i1, e_i2, e_l1, e_l1s, e_l2, e_p2, e_sl, e_o, e_ob, e_on, e_ml, e_md, e_c, e_tru_b, e_tru_n, e_tru_i, e_tru_t, e_tru_l, t_str_non, t_tup_non, t_int_non, t_bool_non, t_lst_non, t_dict_non, t_str_bl, t_tup_bl, t_int_bl, t_bool_bl, t_lst_bl, t_dict_bl, t_str_int, t_tup_int, t_int_int, t_bool_int, t_lst_int, t_dict_int, t_str_str, t_tup_str, t_int_str, t_bool_str, t_lst_str, t_dict_str, t_str_tup, t_tup_tup, t_int_tup, t_bool_tup, t_lst_tup, t_dict_tup, t_str_lst, t_tup_lst, t_int_lst, t_bool_lst, t_lst_lst, t_dict_lst, t_str_dic, t_tup_dic, t_int_dic, t_bool_dic, t_lst_dic, t_dict_dic, r_add_i, r_add_s, r_add_t, r_add_l, r_sub, r_mul, r_mul_l, r_fdiv, r_mod, r_pow, r_lt, r_ix_l, r_ix_t, r_ix_s, r_ix_rl, r_ix_rd, r_sl_l, r_sl_sl, r_sl_t, r_sl_s, r_len_l, r_len_sl, r_len_t, r_len_s, r_len_r, r_all, r_any, r_tuple_l, r_tuple_sl, r_tuple_t, r_tuple_r, r_list_l, r_list_sl, r_list_t, r_list_r, r_ord, r_repr, r_pop, r_app, r_ext, r_join, r_join_t, r_isl_r, r_isl_l, r_in, r_put_d, r_put_l, r_eq_i, r_eq_s, r_ne_i, r_ne_s, r_eq_t0, r_ne_t0, r_eq_r0, r_ne_r0, r_eq_l0, r_ne_l0, q_lstM, q_frz, e_fz_r, e_fz_non, e_fz_bl, e_fz_int, e_fz_str, e_fz_tup, e_fz_lst, e_fz_dic, q_drp, q_zs, e_zs_tup_tup, e_zs_tup_lst, e_zs_tup_slst, e_zs_lst_tup, e_zs_lst_lst, e_zs_lst_slst, e_zs_slst_tup, e_zs_slst_lst, e_zs_slst_slst, r_mem_s, r_mem_t, r_mem_l, r_int_i, r_int_b, r_listM_l, r_listM_sl, r_listM_t, r_start, wipeD, br_not, br_true, br_false, br_dec, List.map_cons, List.map_nil, List.length_cons, List.length_nil, List.replicate_succ, List.replicate_zero, List.cons_append, List.nil_append, List.getElem?_cons_zero, List.getElem?_cons_succ, List.getElem?_nil, List.set_cons_zero, List.set_cons_succ, Nat.reduceAdd, Nat.reduceSub, Nat.reduceLeDiff, Nat.zero_add, updM_same, true_and, List.isEmpty_nil, List.isEmpty_cons, Bool.not_true, Bool.not_false, Bool.not_not, q_revA, e_ra_l, e_ra_s, e_ra_t, e_ra_z, q_star, e_st_l, e_st_s, e_st_t, q_par3, e_p3, q_cont, r_mul2_i, r_mul2_l, r_mul2_s, r_le2_i, r_le2_s, r_lt2_i, r_lt2_s, r_sum, r_max2, r_min2, r_rst, r_spl, r_six, q_callX, q_callKX, q_raise, e_d1, q_try, q_tryW, q_xf, q_isX, e_cau, r_add2_i, r_add2_s, r_add2_t, r_add2_l, r_add2_rl, r_add2_lr, q_sliM, r_slM, q_kdef, q_mix21, q_mix03, q_mkA, q_mkK, q_mk0, e_err, q_fld, q_isV, q_isU, q_m01, q_m02, q_m02s]
    exact ⟨fun M' G g => g, fun _ M' G g => g⟩
  · rw [enum_pos]
    exact h
theorem subG {n : String} : subN n "GapError" = true := by unfold subN; simp
theorem subE {n : String} : subN n "Exception" = true := by unfold subN; simp
theorem plc_ok : ∀ n ∈ errL, okD (.lst (plc n)) = true ∧ eqD (.lst (plc n)) (.lst (plc n)) = true := by
  have h : errL.all (fun n => okD (.lst (plc n)) && eqD (.lst (plc n)) (.lst (plc n))) = true := by decide +kernel
  intro n hn
  have := List.all_eq_true.mp h n hn
  rw [Bool.and_eq_true] at this
  exact this
theorem neR_self {xs : List D} {M : Mp} {F : DK} (h : okD (.lst xs) = true) (e : eqD (.lst xs) (.lst xs) = true) (f : F (.bl false) M) : neR (.lst xs) (.lst xs) M F := by
  cases xs with
  | nil => exact f
  | cons x xs =>
    refine ⟨by rw [h]; rfl, ?_⟩
    rw [e]
    exact f
def R_l_is_alone : RD := fun xs M F => ∃ n ns es, xs = [.obj (.err n) ns es, .lst (plc n)] ∧ n ∈ errL ∧ F (.bl true) M
theorem ln_l_is_alone : ∀ xs M F, R_l_is_alone xs M F → xs.length = 2 := fun xs M F ⟨p, a, b, e, _⟩ => by rw [e]; rfl
theorem rd_l_is_alone : ∀ ds M F, R_l_is_alone ds M F → T_l_is_alone R_l_places { nx := fun _ M' => F .non M', rt := F } (startD 2 ds) M := by
  intro ds M F ⟨n, ns, es, e, hn, h⟩
  subst e
  have hn' : n ∈ ["GapError", "BadLibrary", "Clash", "BadGoal", "BadToken", "NotBuildable", "NotOpen", "NotUndeclared", "TooLong", "Stuck", "NothingThere", "NoName", "InvalidText", "InvalidCommand", "NoGoal"] := hn
  obtain ⟨o1, o2⟩ := plc_ok n hn
  simp only [T_l_is_alone, q_v, q_c, q_tup, q_lst, q_op, q_nil, q_cons, q_tst, q_tru, q_andT, q_orT, q_notT, q_andV, q_orV, q_notV, q_ifE, q_next, q_seq, q_asg, q_drop, q_ret, q_retN, q_ifS, q_par, q_isi, q_blt, q_call, q_callK, q_kid, q_kswap, q_chain, q_neg, q_isN, q_notN, q_noO, q_someO, q_sli, q_rev, q_revM, q_bm, q_bm0, q_m1, q_seqI, q_rng, q_rng2, q_enum, q_zip, q_gnm, q_gtp, q_gs0, q_gs1, q_yes, q_put, e_bl, e_int, e_str, e_lst, e_n_non, e_n_bl, e_n_int, e_n_str, e_n_tup, e_n_lst, e_n_slst, e_n_dic, e_n_ref, e_seq_l, e_seq_s, e_seq_t, e_seq_z, e_rev_l, e_rev_s, e_i1, e_i2, e_l1, e_l1s, e_l2, e_p2, e_sl, e_o, e_ob, e_on, e_ml, e_md, e_c, e_tru_b, e_tru_n, e_tru_i, e_tru_t, e_tru_l, t_str_non, t_tup_non, t_int_non, t_bool_non, t_lst_non, t_dict_non, t_str_bl, t_tup_bl, t_int_bl, t_bool_bl, t_lst_bl, t_dict_bl, t_str_int, t_tup_int, t_int_int, t_bool_int, t_lst_int, t_dict_int, t_str_str, t_tup_str, t_int_str, t_bool_str, t_lst_str, t_dict_str, t_str_tup, t_tup_tup, t_int_tup, t_bool_tup, t_lst_tup, t_dict_tup, t_str_lst, t_tup_lst, t_int_lst, t_bool_lst, t_lst_lst, t_dict_lst, t_str_dic, t_tup_dic, t_int_dic, t_bool_dic, t_lst_dic, t_dict_dic, r_add_i, r_add_s, r_add_t, r_add_l, r_sub, r_mul, r_mul_l, r_fdiv, r_mod, r_pow, r_lt, r_ix_l, r_ix_t, r_ix_s, r_ix_rl, r_ix_rd, r_sl_l, r_sl_sl, r_sl_t, r_sl_s, r_len_l, r_len_sl, r_len_t, r_len_s, r_len_r, r_all, r_any, r_tuple_l, r_tuple_sl, r_tuple_t, r_tuple_r, r_list_l, r_list_sl, r_list_t, r_list_r, r_ord, r_repr, r_pop, r_app, r_ext, r_join, r_join_t, r_isl_r, r_isl_l, r_in, r_put_d, r_put_l, r_eq_i, r_eq_s, r_ne_i, r_ne_s, r_eq_t0, r_ne_t0, r_eq_r0, r_ne_r0, r_eq_l0, r_ne_l0, q_lstM, q_frz, e_fz_r, e_fz_non, e_fz_bl, e_fz_int, e_fz_str, e_fz_tup, e_fz_lst, e_fz_dic, q_drp, q_zs, e_zs_tup_tup, e_zs_tup_lst, e_zs_tup_slst, e_zs_lst_tup, e_zs_lst_lst, e_zs_lst_slst, e_zs_slst_tup, e_zs_slst_lst, e_zs_slst_slst, r_mem_s, r_mem_t, r_mem_l, r_int_i, r_int_b, r_listM_l, r_listM_sl, r_listM_t, r_start, wipeD, br_not, br_true, br_false, br_dec, List.map_cons, List.map_nil, List.length_cons, List.length_nil, List.replicate_succ, List.replicate_zero, List.cons_append, List.nil_append, List.getElem?_cons_zero, List.getElem?_cons_succ, List.getElem?_nil, List.set_cons_zero, List.set_cons_succ, Nat.reduceAdd, Nat.reduceSub, Nat.reduceLeDiff, Nat.zero_add, updM_same, true_and, List.isEmpty_nil, List.isEmpty_cons, Bool.not_true, Bool.not_false, Bool.not_not, q_revA, e_ra_l, e_ra_s, e_ra_t, e_ra_z, q_star, e_st_l, e_st_s, e_st_t, q_par3, e_p3, q_cont, r_mul2_i, r_mul2_l, r_mul2_s, r_le2_i, r_le2_s, r_lt2_i, r_lt2_s, r_sum, r_max2, r_min2, r_rst, r_spl, r_six, q_callX, q_callKX, q_raise, e_d1, q_try, q_tryW, q_xf, q_isX, e_cau, r_add2_i, r_add2_s, r_add2_t, r_add2_l, r_add2_rl, r_add2_lr, q_sliM, r_slM, q_kdef, q_mix21, q_mix03, q_mkA, q_mkK, q_mk0, e_err, q_fld, q_isV, q_isU, q_m01, q_m02, q_m02s, hn', true_and, subG, subE, Bool.not_true]
  refine ⟨n, ns, es, rfl, hn, ?_⟩
  refine neR_self o1 o2 ?_
  simp only [q_v, q_c, q_tup, q_lst, q_op, q_nil, q_cons, q_tst, q_tru, q_andT, q_orT, q_notT, q_andV, q_orV, q_notV, q_ifE, q_next, q_seq, q_asg, q_drop, q_ret, q_retN, q_ifS, q_par, q_isi, q_blt, q_call, q_callK, q_kid, q_kswap, q_chain, q_neg, q_isN, q_notN, q_noO, q_someO, q_sli, q_rev, q_revM, q_bm, q_bm0, q_m1, q_seqI, q_rng, q_rng2, q_enum, q_zip, q_gnm, q_gtp, q_gs0, q_gs1, q_yes, q_put, e_bl, e_int, e_str, e_lst, e_n_non, e_n_bl, e_n_int, e_n_str, e_n_tup, e_n_lst, e_n_slst, e_n_dic, e_n_ref, e_seq_l, e_seq_s, e_seq_t, e_seq_z, e_rev_l, e_rev_s, e_i1, e_i2, e_l1, e_l1s, e_l2, e_p2, e_sl, e_o, e_ob, e_on, e_ml, e_md, e_c, e_tru_b, e_tru_n, e_tru_i, e_tru_t, e_tru_l, t_str_non, t_tup_non, t_int_non, t_bool_non, t_lst_non, t_dict_non, t_str_bl, t_tup_bl, t_int_bl, t_bool_bl, t_lst_bl, t_dict_bl, t_str_int, t_tup_int, t_int_int, t_bool_int, t_lst_int, t_dict_int, t_str_str, t_tup_str, t_int_str, t_bool_str, t_lst_str, t_dict_str, t_str_tup, t_tup_tup, t_int_tup, t_bool_tup, t_lst_tup, t_dict_tup, t_str_lst, t_tup_lst, t_int_lst, t_bool_lst, t_lst_lst, t_dict_lst, t_str_dic, t_tup_dic, t_int_dic, t_bool_dic, t_lst_dic, t_dict_dic, r_add_i, r_add_s, r_add_t, r_add_l, r_sub, r_mul, r_mul_l, r_fdiv, r_mod, r_pow, r_lt, r_ix_l, r_ix_t, r_ix_s, r_ix_rl, r_ix_rd, r_sl_l, r_sl_sl, r_sl_t, r_sl_s, r_len_l, r_len_sl, r_len_t, r_len_s, r_len_r, r_all, r_any, r_tuple_l, r_tuple_sl, r_tuple_t, r_tuple_r, r_list_l, r_list_sl, r_list_t, r_list_r, r_ord, r_repr, r_pop, r_app, r_ext, r_join, r_join_t, r_isl_r, r_isl_l, r_in, r_put_d, r_put_l, r_eq_i, r_eq_s, r_ne_i, r_ne_s, r_eq_t0, r_ne_t0, r_eq_r0, r_ne_r0, r_eq_l0, r_ne_l0, q_lstM, q_frz, e_fz_r, e_fz_non, e_fz_bl, e_fz_int, e_fz_str, e_fz_tup, e_fz_lst, e_fz_dic, q_drp, q_zs, e_zs_tup_tup, e_zs_tup_lst, e_zs_tup_slst, e_zs_lst_tup, e_zs_lst_lst, e_zs_lst_slst, e_zs_slst_tup, e_zs_slst_lst, e_zs_slst_slst, r_mem_s, r_mem_t, r_mem_l, r_int_i, r_int_b, r_listM_l, r_listM_sl, r_listM_t, r_start, wipeD, br_not, br_true, br_false, br_dec, List.map_cons, List.map_nil, List.length_cons, List.length_nil, List.replicate_succ, List.replicate_zero, List.cons_append, List.nil_append, List.getElem?_cons_zero, List.getElem?_cons_succ, List.getElem?_nil, List.set_cons_zero, List.set_cons_succ, Nat.reduceAdd, Nat.reduceSub, Nat.reduceLeDiff, Nat.zero_add, updM_same, true_and, List.isEmpty_nil, List.isEmpty_cons, Bool.not_true, Bool.not_false, Bool.not_not, q_revA, e_ra_l, e_ra_s, e_ra_t, e_ra_z, q_star, e_st_l, e_st_s, e_st_t, q_par3, e_p3, q_cont, r_mul2_i, r_mul2_l, r_mul2_s, r_le2_i, r_le2_s, r_lt2_i, r_lt2_s, r_sum, r_max2, r_min2, r_rst, r_spl, r_six, q_callX, q_callKX, q_raise, e_d1, q_try, q_tryW, q_xf, q_isX, e_cau, r_add2_i, r_add2_s, r_add2_t, r_add2_l, r_add2_rl, r_add2_lr, q_sliM, r_slM, q_kdef, q_mix21, q_mix03, q_mkA, q_mkK, q_mk0, e_err, q_fld, q_isV, q_isU, q_m01, q_m02, q_m02s, hn', true_and]
  exact h
def VOk (d : D) : Prop := Itm 20000 4 d
theorem NF_ok : ∀ i, i < 20 → plcN (NF.getD i ("", "")).1 = [i / 2] ∧ (NF.getD i ("", "")).1 ∈ errL := by decide +kernel
theorem plc_NF {i : Nat} (h : i < 20) : plc (NF.getD i ("", "")).1 = [D.int ((i : Int) / 2)] := by
  unfold plc
  rw [(NF_ok i h).1, List.map_cons, List.map_nil]
  congr 2
theorem wl_get {d x : D} {i : Nat} (h : (enumL 0 (wl d))[i]? = some x) : i < 20 ∧ x = .tup [.int (i : Int), .tup [.obj (.err (NF.getD i ("", "")).1) [(NF.getD i ("", "")).2] [d], d]] := by
  rw [enum_get, Nat.zero_add] at h
  obtain ⟨y, hy, e⟩ := Option.map_eq_some_iff.mp h
  unfold wl at hy
  rw [List.getElem?_map] at hy
  obtain ⟨p, hp, e2⟩ := Option.map_eq_some_iff.mp hy
  have hi := (List.getElem?_eq_some_iff.mp hp).1
  have : NF.getD i ("", "") = p := by rw [List.getD_eq_getElem?_getD, hp]; rfl
  rw [this]
  refine ⟨hi, ?_⟩
  rw [← e, ← e2]
theorem plc_of {n : String} {l : List Nat} (h : plcN n = l) : plc n = l.map fun (j : Nat) => D.int (j : Int) := by unfold plc; rw [h]
theorem plc_cl : plc "Clash" = [.int 10] := plc_of (l := [10]) (by decide +kernel)
theorem plc_0 : plc "NotOpen" = [.int (11 + ((0 : Nat) : Int))] := plc_of (l := [11]) (by decide +kernel)
theorem plc_1 : plc "NothingThere" = [.int (11 + ((1 : Nat) : Int))] := plc_of (l := [12]) (by decide +kernel)
theorem plc_2 : plc "NoGoal" = [.int (11 + ((2 : Nat) : Int))] := plc_of (l := [13]) (by decide +kernel)
theorem plc_g : plc "GapError" = [] := plc_of (l := []) (by decide +kernel)
theorem look_one {u v : D} : List.lookup ("one" : Str) ((["other", "one"] : List Str).zip [u, v]) = some v := by
  rw [List.zip_cons_cons, List.zip_cons_cons, List.lookup_cons, List.lookup_cons, show (("one" : Str) == ("other" : Str)) = false by decide +kernel, beq_self_eq_true]
theorem look_other {u v : D} : List.lookup ("other" : Str) ((["other", "one"] : List Str).zip [u, v]) = some u := by
  rw [List.zip_cons_cons, List.lookup_cons, beq_self_eq_true]
def R_l_right : RD := fun xs M F => ∃ d1 d2, xs = [d1, d2] ∧ VOk d1 ∧ VOk d2 ∧ F (.bl true) M
theorem ln_l_right : ∀ xs M F, R_l_right xs M F → xs.length = 2 := fun xs M F ⟨p, a, e, _⟩ => by rw [e]; rfl
theorem rd_l_right : ∀ ds M F, R_l_right ds M F → T_l_right R_l_is_alone R_l_with_one { nx := fun _ M' => F .non M', rt := F } (startD 6 ds) M := by
  intro ds M F ⟨d1, d2, e, h1, h2, h⟩
  subst e
  have li : Itm 50000 6 (.lst [d1, d2]) := (Itm.lst (Itl.cons h1 (Itl.cons h2 (Itl.nil (c := 0))))).mono (by decide) (by decide)
  have r12 := li.repr (by decide) (by decide)
  have r1 := h1.repr (by decide) (by decide)
  simp only [T_l_right, q_v, q_c, q_tup, q_lst, q_op, q_nil, q_cons, q_tst, q_tru, q_andT, q_orT, q_notT, q_andV, q_orV, q_notV, q_ifE, q_next, q_seq, q_asg, q_drop, q_ret, q_retN, q_ifS, q_par, q_isi, q_blt, q_call, q_callK, q_kid, q_kswap, q_chain, q_neg, q_isN, q_notN, q_noO, q_someO, q_sli, q_rev, q_revM, q_bm, q_bm0, q_m1, q_seqI, q_rng, q_rng2, q_enum, q_zip, q_gnm, q_gtp, q_gs0, q_gs1, q_yes, q_put, e_bl, e_int, e_str, e_lst, e_n_non, e_n_bl, e_n_int, e_n_str, e_n_tup, e_n_lst, e_n_slst, e_n_dic, e_n_ref, e_seq_l, e_seq_s, e_seq_t, e_seq_z, e_rev_l, e_rev_s, e_i1, e_i2, e_l1, e_l1s, e_l2, e_p2, e_sl, e_o, e_ob, e_on, e_ml, e_md, e_c, e_tru_b, e_tru_n, e_tru_i, e_tru_t, e_tru_l, t_str_non, t_tup_non, t_int_non, t_bool_non, t_lst_non, t_dict_non, t_str_bl, t_tup_bl, t_int_bl, t_bool_bl, t_lst_bl, t_dict_bl, t_str_int, t_tup_int, t_int_int, t_bool_int, t_lst_int, t_dict_int, t_str_str, t_tup_str, t_int_str, t_bool_str, t_lst_str, t_dict_str, t_str_tup, t_tup_tup, t_int_tup, t_bool_tup, t_lst_tup, t_dict_tup, t_str_lst, t_tup_lst, t_int_lst, t_bool_lst, t_lst_lst, t_dict_lst, t_str_dic, t_tup_dic, t_int_dic, t_bool_dic, t_lst_dic, t_dict_dic, r_add_i, r_add_s, r_add_t, r_add_l, r_sub, r_mul, r_mul_l, r_fdiv, r_mod, r_pow, r_lt, r_ix_l, r_ix_t, r_ix_s, r_ix_rl, r_ix_rd, r_sl_l, r_sl_sl, r_sl_t, r_sl_s, r_len_l, r_len_sl, r_len_t, r_len_s, r_len_r, r_all, r_any, r_tuple_l, r_tuple_sl, r_tuple_t, r_tuple_r, r_list_l, r_list_sl, r_list_t, r_list_r, r_ord, r_repr, r_pop, r_app, r_ext, r_join, r_join_t, r_isl_r, r_isl_l, r_in, r_put_d, r_put_l, r_eq_i, r_eq_s, r_ne_i, r_ne_s, r_eq_t0, r_ne_t0, r_eq_r0, r_ne_r0, r_eq_l0, r_ne_l0, q_lstM, q_frz, e_fz_r, e_fz_non, e_fz_bl, e_fz_int, e_fz_str, e_fz_tup, e_fz_lst, e_fz_dic, q_drp, q_zs, e_zs_tup_tup, e_zs_tup_lst, e_zs_tup_slst, e_zs_lst_tup, e_zs_lst_lst, e_zs_lst_slst, e_zs_slst_tup, e_zs_slst_lst, e_zs_slst_slst, r_mem_s, r_mem_t, r_mem_l, r_int_i, r_int_b, r_listM_l, r_listM_sl, r_listM_t, r_start, wipeD, br_not, br_true, br_false, br_dec, List.map_cons, List.map_nil, List.length_cons, List.length_nil, List.replicate_succ, List.replicate_zero, List.cons_append, List.nil_append, List.getElem?_cons_zero, List.getElem?_cons_succ, List.getElem?_nil, List.set_cons_zero, List.set_cons_succ, Nat.reduceAdd, Nat.reduceSub, Nat.reduceLeDiff, Nat.zero_add, updM_same, true_and, List.isEmpty_nil, List.isEmpty_cons, Bool.not_true, Bool.not_false, Bool.not_not, q_revA, e_ra_l, e_ra_s, e_ra_t, e_ra_z, q_star, e_st_l, e_st_s, e_st_t, q_par3, e_p3, q_cont, r_mul2_i, r_mul2_l, r_mul2_s, r_le2_i, r_le2_s, r_lt2_i, r_lt2_s, r_sum, r_max2, r_min2, r_rst, r_spl, r_six, q_callX, q_callKX, q_raise, e_d1, q_try, q_tryW, q_xf, q_isX, e_cau, r_add2_i, r_add2_s, r_add2_t, r_add2_l, r_add2_rl, r_add2_lr, q_sliM, r_slM, q_kdef, q_mix21, q_mix03, q_mkA, q_mkK, q_mk0, e_err, q_fld, q_isV, q_isU, q_m01, q_m02, q_m02s, q_for]
  refine ⟨r12, d1, rfl, ?_⟩
  simp only [q_v, q_c, q_tup, q_lst, q_op, q_nil, q_cons, q_tst, q_tru, q_andT, q_orT, q_notT, q_andV, q_orV, q_notV, q_ifE, q_next, q_seq, q_asg, q_drop, q_ret, q_retN, q_ifS, q_par, q_isi, q_blt, q_call, q_callK, q_kid, q_kswap, q_chain, q_neg, q_isN, q_notN, q_noO, q_someO, q_sli, q_rev, q_revM, q_bm, q_bm0, q_m1, q_seqI, q_rng, q_rng2, q_enum, q_zip, q_gnm, q_gtp, q_gs0, q_gs1, q_yes, q_put, e_bl, e_int, e_str, e_lst, e_n_non, e_n_bl, e_n_int, e_n_str, e_n_tup, e_n_lst, e_n_slst, e_n_dic, e_n_ref, e_seq_l, e_seq_s, e_seq_t, e_seq_z, e_rev_l, e_rev_s, e_i1, e_i2, e_l1, e_l1s, e_l2, e_p2, e_sl, e_o, e_ob, e_on, e_ml, e_md, e_c, e_tru_b, e_tru_n, e_tru_i, e_tru_t, e_tru_l, t_str_non, t_tup_non, t_int_non, t_bool_non, t_lst_non, t_dict_non, t_str_bl, t_tup_bl, t_int_bl, t_bool_bl, t_lst_bl, t_dict_bl, t_str_int, t_tup_int, t_int_int, t_bool_int, t_lst_int, t_dict_int, t_str_str, t_tup_str, t_int_str, t_bool_str, t_lst_str, t_dict_str, t_str_tup, t_tup_tup, t_int_tup, t_bool_tup, t_lst_tup, t_dict_tup, t_str_lst, t_tup_lst, t_int_lst, t_bool_lst, t_lst_lst, t_dict_lst, t_str_dic, t_tup_dic, t_int_dic, t_bool_dic, t_lst_dic, t_dict_dic, r_add_i, r_add_s, r_add_t, r_add_l, r_sub, r_mul, r_mul_l, r_fdiv, r_mod, r_pow, r_lt, r_ix_l, r_ix_t, r_ix_s, r_ix_rl, r_ix_rd, r_sl_l, r_sl_sl, r_sl_t, r_sl_s, r_len_l, r_len_sl, r_len_t, r_len_s, r_len_r, r_all, r_any, r_tuple_l, r_tuple_sl, r_tuple_t, r_tuple_r, r_list_l, r_list_sl, r_list_t, r_list_r, r_ord, r_repr, r_pop, r_app, r_ext, r_join, r_join_t, r_isl_r, r_isl_l, r_in, r_put_d, r_put_l, r_eq_i, r_eq_s, r_ne_i, r_ne_s, r_eq_t0, r_ne_t0, r_eq_r0, r_ne_r0, r_eq_l0, r_ne_l0, q_lstM, q_frz, e_fz_r, e_fz_non, e_fz_bl, e_fz_int, e_fz_str, e_fz_tup, e_fz_lst, e_fz_dic, q_drp, q_zs, e_zs_tup_tup, e_zs_tup_lst, e_zs_tup_slst, e_zs_lst_tup, e_zs_lst_lst, e_zs_lst_slst, e_zs_slst_tup, e_zs_slst_lst, e_zs_slst_slst, r_mem_s, r_mem_t, r_mem_l, r_int_i, r_int_b, r_listM_l, r_listM_sl, r_listM_t, r_start, wipeD, br_not, br_true, br_false, br_dec, List.map_cons, List.map_nil, List.length_cons, List.length_nil, List.replicate_succ, List.replicate_zero, List.cons_append, List.nil_append, List.getElem?_cons_zero, List.getElem?_cons_succ, List.getElem?_nil, List.set_cons_zero, List.set_cons_succ, Nat.reduceAdd, Nat.reduceSub, Nat.reduceLeDiff, Nat.zero_add, updM_same, true_and, List.isEmpty_nil, List.isEmpty_cons, Bool.not_true, Bool.not_false, Bool.not_not, q_revA, e_ra_l, e_ra_s, e_ra_t, e_ra_z, q_star, e_st_l, e_st_s, e_st_t, q_par3, e_p3, q_cont, r_mul2_i, r_mul2_l, r_mul2_s, r_le2_i, r_le2_s, r_lt2_i, r_lt2_s, r_sum, r_max2, r_min2, r_rst, r_spl, r_six, q_callX, q_callKX, q_raise, e_d1, q_try, q_tryW, q_xf, q_isX, e_cau, r_add2_i, r_add2_s, r_add2_t, r_add2_l, r_add2_rl, r_add2_lr, q_sliM, r_slM, q_kdef, q_mix21, q_mix03, q_mkA, q_mkK, q_mk0, e_err, q_fld, q_isV, q_isU, q_m01, q_m02, q_m02s]
  refine for_inv (fun i ds' M' => M' = M ∧ ∃ x y z, ds' = [some d1, some d2, some (.str (shw (.lst [d1, d2]))), x, y, z]) ⟨rfl, _, _, _, rfl⟩ (fun i d ds' M' hi w => ?_) fun ds' M' w => ?_
  · obtain ⟨rfl, x, y, z, rfl⟩ := w
    obtain ⟨i20, rfl⟩ := wl_get hi
    simp only [q_v, q_c, q_tup, q_lst, q_op, q_nil, q_cons, q_tst, q_tru, q_andT, q_orT, q_notT, q_andV, q_orV, q_notV, q_ifE, q_next, q_seq, q_asg, q_drop, q_ret, q_retN, q_ifS, q_par, q_isi, q_blt, q_call, q_callK, q_kid, q_kswap, q_chain, q_neg, q_isN, q_notN, q_noO, q_someO, q_sli, q_rev, q_revM, q_bm, q_bm0, q_m1, q_seqI, q_rng, q_rng2, q_enum, q_zip, q_gnm, q_gtp, q_gs0, q_gs1, q_yes, q_put, e_bl, e_int, e_str, e_lst, e_n_non, e_n_bl, e_n_int, e_n_str, e_n_tup, e_n_lst, e_n_slst, e_n_dic, e_n_ref, e_seq_l, e_seq_s, e_seq_t, e_seq_z, e_rev_l, e_rev_s, e_i1, e_i2, e_l1, e_l1s, e_l2, e_p2, e_sl, e_o, e_ob, e_on, e_ml, e_md, e_c, e_tru_b, e_tru_n, e_tru_i, e_tru_t, e_tru_l, t_str_non, t_tup_non, t_int_non, t_bool_non, t_lst_non, t_dict_non, t_str_bl, t_tup_bl, t_int_bl, t_bool_bl, t_lst_bl, t_dict_bl, t_str_int, t_tup_int, t_int_int, t_bool_int, t_lst_int, t_dict_int, t_str_str, t_tup_str, t_int_str, t_bool_str, t_lst_str, t_dict_str, t_str_tup, t_tup_tup, t_int_tup, t_bool_tup, t_lst_tup, t_dict_tup, t_str_lst, t_tup_lst, t_int_lst, t_bool_lst, t_lst_lst, t_dict_lst, t_str_dic, t_tup_dic, t_int_dic, t_bool_dic, t_lst_dic, t_dict_dic, r_add_i, r_add_s, r_add_t, r_add_l, r_sub, r_mul, r_mul_l, r_fdiv, r_mod, r_pow, r_lt, r_ix_l, r_ix_t, r_ix_s, r_ix_rl, r_ix_rd, r_sl_l, r_sl_sl, r_sl_t, r_sl_s, r_len_l, r_len_sl, r_len_t, r_len_s, r_len_r, r_all, r_any, r_tuple_l, r_tuple_sl, r_tuple_t, r_tuple_r, r_list_l, r_list_sl, r_list_t, r_list_r, r_ord, r_repr, r_pop, r_app, r_ext, r_join, r_join_t, r_isl_r, r_isl_l, r_in, r_put_d, r_put_l, r_eq_i, r_eq_s, r_ne_i, r_ne_s, r_eq_t0, r_ne_t0, r_eq_r0, r_ne_r0, r_eq_l0, r_ne_l0, q_lstM, q_frz, e_fz_r, e_fz_non, e_fz_bl, e_fz_int, e_fz_str, e_fz_tup, e_fz_lst, e_fz_dic, q_drp, q_zs, e_zs_tup_tup, e_zs_tup_lst, e_zs_tup_slst, e_zs_lst_tup, e_zs_lst_lst, e_zs_lst_slst, e_zs_slst_tup, e_zs_slst_lst, e_zs_slst_slst, r_mem_s, r_mem_t, r_mem_l, r_int_i, r_int_b, r_listM_l, r_listM_sl, r_listM_t, r_start, wipeD, br_not, br_true, br_false, br_dec, List.map_cons, List.map_nil, List.length_cons, List.length_nil, List.replicate_succ, List.replicate_zero, List.cons_append, List.nil_append, List.getElem?_cons_zero, List.getElem?_cons_succ, List.getElem?_nil, List.set_cons_zero, List.set_cons_succ, Nat.reduceAdd, Nat.reduceSub, Nat.reduceLeDiff, Nat.zero_add, updM_same, true_and, List.isEmpty_nil, List.isEmpty_cons, Bool.not_true, Bool.not_false, Bool.not_not, q_revA, e_ra_l, e_ra_s, e_ra_t, e_ra_z, q_star, e_st_l, e_st_s, e_st_t, q_par3, e_p3, q_cont, r_mul2_i, r_mul2_l, r_mul2_s, r_le2_i, r_le2_s, r_lt2_i, r_lt2_s, r_sum, r_max2, r_min2, r_rst, r_spl, r_six, q_callX, q_callKX, q_raise, e_d1, q_try, q_tryW, q_xf, q_isX, e_cau, r_add2_i, r_add2_s, r_add2_t, r_add2_l, r_add2_rl, r_add2_lr, q_sliM, r_slM, q_kdef, q_mix21, q_mix03, q_mkA, q_mkK, q_mk0, e_err, q_fld, q_isV, q_isU, q_m01, q_m02, q_m02s]
    refine ⟨by decide, _, _, _, by rw [plc_NF i20], (NF_ok i i20).2, ?_⟩
    simp only [q_v, q_c, q_tup, q_lst, q_op, q_nil, q_cons, q_tst, q_tru, q_andT, q_orT, q_notT, q_andV, q_orV, q_notV, q_ifE, q_next, q_seq, q_asg, q_drop, q_ret, q_retN, q_ifS, q_par, q_isi, q_blt, q_call, q_callK, q_kid, q_kswap, q_chain, q_neg, q_isN, q_notN, q_noO, q_someO, q_sli, q_rev, q_revM, q_bm, q_bm0, q_m1, q_seqI, q_rng, q_rng2, q_enum, q_zip, q_gnm, q_gtp, q_gs0, q_gs1, q_yes, q_put, e_bl, e_int, e_str, e_lst, e_n_non, e_n_bl, e_n_int, e_n_str, e_n_tup, e_n_lst, e_n_slst, e_n_dic, e_n_ref, e_seq_l, e_seq_s, e_seq_t, e_seq_z, e_rev_l, e_rev_s, e_i1, e_i2, e_l1, e_l1s, e_l2, e_p2, e_sl, e_o, e_ob, e_on, e_ml, e_md, e_c, e_tru_b, e_tru_n, e_tru_i, e_tru_t, e_tru_l, t_str_non, t_tup_non, t_int_non, t_bool_non, t_lst_non, t_dict_non, t_str_bl, t_tup_bl, t_int_bl, t_bool_bl, t_lst_bl, t_dict_bl, t_str_int, t_tup_int, t_int_int, t_bool_int, t_lst_int, t_dict_int, t_str_str, t_tup_str, t_int_str, t_bool_str, t_lst_str, t_dict_str, t_str_tup, t_tup_tup, t_int_tup, t_bool_tup, t_lst_tup, t_dict_tup, t_str_lst, t_tup_lst, t_int_lst, t_bool_lst, t_lst_lst, t_dict_lst, t_str_dic, t_tup_dic, t_int_dic, t_bool_dic, t_lst_dic, t_dict_dic, r_add_i, r_add_s, r_add_t, r_add_l, r_sub, r_mul, r_mul_l, r_fdiv, r_mod, r_pow, r_lt, r_ix_l, r_ix_t, r_ix_s, r_ix_rl, r_ix_rd, r_sl_l, r_sl_sl, r_sl_t, r_sl_s, r_len_l, r_len_sl, r_len_t, r_len_s, r_len_r, r_all, r_any, r_tuple_l, r_tuple_sl, r_tuple_t, r_tuple_r, r_list_l, r_list_sl, r_list_t, r_list_r, r_ord, r_repr, r_pop, r_app, r_ext, r_join, r_join_t, r_isl_r, r_isl_l, r_in, r_put_d, r_put_l, r_eq_i, r_eq_s, r_ne_i, r_ne_s, r_eq_t0, r_ne_t0, r_eq_r0, r_ne_r0, r_eq_l0, r_ne_l0, q_lstM, q_frz, e_fz_r, e_fz_non, e_fz_bl, e_fz_int, e_fz_str, e_fz_tup, e_fz_lst, e_fz_dic, q_drp, q_zs, e_zs_tup_tup, e_zs_tup_lst, e_zs_tup_slst, e_zs_lst_tup, e_zs_lst_lst, e_zs_lst_slst, e_zs_slst_tup, e_zs_slst_lst, e_zs_slst_slst, r_mem_s, r_mem_t, r_mem_l, r_int_i, r_int_b, r_listM_l, r_listM_sl, r_listM_t, r_start, wipeD, br_not, br_true, br_false, br_dec, List.map_cons, List.map_nil, List.length_cons, List.length_nil, List.replicate_succ, List.replicate_zero, List.cons_append, List.nil_append, List.getElem?_cons_zero, List.getElem?_cons_succ, List.getElem?_nil, List.set_cons_zero, List.set_cons_succ, Nat.reduceAdd, Nat.reduceSub, Nat.reduceLeDiff, Nat.zero_add, updM_same, true_and, List.isEmpty_nil, List.isEmpty_cons, Bool.not_true, Bool.not_false, Bool.not_not, q_revA, e_ra_l, e_ra_s, e_ra_t, e_ra_z, q_star, e_st_l, e_st_s, e_st_t, q_par3, e_p3, q_cont, r_mul2_i, r_mul2_l, r_mul2_s, r_le2_i, r_le2_s, r_lt2_i, r_lt2_s, r_sum, r_max2, r_min2, r_rst, r_spl, r_six, q_callX, q_callKX, q_raise, e_d1, q_try, q_tryW, q_xf, q_isX, e_cau, r_add2_i, r_add2_s, r_add2_t, r_add2_l, r_add2_rl, r_add2_lr, q_sliM, r_slM, q_kdef, q_mix21, q_mix03, q_mkA, q_mkK, q_mk0, e_err, q_fld, q_isV, q_isU, q_m01, q_m02, q_m02s]
    exact ⟨r1, r1, fun _ => ⟨_, _, _, rfl⟩, fun z => absurd trivial z⟩
  · obtain ⟨rfl, x, y, z, rfl⟩ := w
    simp only [q_v, q_c, q_tup, q_lst, q_op, q_nil, q_cons, q_tst, q_tru, q_andT, q_orT, q_notT, q_andV, q_orV, q_notV, q_ifE, q_next, q_seq, q_asg, q_drop, q_ret, q_retN, q_ifS, q_par, q_isi, q_blt, q_call, q_callK, q_kid, q_kswap, q_chain, q_neg, q_isN, q_notN, q_noO, q_someO, q_sli, q_rev, q_revM, q_bm, q_bm0, q_m1, q_seqI, q_rng, q_rng2, q_enum, q_zip, q_gnm, q_gtp, q_gs0, q_gs1, q_yes, q_put, e_bl, e_int, e_str, e_lst, e_n_non, e_n_bl, e_n_int, e_n_str, e_n_tup, e_n_lst, e_n_slst, e_n_dic, e_n_ref, e_seq_l, e_seq_s, e_seq_t, e_seq_z, e_rev_l, e_rev_s, e_i1, e_i2, e_l1, e_l1s, e_l2, e_p2, e_sl, e_o, e_ob, e_on, e_ml, e_md, e_c, e_tru_b, e_tru_n, e_tru_i, e_tru_t, e_tru_l, t_str_non, t_tup_non, t_int_non, t_bool_non, t_lst_non, t_dict_non, t_str_bl, t_tup_bl, t_int_bl, t_bool_bl, t_lst_bl, t_dict_bl, t_str_int, t_tup_int, t_int_int, t_bool_int, t_lst_int, t_dict_int, t_str_str, t_tup_str, t_int_str, t_bool_str, t_lst_str, t_dict_str, t_str_tup, t_tup_tup, t_int_tup, t_bool_tup, t_lst_tup, t_dict_tup, t_str_lst, t_tup_lst, t_int_lst, t_bool_lst, t_lst_lst, t_dict_lst, t_str_dic, t_tup_dic, t_int_dic, t_bool_dic, t_lst_dic, t_dict_dic, r_add_i, r_add_s, r_add_t, r_add_l, r_sub, r_mul, r_mul_l, r_fdiv, r_mod, r_pow, r_lt, r_ix_l, r_ix_t, r_ix_s, r_ix_rl, r_ix_rd, r_sl_l, r_sl_sl, r_sl_t, r_sl_s, r_len_l, r_len_sl, r_len_t, r_len_s, r_len_r, r_all, r_any, r_tuple_l, r_tuple_sl, r_tuple_t, r_tuple_r, r_list_l, r_list_sl, r_list_t, r_list_r, r_ord, r_repr, r_pop, r_app, r_ext, r_join, r_join_t, r_isl_r, r_isl_l, r_in, r_put_d, r_put_l, r_eq_i, r_eq_s, r_ne_i, r_ne_s, r_eq_t0, r_ne_t0, r_eq_r0, r_ne_r0, r_eq_l0, r_ne_l0, q_lstM, q_frz, e_fz_r, e_fz_non, e_fz_bl, e_fz_int, e_fz_str, e_fz_tup, e_fz_lst, e_fz_dic, q_drp, q_zs, e_zs_tup_tup, e_zs_tup_lst, e_zs_tup_slst, e_zs_lst_tup, e_zs_lst_lst, e_zs_lst_slst, e_zs_slst_tup, e_zs_slst_lst, e_zs_slst_slst, r_mem_s, r_mem_t, r_mem_l, r_int_i, r_int_b, r_listM_l, r_listM_sl, r_listM_t, r_start, wipeD, br_not, br_true, br_false, br_dec, List.map_cons, List.map_nil, List.length_cons, List.length_nil, List.replicate_succ, List.replicate_zero, List.cons_append, List.nil_append, List.getElem?_cons_zero, List.getElem?_cons_succ, List.getElem?_nil, List.set_cons_zero, List.set_cons_succ, Nat.reduceAdd, Nat.reduceSub, Nat.reduceLeDiff, Nat.zero_add, updM_same, true_and, List.isEmpty_nil, List.isEmpty_cons, Bool.not_true, Bool.not_false, Bool.not_not, q_revA, e_ra_l, e_ra_s, e_ra_t, e_ra_z, q_star, e_st_l, e_st_s, e_st_t, q_par3, e_p3, q_cont, r_mul2_i, r_mul2_l, r_mul2_s, r_le2_i, r_le2_s, r_lt2_i, r_lt2_s, r_sum, r_max2, r_min2, r_rst, r_spl, r_six, q_callX, q_callKX, q_raise, e_d1, q_try, q_tryW, q_xf, q_isX, e_cau, r_add2_i, r_add2_s, r_add2_t, r_add2_l, r_add2_rl, r_add2_lr, q_sliM, r_slM, q_kdef, q_mix21, q_mix03, q_mkA, q_mkK, q_mk0, e_err, q_fld, q_isV, q_isU, q_m01, q_m02, q_m02s, q_for, rv2]
    refine for_inv (fun i ds' M2 => M2 = M' ∧ ∃ x y z, ds' = [some d1, some d2, some (.str (shw (.lst [d1, d2]))), x, y, z]) ⟨rfl, _, _, _, rfl⟩ (fun i d ds' M2 hi w => ?_) fun ds' M2 w => ?_
    · obtain ⟨rfl, x, y, z, rfl⟩ := w
      have hd : d = D.obj (.err "Clash") ["other", "one"] [d2, d1] := by
        have := List.mem_of_getElem? hi
        simp only [List.mem_cons, List.not_mem_nil, or_false, or_self] at this
        exact this
      subst hd
      simp only [q_v, q_c, q_tup, q_lst, q_op, q_nil, q_cons, q_tst, q_tru, q_andT, q_orT, q_notT, q_andV, q_orV, q_notV, q_ifE, q_next, q_seq, q_asg, q_drop, q_ret, q_retN, q_ifS, q_par, q_isi, q_blt, q_call, q_callK, q_kid, q_kswap, q_chain, q_neg, q_isN, q_notN, q_noO, q_someO, q_sli, q_rev, q_revM, q_bm, q_bm0, q_m1, q_seqI, q_rng, q_rng2, q_enum, q_zip, q_gnm, q_gtp, q_gs0, q_gs1, q_yes, q_put, e_bl, e_int, e_str, e_lst, e_n_non, e_n_bl, e_n_int, e_n_str, e_n_tup, e_n_lst, e_n_slst, e_n_dic, e_n_ref, e_seq_l, e_seq_s, e_seq_t, e_seq_z, e_rev_l, e_rev_s, e_i1, e_i2, e_l1, e_l1s, e_l2, e_p2, e_sl, e_o, e_ob, e_on, e_ml, e_md, e_c, e_tru_b, e_tru_n, e_tru_i, e_tru_t, e_tru_l, t_str_non, t_tup_non, t_int_non, t_bool_non, t_lst_non, t_dict_non, t_str_bl, t_tup_bl, t_int_bl, t_bool_bl, t_lst_bl, t_dict_bl, t_str_int, t_tup_int, t_int_int, t_bool_int, t_lst_int, t_dict_int, t_str_str, t_tup_str, t_int_str, t_bool_str, t_lst_str, t_dict_str, t_str_tup, t_tup_tup, t_int_tup, t_bool_tup, t_lst_tup, t_dict_tup, t_str_lst, t_tup_lst, t_int_lst, t_bool_lst, t_lst_lst, t_dict_lst, t_str_dic, t_tup_dic, t_int_dic, t_bool_dic, t_lst_dic, t_dict_dic, r_add_i, r_add_s, r_add_t, r_add_l, r_sub, r_mul, r_mul_l, r_fdiv, r_mod, r_pow, r_lt, r_ix_l, r_ix_t, r_ix_s, r_ix_rl, r_ix_rd, r_sl_l, r_sl_sl, r_sl_t, r_sl_s, r_len_l, r_len_sl, r_len_t, r_len_s, r_len_r, r_all, r_any, r_tuple_l, r_tuple_sl, r_tuple_t, r_tuple_r, r_list_l, r_list_sl, r_list_t, r_list_r, r_ord, r_repr, r_pop, r_app, r_ext, r_join, r_join_t, r_isl_r, r_isl_l, r_in, r_put_d, r_put_l, r_eq_i, r_eq_s, r_ne_i, r_ne_s, r_eq_t0, r_ne_t0, r_eq_r0, r_ne_r0, r_eq_l0, r_ne_l0, q_lstM, q_frz, e_fz_r, e_fz_non, e_fz_bl, e_fz_int, e_fz_str, e_fz_tup, e_fz_lst, e_fz_dic, q_drp, q_zs, e_zs_tup_tup, e_zs_tup_lst, e_zs_tup_slst, e_zs_lst_tup, e_zs_lst_lst, e_zs_lst_slst, e_zs_slst_tup, e_zs_slst_lst, e_zs_slst_slst, r_mem_s, r_mem_t, r_mem_l, r_int_i, r_int_b, r_listM_l, r_listM_sl, r_listM_t, r_start, wipeD, br_not, br_true, br_false, br_dec, List.map_cons, List.map_nil, List.length_cons, List.length_nil, List.replicate_succ, List.replicate_zero, List.cons_append, List.nil_append, List.getElem?_cons_zero, List.getElem?_cons_succ, List.getElem?_nil, List.set_cons_zero, List.set_cons_succ, Nat.reduceAdd, Nat.reduceSub, Nat.reduceLeDiff, Nat.zero_add, updM_same, true_and, List.isEmpty_nil, List.isEmpty_cons, Bool.not_true, Bool.not_false, Bool.not_not, q_revA, e_ra_l, e_ra_s, e_ra_t, e_ra_z, q_star, e_st_l, e_st_s, e_st_t, q_par3, e_p3, q_cont, r_mul2_i, r_mul2_l, r_mul2_s, r_le2_i, r_le2_s, r_lt2_i, r_lt2_s, r_sum, r_max2, r_min2, r_rst, r_spl, r_six, q_callX, q_callKX, q_raise, e_d1, q_try, q_tryW, q_xf, q_isX, e_cau, r_add2_i, r_add2_s, r_add2_t, r_add2_l, r_add2_rl, r_add2_lr, q_sliM, r_slM, q_kdef, q_mix21, q_mix03, q_mkA, q_mkK, q_mk0, e_err, q_fld, q_isV, q_isU, q_m01, q_m02, q_m02s]
      refine ⟨"Clash", _, _, by rw [plc_cl], by decide +kernel, ?_⟩
      simp only [q_v, q_c, q_tup, q_lst, q_op, q_nil, q_cons, q_tst, q_tru, q_andT, q_orT, q_notT, q_andV, q_orV, q_notV, q_ifE, q_next, q_seq, q_asg, q_drop, q_ret, q_retN, q_ifS, q_par, q_isi, q_blt, q_call, q_callK, q_kid, q_kswap, q_chain, q_neg, q_isN, q_notN, q_noO, q_someO, q_sli, q_rev, q_revM, q_bm, q_bm0, q_m1, q_seqI, q_rng, q_rng2, q_enum, q_zip, q_gnm, q_gtp, q_gs0, q_gs1, q_yes, q_put, e_bl, e_int, e_str, e_lst, e_n_non, e_n_bl, e_n_int, e_n_str, e_n_tup, e_n_lst, e_n_slst, e_n_dic, e_n_ref, e_seq_l, e_seq_s, e_seq_t, e_seq_z, e_rev_l, e_rev_s, e_i1, e_i2, e_l1, e_l1s, e_l2, e_p2, e_sl, e_o, e_ob, e_on, e_ml, e_md, e_c, e_tru_b, e_tru_n, e_tru_i, e_tru_t, e_tru_l, t_str_non, t_tup_non, t_int_non, t_bool_non, t_lst_non, t_dict_non, t_str_bl, t_tup_bl, t_int_bl, t_bool_bl, t_lst_bl, t_dict_bl, t_str_int, t_tup_int, t_int_int, t_bool_int, t_lst_int, t_dict_int, t_str_str, t_tup_str, t_int_str, t_bool_str, t_lst_str, t_dict_str, t_str_tup, t_tup_tup, t_int_tup, t_bool_tup, t_lst_tup, t_dict_tup, t_str_lst, t_tup_lst, t_int_lst, t_bool_lst, t_lst_lst, t_dict_lst, t_str_dic, t_tup_dic, t_int_dic, t_bool_dic, t_lst_dic, t_dict_dic, r_add_i, r_add_s, r_add_t, r_add_l, r_sub, r_mul, r_mul_l, r_fdiv, r_mod, r_pow, r_lt, r_ix_l, r_ix_t, r_ix_s, r_ix_rl, r_ix_rd, r_sl_l, r_sl_sl, r_sl_t, r_sl_s, r_len_l, r_len_sl, r_len_t, r_len_s, r_len_r, r_all, r_any, r_tuple_l, r_tuple_sl, r_tuple_t, r_tuple_r, r_list_l, r_list_sl, r_list_t, r_list_r, r_ord, r_repr, r_pop, r_app, r_ext, r_join, r_join_t, r_isl_r, r_isl_l, r_in, r_put_d, r_put_l, r_eq_i, r_eq_s, r_ne_i, r_ne_s, r_eq_t0, r_ne_t0, r_eq_r0, r_ne_r0, r_eq_l0, r_ne_l0, q_lstM, q_frz, e_fz_r, e_fz_non, e_fz_bl, e_fz_int, e_fz_str, e_fz_tup, e_fz_lst, e_fz_dic, q_drp, q_zs, e_zs_tup_tup, e_zs_tup_lst, e_zs_tup_slst, e_zs_lst_tup, e_zs_lst_lst, e_zs_lst_slst, e_zs_slst_tup, e_zs_slst_lst, e_zs_slst_slst, r_mem_s, r_mem_t, r_mem_l, r_int_i, r_int_b, r_listM_l, r_listM_sl, r_listM_t, r_start, wipeD, br_not, br_true, br_false, br_dec, List.map_cons, List.map_nil, List.length_cons, List.length_nil, List.replicate_succ, List.replicate_zero, List.cons_append, List.nil_append, List.getElem?_cons_zero, List.getElem?_cons_succ, List.getElem?_nil, List.set_cons_zero, List.set_cons_succ, Nat.reduceAdd, Nat.reduceSub, Nat.reduceLeDiff, Nat.zero_add, updM_same, true_and, List.isEmpty_nil, List.isEmpty_cons, Bool.not_true, Bool.not_false, Bool.not_not, q_revA, e_ra_l, e_ra_s, e_ra_t, e_ra_z, q_star, e_st_l, e_st_s, e_st_t, q_par3, e_p3, q_cont, r_mul2_i, r_mul2_l, r_mul2_s, r_le2_i, r_le2_s, r_lt2_i, r_lt2_s, r_sum, r_max2, r_min2, r_rst, r_spl, r_six, q_callX, q_callKX, q_raise, e_d1, q_try, q_tryW, q_xf, q_isX, e_cau, r_add2_i, r_add2_s, r_add2_t, r_add2_l, r_add2_rl, r_add2_lr, q_sliM, r_slM, q_kdef, q_mix21, q_mix03, q_mkA, q_mkK, q_mk0, e_err, q_fld, q_isV, q_isU, q_m01, q_m02, q_m02s, look_one, look_other, true_and]
      exact ⟨r12, r12, fun _ => ⟨_, _, _, rfl⟩, fun z => absurd trivial z⟩
    · obtain ⟨rfl, x, y, z, rfl⟩ := w
      simp only [q_v, q_c, q_tup, q_lst, q_op, q_nil, q_cons, q_tst, q_tru, q_andT, q_orT, q_notT, q_andV, q_orV, q_notV, q_ifE, q_next, q_seq, q_asg, q_drop, q_ret, q_retN, q_ifS, q_par, q_isi, q_blt, q_call, q_callK, q_kid, q_kswap, q_chain, q_neg, q_isN, q_notN, q_noO, q_someO, q_sli, q_rev, q_revM, q_bm, q_bm0, q_m1, q_seqI, q_rng, q_rng2, q_enum, q_zip, q_gnm, q_gtp, q_gs0, q_gs1, q_yes, q_put, e_bl, e_int, e_str, e_lst, e_n_non, e_n_bl, e_n_int, e_n_str, e_n_tup, e_n_lst, e_n_slst, e_n_dic, e_n_ref, e_seq_l, e_seq_s, e_seq_t, e_seq_z, e_rev_l, e_rev_s, e_i1, e_i2, e_l1, e_l1s, e_l2, e_p2, e_sl, e_o, e_ob, e_on, e_ml, e_md, e_c, e_tru_b, e_tru_n, e_tru_i, e_tru_t, e_tru_l, t_str_non, t_tup_non, t_int_non, t_bool_non, t_lst_non, t_dict_non, t_str_bl, t_tup_bl, t_int_bl, t_bool_bl, t_lst_bl, t_dict_bl, t_str_int, t_tup_int, t_int_int, t_bool_int, t_lst_int, t_dict_int, t_str_str, t_tup_str, t_int_str, t_bool_str, t_lst_str, t_dict_str, t_str_tup, t_tup_tup, t_int_tup, t_bool_tup, t_lst_tup, t_dict_tup, t_str_lst, t_tup_lst, t_int_lst, t_bool_lst, t_lst_lst, t_dict_lst, t_str_dic, t_tup_dic, t_int_dic, t_bool_dic, t_lst_dic, t_dict_dic, r_add_i, r_add_s, r_add_t, r_add_l, r_sub, r_mul, r_mul_l, r_fdiv, r_mod, r_pow, r_lt, r_ix_l, r_ix_t, r_ix_s, r_ix_rl, r_ix_rd, r_sl_l, r_sl_sl, r_sl_t, r_sl_s, r_len_l, r_len_sl, r_len_t, r_len_s, r_len_r, r_all, r_any, r_tuple_l, r_tuple_sl, r_tuple_t, r_tuple_r, r_list_l, r_list_sl, r_list_t, r_list_r, r_ord, r_repr, r_pop, r_app, r_ext, r_join, r_join_t, r_isl_r, r_isl_l, r_in, r_put_d, r_put_l, r_eq_i, r_eq_s, r_ne_i, r_ne_s, r_eq_t0, r_ne_t0, r_eq_r0, r_ne_r0, r_eq_l0, r_ne_l0, q_lstM, q_frz, e_fz_r, e_fz_non, e_fz_bl, e_fz_int, e_fz_str, e_fz_tup, e_fz_lst, e_fz_dic, q_drp, q_zs, e_zs_tup_tup, e_zs_tup_lst, e_zs_tup_slst, e_zs_lst_tup, e_zs_lst_lst, e_zs_lst_slst, e_zs_slst_tup, e_zs_slst_lst, e_zs_slst_slst, r_mem_s, r_mem_t, r_mem_l, r_int_i, r_int_b, r_listM_l, r_listM_sl, r_listM_t, r_start, wipeD, br_not, br_true, br_false, br_dec, List.map_cons, List.map_nil, List.length_cons, List.length_nil, List.replicate_succ, List.replicate_zero, List.cons_append, List.nil_append, List.getElem?_cons_zero, List.getElem?_cons_succ, List.getElem?_nil, List.set_cons_zero, List.set_cons_succ, Nat.reduceAdd, Nat.reduceSub, Nat.reduceLeDiff, Nat.zero_add, updM_same, true_and, List.isEmpty_nil, List.isEmpty_cons, Bool.not_true, Bool.not_false, Bool.not_not, q_revA, e_ra_l, e_ra_s, e_ra_t, e_ra_z, q_star, e_st_l, e_st_s, e_st_t, q_par3, e_p3, q_cont, r_mul2_i, r_mul2_l, r_mul2_s, r_le2_i, r_le2_s, r_lt2_i, r_lt2_s, r_sum, r_max2, r_min2, r_rst, r_spl, r_six, q_callX, q_callKX, q_raise, e_d1, q_try, q_tryW, q_xf, q_isX, e_cau, r_add2_i, r_add2_s, r_add2_t, r_add2_l, r_add2_rl, r_add2_lr, q_sliM, r_slM, q_kdef, q_mix21, q_mix03, q_mkA, q_mkK, q_mk0, e_err, q_fld, q_isV, q_isU, q_m01, q_m02, q_m02s, q_for]
      refine for_inv (fun i ds' M3 => M3 = M2 ∧ ∃ x y z, ds' = [some d1, some d2, some (.str (shw (.lst [d1, d2]))), x, y, z]) ⟨rfl, _, _, _, rfl⟩ (fun i d ds' M3 hi w => ?_) fun ds' M3 w => ?_
      · obtain ⟨rfl, x, y, z, rfl⟩ := w
        rw [enum_get, Nat.zero_add] at hi
        obtain ⟨q, hq, rfl⟩ := Option.map_eq_some_iff.mp hi
        have i3 : i < 3 := (List.getElem?_eq_some_iff.mp hq).1
        obtain ⟨n, en, pn, mn⟩ : ∃ n, q = .obj (.err n) [] [] ∧ plc n = [.int (11 + (i : Int))] ∧ n ∈ errL := by
          have hc : i = 0 ∨ i = 1 ∨ i = 2 := by omega
          rcases hc with rfl | rfl | rfl
          · cases hq; exact ⟨_, rfl, plc_0, by decide +kernel⟩
          · cases hq; exact ⟨_, rfl, plc_1, by decide +kernel⟩
          · cases hq; exact ⟨_, rfl, plc_2, by decide +kernel⟩
        subst en
        simp only [q_v, q_c, q_tup, q_lst, q_op, q_nil, q_cons, q_tst, q_tru, q_andT, q_orT, q_notT, q_andV, q_orV, q_notV, q_ifE, q_next, q_seq, q_asg, q_drop, q_ret, q_retN, q_ifS, q_par, q_isi, q_blt, q_call, q_callK, q_kid, q_kswap, q_chain, q_neg, q_isN, q_notN, q_noO, q_someO, q_sli, q_rev, q_revM, q_bm, q_bm0, q_m1, q_seqI, q_rng, q_rng2, q_enum, q_zip, q_gnm, q_gtp, q_gs0, q_gs1, q_yes, q_put, e_bl, e_int, e_str, e_lst, e_n_non, e_n_bl, e_n_int, e_n_str, e_n_tup, e_n_lst, e_n_slst, e_n_dic, e_n_ref, e_seq_l, e_seq_s, e_seq_t, e_seq_z, e_rev_l, e_rev_s, e_i1, e_i2, e_l1, e_l1s, e_l2, e_p2, e_sl, e_o, e_ob, e_on, e_ml, e_md, e_c, e_tru_b, e_tru_n, e_tru_i, e_tru_t, e_tru_l, t_str_non, t_tup_non, t_int_non, t_bool_non, t_lst_non, t_dict_non, t_str_bl, t_tup_bl, t_int_bl, t_bool_bl, t_lst_bl, t_dict_bl, t_str_int, t_tup_int, t_int_int, t_bool_int, t_lst_int, t_dict_int, t_str_str, t_tup_str, t_int_str, t_bool_str, t_lst_str, t_dict_str, t_str_tup, t_tup_tup, t_int_tup, t_bool_tup, t_lst_tup, t_dict_tup, t_str_lst, t_tup_lst, t_int_lst, t_bool_lst, t_lst_lst, t_dict_lst, t_str_dic, t_tup_dic, t_int_dic, t_bool_dic, t_lst_dic, t_dict_dic, r_add_i, r_add_s, r_add_t, r_add_l, r_sub, r_mul, r_mul_l, r_fdiv, r_mod, r_pow, r_lt, r_ix_l, r_ix_t, r_ix_s, r_ix_rl, r_ix_rd, r_sl_l, r_sl_sl, r_sl_t, r_sl_s, r_len_l, r_len_sl, r_len_t, r_len_s, r_len_r, r_all, r_any, r_tuple_l, r_tuple_sl, r_tuple_t, r_tuple_r, r_list_l, r_list_sl, r_list_t, r_list_r, r_ord, r_repr, r_pop, r_app, r_ext, r_join, r_join_t, r_isl_r, r_isl_l, r_in, r_put_d, r_put_l, r_eq_i, r_eq_s, r_ne_i, r_ne_s, r_eq_t0, r_ne_t0, r_eq_r0, r_ne_r0, r_eq_l0, r_ne_l0, q_lstM, q_frz, e_fz_r, e_fz_non, e_fz_bl, e_fz_int, e_fz_str, e_fz_tup, e_fz_lst, e_fz_dic, q_drp, q_zs, e_zs_tup_tup, e_zs_tup_lst, e_zs_tup_slst, e_zs_lst_tup, e_zs_lst_lst, e_zs_lst_slst, e_zs_slst_tup, e_zs_slst_lst, e_zs_slst_slst, r_mem_s, r_mem_t, r_mem_l, r_int_i, r_int_b, r_listM_l, r_listM_sl, r_listM_t, r_start, wipeD, br_not, br_true, br_false, br_dec, List.map_cons, List.map_nil, List.length_cons, List.length_nil, List.replicate_succ, List.replicate_zero, List.cons_append, List.nil_append, List.getElem?_cons_zero, List.getElem?_cons_succ, List.getElem?_nil, List.set_cons_zero, List.set_cons_succ, Nat.reduceAdd, Nat.reduceSub, Nat.reduceLeDiff, Nat.zero_add, updM_same, true_and, List.isEmpty_nil, List.isEmpty_cons, Bool.not_true, Bool.not_false, Bool.not_not, q_revA, e_ra_l, e_ra_s, e_ra_t, e_ra_z, q_star, e_st_l, e_st_s, e_st_t, q_par3, e_p3, q_cont, r_mul2_i, r_mul2_l, r_mul2_s, r_le2_i, r_le2_s, r_lt2_i, r_lt2_s, r_sum, r_max2, r_min2, r_rst, r_spl, r_six, q_callX, q_callKX, q_raise, e_d1, q_try, q_tryW, q_xf, q_isX, e_cau, r_add2_i, r_add2_s, r_add2_t, r_add2_l, r_add2_rl, r_add2_lr, q_sliM, r_slM, q_kdef, q_mix21, q_mix03, q_mkA, q_mkK, q_mk0, e_err, q_fld, q_isV, q_isU, q_m01, q_m02, q_m02s]
        refine ⟨n, _, _, by rw [pn], mn, ?_⟩
        simp only [q_v, q_c, q_tup, q_lst, q_op, q_nil, q_cons, q_tst, q_tru, q_andT, q_orT, q_notT, q_andV, q_orV, q_notV, q_ifE, q_next, q_seq, q_asg, q_drop, q_ret, q_retN, q_ifS, q_par, q_isi, q_blt, q_call, q_callK, q_kid, q_kswap, q_chain, q_neg, q_isN, q_notN, q_noO, q_someO, q_sli, q_rev, q_revM, q_bm, q_bm0, q_m1, q_seqI, q_rng, q_rng2, q_enum, q_zip, q_gnm, q_gtp, q_gs0, q_gs1, q_yes, q_put, e_bl, e_int, e_str, e_lst, e_n_non, e_n_bl, e_n_int, e_n_str, e_n_tup, e_n_lst, e_n_slst, e_n_dic, e_n_ref, e_seq_l, e_seq_s, e_seq_t, e_seq_z, e_rev_l, e_rev_s, e_i1, e_i2, e_l1, e_l1s, e_l2, e_p2, e_sl, e_o, e_ob, e_on, e_ml, e_md, e_c, e_tru_b, e_tru_n, e_tru_i, e_tru_t, e_tru_l, t_str_non, t_tup_non, t_int_non, t_bool_non, t_lst_non, t_dict_non, t_str_bl, t_tup_bl, t_int_bl, t_bool_bl, t_lst_bl, t_dict_bl, t_str_int, t_tup_int, t_int_int, t_bool_int, t_lst_int, t_dict_int, t_str_str, t_tup_str, t_int_str, t_bool_str, t_lst_str, t_dict_str, t_str_tup, t_tup_tup, t_int_tup, t_bool_tup, t_lst_tup, t_dict_tup, t_str_lst, t_tup_lst, t_int_lst, t_bool_lst, t_lst_lst, t_dict_lst, t_str_dic, t_tup_dic, t_int_dic, t_bool_dic, t_lst_dic, t_dict_dic, r_add_i, r_add_s, r_add_t, r_add_l, r_sub, r_mul, r_mul_l, r_fdiv, r_mod, r_pow, r_lt, r_ix_l, r_ix_t, r_ix_s, r_ix_rl, r_ix_rd, r_sl_l, r_sl_sl, r_sl_t, r_sl_s, r_len_l, r_len_sl, r_len_t, r_len_s, r_len_r, r_all, r_any, r_tuple_l, r_tuple_sl, r_tuple_t, r_tuple_r, r_list_l, r_list_sl, r_list_t, r_list_r, r_ord, r_repr, r_pop, r_app, r_ext, r_join, r_join_t, r_isl_r, r_isl_l, r_in, r_put_d, r_put_l, r_eq_i, r_eq_s, r_ne_i, r_ne_s, r_eq_t0, r_ne_t0, r_eq_r0, r_ne_r0, r_eq_l0, r_ne_l0, q_lstM, q_frz, e_fz_r, e_fz_non, e_fz_bl, e_fz_int, e_fz_str, e_fz_tup, e_fz_lst, e_fz_dic, q_drp, q_zs, e_zs_tup_tup, e_zs_tup_lst, e_zs_tup_slst, e_zs_lst_tup, e_zs_lst_lst, e_zs_lst_slst, e_zs_slst_tup, e_zs_slst_lst, e_zs_slst_slst, r_mem_s, r_mem_t, r_mem_l, r_int_i, r_int_b, r_listM_l, r_listM_sl, r_listM_t, r_start, wipeD, br_not, br_true, br_false, br_dec, List.map_cons, List.map_nil, List.length_cons, List.length_nil, List.replicate_succ, List.replicate_zero, List.cons_append, List.nil_append, List.getElem?_cons_zero, List.getElem?_cons_succ, List.getElem?_nil, List.set_cons_zero, List.set_cons_succ, Nat.reduceAdd, Nat.reduceSub, Nat.reduceLeDiff, Nat.zero_add, updM_same, true_and, List.isEmpty_nil, List.isEmpty_cons, Bool.not_true, Bool.not_false, Bool.not_not, q_revA, e_ra_l, e_ra_s, e_ra_t, e_ra_z, q_star, e_st_l, e_st_s, e_st_t, q_par3, e_p3, q_cont, r_mul2_i, r_mul2_l, r_mul2_s, r_le2_i, r_le2_s, r_lt2_i, r_lt2_s, r_sum, r_max2, r_min2, r_rst, r_spl, r_six, q_callX, q_callKX, q_raise, e_d1, q_try, q_tryW, q_xf, q_isX, e_cau, r_add2_i, r_add2_s, r_add2_t, r_add2_l, r_add2_rl, r_add2_lr, q_sliM, r_slM, q_kdef, q_mix21, q_mix03, q_mkA, q_mkK, q_mk0, e_err, q_fld, q_isV, q_isU, q_m01, q_m02, q_m02s]
        exact ⟨_, _, _, rfl⟩
      · obtain ⟨rfl, x, y, z, rfl⟩ := w
        simp only [q_v, q_c, q_tup, q_lst, q_op, q_nil, q_cons, q_tst, q_tru, q_andT, q_orT, q_notT, q_andV, q_orV, q_notV, q_ifE, q_next, q_seq, q_asg, q_drop, q_ret, q_retN, q_ifS, q_par, q_isi, q_blt, q_call, q_callK, q_kid, q_kswap, q_chain, q_neg, q_isN, q_notN, q_noO, q_someO, q_sli, q_rev, q_revM, q_bm, q_bm0, q_m1, q_seqI, q_rng, q_rng2, q_enum, q_zip, q_gnm, q_gtp, q_gs0, q_gs1, q_yes, q_put, e_bl, e_int, e_str, e_lst, e_n_non, e_n_bl, e_n_int, e_n_str, e_n_tup, e_n_lst, e_n_slst, e_n_dic, e_n_ref, e_seq_l, e_seq_s, e_seq_t, e_seq_z, e_rev_l, e_rev_s, e_i1, e_i2, e_l1, e_l1s, e_l2, e_p2, e_sl, e_o, e_ob, e_on, e_ml, e_md, e_c, e_tru_b, e_tru_n, e_tru_i, e_tru_t, e_tru_l, t_str_non, t_tup_non, t_int_non, t_bool_non, t_lst_non, t_dict_non, t_str_bl, t_tup_bl, t_int_bl, t_bool_bl, t_lst_bl, t_dict_bl, t_str_int, t_tup_int, t_int_int, t_bool_int, t_lst_int, t_dict_int, t_str_str, t_tup_str, t_int_str, t_bool_str, t_lst_str, t_dict_str, t_str_tup, t_tup_tup, t_int_tup, t_bool_tup, t_lst_tup, t_dict_tup, t_str_lst, t_tup_lst, t_int_lst, t_bool_lst, t_lst_lst, t_dict_lst, t_str_dic, t_tup_dic, t_int_dic, t_bool_dic, t_lst_dic, t_dict_dic, r_add_i, r_add_s, r_add_t, r_add_l, r_sub, r_mul, r_mul_l, r_fdiv, r_mod, r_pow, r_lt, r_ix_l, r_ix_t, r_ix_s, r_ix_rl, r_ix_rd, r_sl_l, r_sl_sl, r_sl_t, r_sl_s, r_len_l, r_len_sl, r_len_t, r_len_s, r_len_r, r_all, r_any, r_tuple_l, r_tuple_sl, r_tuple_t, r_tuple_r, r_list_l, r_list_sl, r_list_t, r_list_r, r_ord, r_repr, r_pop, r_app, r_ext, r_join, r_join_t, r_isl_r, r_isl_l, r_in, r_put_d, r_put_l, r_eq_i, r_eq_s, r_ne_i, r_ne_s, r_eq_t0, r_ne_t0, r_eq_r0, r_ne_r0, r_eq_l0, r_ne_l0, q_lstM, q_frz, e_fz_r, e_fz_non, e_fz_bl, e_fz_int, e_fz_str, e_fz_tup, e_fz_lst, e_fz_dic, q_drp, q_zs, e_zs_tup_tup, e_zs_tup_lst, e_zs_tup_slst, e_zs_lst_tup, e_zs_lst_lst, e_zs_lst_slst, e_zs_slst_tup, e_zs_slst_lst, e_zs_slst_slst, r_mem_s, r_mem_t, r_mem_l, r_int_i, r_int_b, r_listM_l, r_listM_sl, r_listM_t, r_start, wipeD, br_not, br_true, br_false, br_dec, List.map_cons, List.map_nil, List.length_cons, List.length_nil, List.replicate_succ, List.replicate_zero, List.cons_append, List.nil_append, List.getElem?_cons_zero, List.getElem?_cons_succ, List.getElem?_nil, List.set_cons_zero, List.set_cons_succ, Nat.reduceAdd, Nat.reduceSub, Nat.reduceLeDiff, Nat.zero_add, updM_same, true_and, List.isEmpty_nil, List.isEmpty_cons, Bool.not_true, Bool.not_false, Bool.not_not, q_revA, e_ra_l, e_ra_s, e_ra_t, e_ra_z, q_star, e_st_l, e_st_s, e_st_t, q_par3, e_p3, q_cont, r_mul2_i, r_mul2_l, r_mul2_s, r_le2_i, r_le2_s, r_lt2_i, r_lt2_s, r_sum, r_max2, r_min2, r_rst, r_spl, r_six, q_callX, q_callKX, q_raise, e_d1, q_try, q_tryW, q_xf, q_isX, e_cau, r_add2_i, r_add2_s, r_add2_t, r_add2_l, r_add2_rl, r_add2_lr, q_sliM, r_slM, q_kdef, q_mix21, q_mix03, q_mkA, q_mkK, q_mk0, e_err, q_fld, q_isV, q_isU, q_m01, q_m02, q_m02s]
        refine ⟨"GapError", _, _, by rw [plc_g], by decide +kernel, ?_⟩
        simp only [q_v, q_c, q_tup, q_lst, q_op, q_nil, q_cons, q_tst, q_tru, q_andT, q_orT, q_notT, q_andV, q_orV, q_notV, q_ifE, q_next, q_seq, q_asg, q_drop, q_ret, q_retN, q_ifS, q_par, q_isi, q_blt, q_call, q_callK, q_kid, q_kswap, q_chain, q_neg, q_isN, q_notN, q_noO, q_someO, q_sli, q_rev, q_revM, q_bm, q_bm0, q_m1, q_seqI, q_rng, q_rng2, q_enum, q_zip, q_gnm, q_gtp, q_gs0, q_gs1, q_yes, q_put, e_bl, e_int, e_str, e_lst, e_n_non, e_n_bl, e_n_int, e_n_str, e_n_tup, e_n_lst, e_n_slst, e_n_dic, e_n_ref, e_seq_l, e_seq_s, e_seq_t, e_seq_z, e_rev_l, e_rev_s, e_i1, e_i2, e_l1, e_l1s, e_l2, e_p2, e_sl, e_o, e_ob, e_on, e_ml, e_md, e_c, e_tru_b, e_tru_n, e_tru_i, e_tru_t, e_tru_l, t_str_non, t_tup_non, t_int_non, t_bool_non, t_lst_non, t_dict_non, t_str_bl, t_tup_bl, t_int_bl, t_bool_bl, t_lst_bl, t_dict_bl, t_str_int, t_tup_int, t_int_int, t_bool_int, t_lst_int, t_dict_int, t_str_str, t_tup_str, t_int_str, t_bool_str, t_lst_str, t_dict_str, t_str_tup, t_tup_tup, t_int_tup, t_bool_tup, t_lst_tup, t_dict_tup, t_str_lst, t_tup_lst, t_int_lst, t_bool_lst, t_lst_lst, t_dict_lst, t_str_dic, t_tup_dic, t_int_dic, t_bool_dic, t_lst_dic, t_dict_dic, r_add_i, r_add_s, r_add_t, r_add_l, r_sub, r_mul, r_mul_l, r_fdiv, r_mod, r_pow, r_lt, r_ix_l, r_ix_t, r_ix_s, r_ix_rl, r_ix_rd, r_sl_l, r_sl_sl, r_sl_t, r_sl_s, r_len_l, r_len_sl, r_len_t, r_len_s, r_len_r, r_all, r_any, r_tuple_l, r_tuple_sl, r_tuple_t, r_tuple_r, r_list_l, r_list_sl, r_list_t, r_list_r, r_ord, r_repr, r_pop, r_app, r_ext, r_join, r_join_t, r_isl_r, r_isl_l, r_in, r_put_d, r_put_l, r_eq_i, r_eq_s, r_ne_i, r_ne_s, r_eq_t0, r_ne_t0, r_eq_r0, r_ne_r0, r_eq_l0, r_ne_l0, q_lstM, q_frz, e_fz_r, e_fz_non, e_fz_bl, e_fz_int, e_fz_str, e_fz_tup, e_fz_lst, e_fz_dic, q_drp, q_zs, e_zs_tup_tup, e_zs_tup_lst, e_zs_tup_slst, e_zs_lst_tup, e_zs_lst_lst, e_zs_lst_slst, e_zs_slst_tup, e_zs_slst_lst, e_zs_slst_slst, r_mem_s, r_mem_t, r_mem_l, r_int_i, r_int_b, r_listM_l, r_listM_sl, r_listM_t, r_start, wipeD, br_not, br_true, br_false, br_dec, List.map_cons, List.map_nil, List.length_cons, List.length_nil, List.replicate_succ, List.replicate_zero, List.cons_append, List.nil_append, List.getElem?_cons_zero, List.getElem?_cons_succ, List.getElem?_nil, List.set_cons_zero, List.set_cons_succ, Nat.reduceAdd, Nat.reduceSub, Nat.reduceLeDiff, Nat.zero_add, updM_same, true_and, List.isEmpty_nil, List.isEmpty_cons, Bool.not_true, Bool.not_false, Bool.not_not, q_revA, e_ra_l, e_ra_s, e_ra_t, e_ra_z, q_star, e_st_l, e_st_s, e_st_t, q_par3, e_p3, q_cont, r_mul2_i, r_mul2_l, r_mul2_s, r_le2_i, r_le2_s, r_lt2_i, r_lt2_s, r_sum, r_max2, r_min2, r_rst, r_spl, r_six, q_callX, q_callKX, q_raise, e_d1, q_try, q_tryW, q_xf, q_isX, e_cau, r_add2_i, r_add2_s, r_add2_t, r_add2_l, r_add2_rl, r_add2_lr, q_sliM, r_slM, q_kdef, q_mix21, q_mix03, q_mkA, q_mkK, q_mk0, e_err, q_fld, q_isV, q_isU, q_m01, q_m02, q_m02s]
        refine ⟨r12, ?_⟩
        rw [decide_eq_true trivial]
        exact h
def vals (t : D) : List D := [.non, .bl true, .bl false, .int 0, .int (-1), .int (10 ^ Int.toNat 39), .str "", .str "let", .str "x y", .tup [], .tup [.str "num"], .tup [.tup [.str "list", .str "T"], .int 3], .lst [], .lst [.str "a", .lst [.int 1]], .dic [], .dic [(.inr "a", .tup [.int 1])], .str "\n", t, .str "T"]
theorem dec_ok {d : D} (h : (shOk d && nos d && decide (cst d ≤ 20000) && decide (dep d ≤ 4)) = true) : VOk d := Itm.dec h
theorem tup_ok {ns : List Int} : VOk (D.tup (((ns.take 3).map D.int).map fun d => .int (getInt d % 10 ^ 30))) := by
  have : Itl (3 * (2000 + 2)) 3 (((ns.take 3).map D.int).map fun d => .int (getInt d % 10 ^ 30)) := Itl.all (fun d hd => by
    obtain ⟨x, hx, rfl⟩ := List.mem_map.mp hd
    refine Itm.int ?_
    have h0 : 0 ≤ getInt x % 10 ^ 30 := Int.emod_nonneg _ (by decide)
    have h1 : getInt x % 10 ^ 30 < 10 ^ 30 := Int.emod_lt_of_pos _ (by decide)
    generalize getInt x % 10 ^ 30 = z at h0 h1
    by_cases e : z.natAbs = 0
    · rw [e]; decide
    · refine Nat.lt_of_lt_of_le ((Nat.log2_lt e (k := 100)).mpr ?_) (by decide)
      have : (2 : Nat) ^ 100 = 1267650600228229401496703205376 := by decide
      have : (10 : Int) ^ 30 = 1000000000000000000000000000000 := by decide
      omega) (by rw [List.length_map, List.length_map, List.length_take]; omega)
  exact (Itm.tup this).mono (by decide) (by decide)
theorem vals_ok {ns : List Int} {d : D} (h : d ∈ vals (D.tup (((ns.take 3).map D.int).map fun d => .int (getInt d % 10 ^ 30)))) : VOk d := by
  unfold vals at h
  simp only [List.mem_cons, List.not_mem_nil, or_false] at h
  rcases h with e | e | e | e | e | e | e | e | e | e | e | e | e | e | e | e | e | e | e
  all_goals first | (rw [e]; exact dec_ok (by decide +kernel)) | (rw [e]; exact tup_ok)
def R_l_value : RD := fun xs M F => ∃ (a c : Addr) (ns : List Int), xs = [.ref a, .slst (ns.map D.int)] ∧ HandAt M a c ∧ ∀ d M', VOk d → HandAt M' a c → Oth a c M M' → F d M'
theorem ln_l_value : ∀ xs M F, R_l_value xs M F → xs.length = 2 := fun xs M F ⟨p, a, b, e, _⟩ => by rw [e]; rfl
theorem rd_l_value : ∀ ds M F, R_l_value ds M F → T_l_value R_draw { nx := fun _ M' => F .non M', rt := F } (startD 4 ds) M := by
  intro ds M F ⟨a, c, ns, e, hd, h⟩
  subst e
  simp only [T_l_value, q_v, q_c, q_tup, q_lst, q_op, q_nil, q_cons, q_tst, q_tru, q_andT, q_orT, q_notT, q_andV, q_orV, q_notV, q_ifE, q_next, q_seq, q_asg, q_drop, q_ret, q_retN, q_ifS, q_par, q_isi, q_blt, q_call, q_callK, q_kid, q_kswap, q_chain, q_neg, q_isN, q_notN, q_noO, q_someO, q_sli, q_rev, q_revM, q_bm, q_bm0, q_m1, q_seqI, q_rng, q_rng2, q_enum, q_zip, q_gnm, q_gtp, q_gs0, q_gs1, q_yes, q_put, e_bl, e_int, e_str, e_lst, e_n_non, e_n_bl, e_n_int, e_n_str, e_n_tup, e_n_lst, e_n_slst, e_n_dic, e_n_ref, e_seq_l, e_seq_s, e_seq_t, e_seq_z, e_rev_l, e_rev_s, e_i1, e_i2, e_l1, e_l1s, e_l2, e_p2, e_sl, e_o, e_ob, e_on, e_ml, e_md, e_c, e_tru_b, e_tru_n, e_tru_i, e_tru_t, e_tru_l, t_str_non, t_tup_non, t_int_non, t_bool_non, t_lst_non, t_dict_non, t_str_bl, t_tup_bl, t_int_bl, t_bool_bl, t_lst_bl, t_dict_bl, t_str_int, t_tup_int, t_int_int, t_bool_int, t_lst_int, t_dict_int, t_str_str, t_tup_str, t_int_str, t_bool_str, t_lst_str, t_dict_str, t_str_tup, t_tup_tup, t_int_tup, t_bool_tup, t_lst_tup, t_dict_tup, t_str_lst, t_tup_lst, t_int_lst, t_bool_lst, t_lst_lst, t_dict_lst, t_str_dic, t_tup_dic, t_int_dic, t_bool_dic, t_lst_dic, t_dict_dic, r_add_i, r_add_s, r_add_t, r_add_l, r_sub, r_mul, r_mul_l, r_fdiv, r_mod, r_pow, r_lt, r_ix_l, r_ix_t, r_ix_s, r_ix_rl, r_ix_rd, r_sl_l, r_sl_sl, r_sl_t, r_sl_s, r_len_l, r_len_sl, r_len_t, r_len_s, r_len_r, r_all, r_any, r_tuple_l, r_tuple_sl, r_tuple_t, r_tuple_r, r_list_l, r_list_sl, r_list_t, r_list_r, r_ord, r_repr, r_pop, r_app, r_ext, r_join, r_join_t, r_isl_r, r_isl_l, r_in, r_put_d, r_put_l, r_eq_i, r_eq_s, r_ne_i, r_ne_s, r_eq_t0, r_ne_t0, r_eq_r0, r_ne_r0, r_eq_l0, r_ne_l0, q_lstM, q_frz, e_fz_r, e_fz_non, e_fz_bl, e_fz_int, e_fz_str, e_fz_tup, e_fz_lst, e_fz_dic, q_drp, q_zs, e_zs_tup_tup, e_zs_tup_lst, e_zs_tup_slst, e_zs_lst_tup, e_zs_lst_lst, e_zs_lst_slst, e_zs_slst_tup, e_zs_slst_lst, e_zs_slst_slst, r_mem_s, r_mem_t, r_mem_l, r_int_i, r_int_b, r_listM_l, r_listM_sl, r_listM_t, r_start, wipeD, br_not, br_true, br_false, br_dec, List.map_cons, List.map_nil, List.length_cons, List.length_nil, List.replicate_succ, List.replicate_zero, List.cons_append, List.nil_append, List.getElem?_cons_zero, List.getElem?_cons_succ, List.getElem?_nil, List.set_cons_zero, List.set_cons_succ, Nat.reduceAdd, Nat.reduceSub, Nat.reduceLeDiff, Nat.zero_add, updM_same, true_and, List.isEmpty_nil, List.isEmpty_cons, Bool.not_true, Bool.not_false, Bool.not_not, q_revA, e_ra_l, e_ra_s, e_ra_t, e_ra_z, q_star, e_st_l, e_st_s, e_st_t, q_par3, e_p3, q_cont, r_mul2_i, r_mul2_l, r_mul2_s, r_le2_i, r_le2_s, r_lt2_i, r_lt2_s, r_sum, r_max2, r_min2, r_rst, r_spl, r_six, q_callX, q_callKX, q_raise, e_d1, q_try, q_tryW, q_xf, q_isX, e_cau, r_add2_i, r_add2_s, r_add2_t, r_add2_l, r_add2_rl, r_add2_lr, q_sliM, r_slM, q_kdef, q_mix21, q_mix03, q_mkA, q_mkK, q_mk0, e_err, q_fld, q_isV, q_isU, q_m01, q_m02, q_m02s]
  refine ⟨by decide, fun p hp => ?_⟩
  simp only [q_v, q_c, q_tup, q_lst, q_op, q_nil, q_cons, q_tst, q_tru, q_andT, q_orT, q_notT, q_andV, q_orV, q_notV, q_ifE, q_next, q_seq, q_asg, q_drop, q_ret, q_retN, q_ifS, q_par, q_isi, q_blt, q_call, q_callK, q_kid, q_kswap, q_chain, q_neg, q_isN, q_notN, q_noO, q_someO, q_sli, q_rev, q_revM, q_bm, q_bm0, q_m1, q_seqI, q_rng, q_rng2, q_enum, q_zip, q_gnm, q_gtp, q_gs0, q_gs1, q_yes, q_put, e_bl, e_int, e_str, e_lst, e_n_non, e_n_bl, e_n_int, e_n_str, e_n_tup, e_n_lst, e_n_slst, e_n_dic, e_n_ref, e_seq_l, e_seq_s, e_seq_t, e_seq_z, e_rev_l, e_rev_s, e_i1, e_i2, e_l1, e_l1s, e_l2, e_p2, e_sl, e_o, e_ob, e_on, e_ml, e_md, e_c, e_tru_b, e_tru_n, e_tru_i, e_tru_t, e_tru_l, t_str_non, t_tup_non, t_int_non, t_bool_non, t_lst_non, t_dict_non, t_str_bl, t_tup_bl, t_int_bl, t_bool_bl, t_lst_bl, t_dict_bl, t_str_int, t_tup_int, t_int_int, t_bool_int, t_lst_int, t_dict_int, t_str_str, t_tup_str, t_int_str, t_bool_str, t_lst_str, t_dict_str, t_str_tup, t_tup_tup, t_int_tup, t_bool_tup, t_lst_tup, t_dict_tup, t_str_lst, t_tup_lst, t_int_lst, t_bool_lst, t_lst_lst, t_dict_lst, t_str_dic, t_tup_dic, t_int_dic, t_bool_dic, t_lst_dic, t_dict_dic, r_add_i, r_add_s, r_add_t, r_add_l, r_sub, r_mul, r_mul_l, r_fdiv, r_mod, r_pow, r_lt, r_ix_l, r_ix_t, r_ix_s, r_ix_rl, r_ix_rd, r_sl_l, r_sl_sl, r_sl_t, r_sl_s, r_len_l, r_len_sl, r_len_t, r_len_s, r_len_r, r_all, r_any, r_tuple_l, r_tuple_sl, r_tuple_t, r_tuple_r, r_list_l, r_list_sl, r_list_t, r_list_r, r_ord, r_repr, r_pop, r_app, r_ext, r_join, r_join_t, r_isl_r, r_isl_l, r_in, r_put_d, r_put_l, r_eq_i, r_eq_s, r_ne_i, r_ne_s, r_eq_t0, r_ne_t0, r_eq_r0, r_ne_r0, r_eq_l0, r_ne_l0, q_lstM, q_frz, e_fz_r, e_fz_non, e_fz_bl, e_fz_int, e_fz_str, e_fz_tup, e_fz_lst, e_fz_dic, q_drp, q_zs, e_zs_tup_tup, e_zs_tup_lst, e_zs_tup_slst, e_zs_lst_tup, e_zs_lst_lst, e_zs_lst_slst, e_zs_slst_tup, e_zs_slst_lst, e_zs_slst_slst, r_mem_s, r_mem_t, r_mem_l, r_int_i, r_int_b, r_listM_l, r_listM_sl, r_listM_t, r_start, wipeD, br_not, br_true, br_false, br_dec, List.map_cons, List.map_nil, List.length_cons, List.length_nil, List.replicate_succ, List.replicate_zero, List.cons_append, List.nil_append, List.getElem?_cons_zero, List.getElem?_cons_succ, List.getElem?_nil, List.set_cons_zero, List.set_cons_succ, Nat.reduceAdd, Nat.reduceSub, Nat.reduceLeDiff, Nat.zero_add, updM_same, true_and, List.isEmpty_nil, List.isEmpty_cons, Bool.not_true, Bool.not_false, Bool.not_not, q_revA, e_ra_l, e_ra_s, e_ra_t, e_ra_z, q_star, e_st_l, e_st_s, e_st_t, q_par3, e_p3, q_cont, r_mul2_i, r_mul2_l, r_mul2_s, r_le2_i, r_le2_s, r_lt2_i, r_lt2_s, r_sum, r_max2, r_min2, r_rst, r_spl, r_six, q_callX, q_callKX, q_raise, e_d1, q_try, q_tryW, q_xf, q_isX, e_cau, r_add2_i, r_add2_s, r_add2_t, r_add2_l, r_add2_rl, r_add2_lr, q_sliM, r_slM, q_kdef, q_mix21, q_mix03, q_mkA, q_mkK, q_mk0, e_err, q_fld, q_isV, q_isU, q_m01, q_m02, q_m02s, delM_upd hp]
  have ec : cutL (ns.map D.int) none (some 3) = (ns.take 3).map D.int := by
    rw [cut_map]
    congr 1
    unfold cutL
    rw [HT.sIx_none]
    show (ns.drop 0).take ((if (3 : Int) < 0 then ((3 : Int) + (ns.length : Int)).toNat else min (3 : Int).toNat ns.length) - 0) = _
    rw [if_neg (by decide), List.drop_zero, Nat.sub_zero]
    show ns.take (min 3 ns.length) = _
    rcases Nat.le_total 3 ns.length with q | q
    · rw [Nat.min_eq_left q]
    · rw [Nat.min_eq_right q, List.take_length, List.take_of_length_le q]
  refine lc_map (fun d => .int (getInt d % 10 ^ 30)) (xs := (ns.take 3).map D.int) (by rw [List.length_map, List.length_take]; omega) (fun G g => ?_) (fun d hd => ?_) ?_
  · simp only [q_v, q_c, q_tup, q_lst, q_op, q_nil, q_cons, q_tst, q_tru, q_andT, q_orT, q_notT, q_andV, q_orV, q_notV, q_ifE, q_next, q_seq, q_asg, q_drop, q_ret, q_retN, q_ifS, q_par, q_isi, q_blt, q_call, q_callK, q_kid, q_kswap, q_chain, q_neg, q_isN, q_notN, q_noO, q_someO, q_sli, q_rev, q_revM, q_bm, q_bm0, q_m1, q_seqI, q_rng, q_rng2, q_enum, q_zip, q_gnm, q_gtp, q_gs0, q_gs1, q_yes, q_put, e_bl, e_int, e_str, e_lst, e_n_non, e_n_bl, e_n_int, e_n_str, e_n_tup, e_n_lst, e_n_slst, e_n_dic, e_n_ref, e_seq_l, e_seq_s, e_seq_t, e_seq_z, e_rev_l, e_rev_s, e_i1, e_i2, e_l1, e_l1s, e_l2, e_p2, e_sl, e_o, e_ob, e_on, e_ml, e_md, e_c, e_tru_b, e_tru_n, e_tru_i, e_tru_t, e_tru_l, t_str_non, t_tup_non, t_int_non, t_bool_non, t_lst_non, t_dict_non, t_str_bl, t_tup_bl, t_int_bl, t_bool_bl, t_lst_bl, t_dict_bl, t_str_int, t_tup_int, t_int_int, t_bool_int, t_lst_int, t_dict_int, t_str_str, t_tup_str, t_int_str, t_bool_str, t_lst_str, t_dict_str, t_str_tup, t_tup_tup, t_int_tup, t_bool_tup, t_lst_tup, t_dict_tup, t_str_lst, t_tup_lst, t_int_lst, t_bool_lst, t_lst_lst, t_dict_lst, t_str_dic, t_tup_dic, t_int_dic, t_bool_dic, t_lst_dic, t_dict_dic, r_add_i, r_add_s, r_add_t, r_add_l, r_sub, r_mul, r_mul_l, r_fdiv, r_mod, r_pow, r_lt, r_ix_l, r_ix_t, r_ix_s, r_ix_rl, r_ix_rd, r_sl_l, r_sl_sl, r_sl_t, r_sl_s, r_len_l, r_len_sl, r_len_t, r_len_s, r_len_r, r_all, r_any, r_tuple_l, r_tuple_sl, r_tuple_t, r_tuple_r, r_list_l, r_list_sl, r_list_t, r_list_r, r_ord, r_repr, r_pop, r_app, r_ext, r_join, r_join_t, r_isl_r, r_isl_l, r_in, r_put_d, r_put_l, r_eq_i, r_eq_s, r_ne_i, r_ne_s, r_eq_t0, r_ne_t0, r_eq_r0, r_ne_r0, r_eq_l0, r_ne_l0, q_lstM, q_frz, e_fz_r, e_fz_non, e_fz_bl, e_fz_int, e_fz_str, e_fz_tup, e_fz_lst, e_fz_dic, q_drp, q_zs, e_zs_tup_tup, e_zs_tup_lst, e_zs_tup_slst, e_zs_lst_tup, e_zs_lst_lst, e_zs_lst_slst, e_zs_slst_tup, e_zs_slst_lst, e_zs_slst_slst, r_mem_s, r_mem_t, r_mem_l, r_int_i, r_int_b, r_listM_l, r_listM_sl, r_listM_t, r_start, wipeD, br_not, br_true, br_false, br_dec, List.map_cons, List.map_nil, List.length_cons, List.length_nil, List.replicate_succ, List.replicate_zero, List.cons_append, List.nil_append, List.getElem?_cons_zero, List.getElem?_cons_succ, List.getElem?_nil, List.set_cons_zero, List.set_cons_succ, Nat.reduceAdd, Nat.reduceSub, Nat.reduceLeDiff, Nat.zero_add, updM_same, true_and, List.isEmpty_nil, List.isEmpty_cons, Bool.not_true, Bool.not_false, Bool.not_not, q_revA, e_ra_l, e_ra_s, e_ra_t, e_ra_z, q_star, e_st_l, e_st_s, e_st_t, q_par3, e_p3, q_cont, r_mul2_i, r_mul2_l, r_mul2_s, r_le2_i, r_le2_s, r_lt2_i, r_lt2_s, r_sum, r_max2, r_min2, r_rst, r_spl, r_six, q_callX, q_callKX, q_raise, e_d1, q_try, q_tryW, q_xf, q_isX, e_cau, r_add2_i, r_add2_s, r_add2_t, r_add2_l, r_add2_rl, r_add2_lr, q_sliM, r_slM, q_kdef, q_mix21, q_mix03, q_mkA, q_mkK, q_mk0, e_err, q_fld, q_isV, q_isU, q_m01, q_m02, q_m02s, ec]
    exact g
  · obtain ⟨i, hi, rfl⟩ := List.mem_map.mp hd
    simp only [q_v, q_c, q_tup, q_lst, q_op, q_nil, q_cons, q_tst, q_tru, q_andT, q_orT, q_notT, q_andV, q_orV, q_notV, q_ifE, q_next, q_seq, q_asg, q_drop, q_ret, q_retN, q_ifS, q_par, q_isi, q_blt, q_call, q_callK, q_kid, q_kswap, q_chain, q_neg, q_isN, q_notN, q_noO, q_someO, q_sli, q_rev, q_revM, q_bm, q_bm0, q_m1, q_seqI, q_rng, q_rng2, q_enum, q_zip, q_gnm, q_gtp, q_gs0, q_gs1, q_yes, q_put, e_bl, e_int, e_str, e_lst, e_n_non, e_n_bl, e_n_int, e_n_str, e_n_tup, e_n_lst, e_n_slst, e_n_dic, e_n_ref, e_seq_l, e_seq_s, e_seq_t, e_seq_z, e_rev_l, e_rev_s, e_i1, e_i2, e_l1, e_l1s, e_l2, e_p2, e_sl, e_o, e_ob, e_on, e_ml, e_md, e_c, e_tru_b, e_tru_n, e_tru_i, e_tru_t, e_tru_l, t_str_non, t_tup_non, t_int_non, t_bool_non, t_lst_non, t_dict_non, t_str_bl, t_tup_bl, t_int_bl, t_bool_bl, t_lst_bl, t_dict_bl, t_str_int, t_tup_int, t_int_int, t_bool_int, t_lst_int, t_dict_int, t_str_str, t_tup_str, t_int_str, t_bool_str, t_lst_str, t_dict_str, t_str_tup, t_tup_tup, t_int_tup, t_bool_tup, t_lst_tup, t_dict_tup, t_str_lst, t_tup_lst, t_int_lst, t_bool_lst, t_lst_lst, t_dict_lst, t_str_dic, t_tup_dic, t_int_dic, t_bool_dic, t_lst_dic, t_dict_dic, r_add_i, r_add_s, r_add_t, r_add_l, r_sub, r_mul, r_mul_l, r_fdiv, r_mod, r_pow, r_lt, r_ix_l, r_ix_t, r_ix_s, r_ix_rl, r_ix_rd, r_sl_l, r_sl_sl, r_sl_t, r_sl_s, r_len_l, r_len_sl, r_len_t, r_len_s, r_len_r, r_all, r_any, r_tuple_l, r_tuple_sl, r_tuple_t, r_tuple_r, r_list_l, r_list_sl, r_list_t, r_list_r, r_ord, r_repr, r_pop, r_app, r_ext, r_join, r_join_t, r_isl_r, r_isl_l, r_in, r_put_d, r_put_l, r_eq_i, r_eq_s, r_ne_i, r_ne_s, r_eq_t0, r_ne_t0, r_eq_r0, r_ne_r0, r_eq_l0, r_ne_l0, q_lstM, q_frz, e_fz_r, e_fz_non, e_fz_bl, e_fz_int, e_fz_str, e_fz_tup, e_fz_lst, e_fz_dic, q_drp, q_zs, e_zs_tup_tup, e_zs_tup_lst, e_zs_tup_slst, e_zs_lst_tup, e_zs_lst_lst, e_zs_lst_slst, e_zs_slst_tup, e_zs_slst_lst, e_zs_slst_slst, r_mem_s, r_mem_t, r_mem_l, r_int_i, r_int_b, r_listM_l, r_listM_sl, r_listM_t, r_start, wipeD, br_not, br_true, br_false, br_dec, List.map_cons, List.map_nil, List.length_cons, List.length_nil, List.replicate_succ, List.replicate_zero, List.cons_append, List.nil_append, List.getElem?_cons_zero, List.getElem?_cons_succ, List.getElem?_nil, List.set_cons_zero, List.set_cons_succ, Nat.reduceAdd, Nat.reduceSub, Nat.reduceLeDiff, Nat.zero_add, updM_same, true_and, List.isEmpty_nil, List.isEmpty_cons, Bool.not_true, Bool.not_false, Bool.not_not, q_revA, e_ra_l, e_ra_s, e_ra_t, e_ra_z, q_star, e_st_l, e_st_s, e_st_t, q_par3, e_p3, q_cont, r_mul2_i, r_mul2_l, r_mul2_s, r_le2_i, r_le2_s, r_lt2_i, r_lt2_s, r_sum, r_max2, r_min2, r_rst, r_spl, r_six, q_callX, q_callKX, q_raise, e_d1, q_try, q_tryW, q_xf, q_isX, e_cau, r_add2_i, r_add2_s, r_add2_t, r_add2_l, r_add2_rl, r_add2_lr, q_sliM, r_slM, q_kdef, q_mix21, q_mix03, q_mkA, q_mkK, q_mk0, e_err, q_fld, q_isV, q_isU, q_m01, q_m02, q_m02s]
    intro M' G g
    exact ⟨by decide, by decide, g⟩
  · simp only [q_v, q_c, q_tup, q_lst, q_op, q_nil, q_cons, q_tst, q_tru, q_andT, q_orT, q_notT, q_andV, q_orV, q_notV, q_ifE, q_next, q_seq, q_asg, q_drop, q_ret, q_retN, q_ifS, q_par, q_isi, q_blt, q_call, q_callK, q_kid, q_kswap, q_chain, q_neg, q_isN, q_notN, q_noO, q_someO, q_sli, q_rev, q_revM, q_bm, q_bm0, q_m1, q_seqI, q_rng, q_rng2, q_enum, q_zip, q_gnm, q_gtp, q_gs0, q_gs1, q_yes, q_put, e_bl, e_int, e_str, e_lst, e_n_non, e_n_bl, e_n_int, e_n_str, e_n_tup, e_n_lst, e_n_slst, e_n_dic, e_n_ref, e_seq_l, e_seq_s, e_seq_t, e_seq_z, e_rev_l, e_rev_s, e_i1, e_i2, e_l1, e_l1s, e_l2, e_p2, e_sl, e_o, e_ob, e_on, e_ml, e_md, e_c, e_tru_b, e_tru_n, e_tru_i, e_tru_t, e_tru_l, t_str_non, t_tup_non, t_int_non, t_bool_non, t_lst_non, t_dict_non, t_str_bl, t_tup_bl, t_int_bl, t_bool_bl, t_lst_bl, t_dict_bl, t_str_int, t_tup_int, t_int_int, t_bool_int, t_lst_int, t_dict_int, t_str_str, t_tup_str, t_int_str, t_bool_str, t_lst_str, t_dict_str, t_str_tup, t_tup_tup, t_int_tup, t_bool_tup, t_lst_tup, t_dict_tup, t_str_lst, t_tup_lst, t_int_lst, t_bool_lst, t_lst_lst, t_dict_lst, t_str_dic, t_tup_dic, t_int_dic, t_bool_dic, t_lst_dic, t_dict_dic, r_add_i, r_add_s, r_add_t, r_add_l, r_sub, r_mul, r_mul_l, r_fdiv, r_mod, r_pow, r_lt, r_ix_l, r_ix_t, r_ix_s, r_ix_rl, r_ix_rd, r_sl_l, r_sl_sl, r_sl_t, r_sl_s, r_len_l, r_len_sl, r_len_t, r_len_s, r_len_r, r_all, r_any, r_tuple_l, r_tuple_sl, r_tuple_t, r_tuple_r, r_list_l, r_list_sl, r_list_t, r_list_r, r_ord, r_repr, r_pop, r_app, r_ext, r_join, r_join_t, r_isl_r, r_isl_l, r_in, r_put_d, r_put_l, r_eq_i, r_eq_s, r_ne_i, r_ne_s, r_eq_t0, r_ne_t0, r_eq_r0, r_ne_r0, r_eq_l0, r_ne_l0, q_lstM, q_frz, e_fz_r, e_fz_non, e_fz_bl, e_fz_int, e_fz_str, e_fz_tup, e_fz_lst, e_fz_dic, q_drp, q_zs, e_zs_tup_tup, e_zs_tup_lst, e_zs_tup_slst, e_zs_lst_tup, e_zs_lst_lst, e_zs_lst_slst, e_zs_slst_tup, e_zs_slst_lst, e_zs_slst_slst, r_mem_s, r_mem_t, r_mem_l, r_int_i, r_int_b, r_listM_l, r_listM_sl, r_listM_t, r_start, wipeD, br_not, br_true, br_false, br_dec, List.map_cons, List.map_nil, List.length_cons, List.length_nil, List.replicate_succ, List.replicate_zero, List.cons_append, List.nil_append, List.getElem?_cons_zero, List.getElem?_cons_succ, List.getElem?_nil, List.set_cons_zero, List.set_cons_succ, Nat.reduceAdd, Nat.reduceSub, Nat.reduceLeDiff, Nat.zero_add, updM_same, true_and, List.isEmpty_nil, List.isEmpty_cons, Bool.not_true, Bool.not_false, Bool.not_not, q_revA, e_ra_l, e_ra_s, e_ra_t, e_ra_z, q_star, e_st_l, e_st_s, e_st_t, q_par3, e_p3, q_cont, r_mul2_i, r_mul2_l, r_mul2_s, r_le2_i, r_le2_s, r_lt2_i, r_lt2_s, r_sum, r_max2, r_min2, r_rst, r_spl, r_six, q_callX, q_callKX, q_raise, e_d1, q_try, q_tryW, q_xf, q_isX, e_cau, r_add2_i, r_add2_s, r_add2_t, r_add2_l, r_add2_rl, r_add2_lr, q_sliM, r_slM, q_kdef, q_mix21, q_mix03, q_mkA, q_mkK, q_mk0, e_err, q_fld, q_isV, q_isU, q_m01, q_m02, q_m02s]
    refine ⟨c, hd, by decide, by decide, fun r M2 r0 r1 h2 o2 => ?_⟩
    obtain ⟨d, e, m⟩ := atI_mem (xs := vals (D.tup (((ns.take 3).map D.int).map fun d => .int (getInt d % 10 ^ 30)))) r0 r1
    simp only [q_v, q_c, q_tup, q_lst, q_op, q_nil, q_cons, q_tst, q_tru, q_andT, q_orT, q_notT, q_andV, q_orV, q_notV, q_ifE, q_next, q_seq, q_asg, q_drop, q_ret, q_retN, q_ifS, q_par, q_isi, q_blt, q_call, q_callK, q_kid, q_kswap, q_chain, q_neg, q_isN, q_notN, q_noO, q_someO, q_sli, q_rev, q_revM, q_bm, q_bm0, q_m1, q_seqI, q_rng, q_rng2, q_enum, q_zip, q_gnm, q_gtp, q_gs0, q_gs1, q_yes, q_put, e_bl, e_int, e_str, e_lst, e_n_non, e_n_bl, e_n_int, e_n_str, e_n_tup, e_n_lst, e_n_slst, e_n_dic, e_n_ref, e_seq_l, e_seq_s, e_seq_t, e_seq_z, e_rev_l, e_rev_s, e_i1, e_i2, e_l1, e_l1s, e_l2, e_p2, e_sl, e_o, e_ob, e_on, e_ml, e_md, e_c, e_tru_b, e_tru_n, e_tru_i, e_tru_t, e_tru_l, t_str_non, t_tup_non, t_int_non, t_bool_non, t_lst_non, t_dict_non, t_str_bl, t_tup_bl, t_int_bl, t_bool_bl, t_lst_bl, t_dict_bl, t_str_int, t_tup_int, t_int_int, t_bool_int, t_lst_int, t_dict_int, t_str_str, t_tup_str, t_int_str, t_bool_str, t_lst_str, t_dict_str, t_str_tup, t_tup_tup, t_int_tup, t_bool_tup, t_lst_tup, t_dict_tup, t_str_lst, t_tup_lst, t_int_lst, t_bool_lst, t_lst_lst, t_dict_lst, t_str_dic, t_tup_dic, t_int_dic, t_bool_dic, t_lst_dic, t_dict_dic, r_add_i, r_add_s, r_add_t, r_add_l, r_sub, r_mul, r_mul_l, r_fdiv, r_mod, r_pow, r_lt, r_ix_l, r_ix_t, r_ix_s, r_ix_rl, r_ix_rd, r_sl_l, r_sl_sl, r_sl_t, r_sl_s, r_len_l, r_len_sl, r_len_t, r_len_s, r_len_r, r_all, r_any, r_tuple_l, r_tuple_sl, r_tuple_t, r_tuple_r, r_list_l, r_list_sl, r_list_t, r_list_r, r_ord, r_repr, r_pop, r_app, r_ext, r_join, r_join_t, r_isl_r, r_isl_l, r_in, r_put_d, r_put_l, r_eq_i, r_eq_s, r_ne_i, r_ne_s, r_eq_t0, r_ne_t0, r_eq_r0, r_ne_r0, r_eq_l0, r_ne_l0, q_lstM, q_frz, e_fz_r, e_fz_non, e_fz_bl, e_fz_int, e_fz_str, e_fz_tup, e_fz_lst, e_fz_dic, q_drp, q_zs, e_zs_tup_tup, e_zs_tup_lst, e_zs_tup_slst, e_zs_lst_tup, e_zs_lst_lst, e_zs_lst_slst, e_zs_slst_tup, e_zs_slst_lst, e_zs_slst_slst, r_mem_s, r_mem_t, r_mem_l, r_int_i, r_int_b, r_listM_l, r_listM_sl, r_listM_t, r_start, wipeD, br_not, br_true, br_false, br_dec, List.map_cons, List.map_nil, List.length_cons, List.length_nil, List.replicate_succ, List.replicate_zero, List.cons_append, List.nil_append, List.getElem?_cons_zero, List.getElem?_cons_succ, List.getElem?_nil, List.set_cons_zero, List.set_cons_succ, Nat.reduceAdd, Nat.reduceSub, Nat.reduceLeDiff, Nat.zero_add, updM_same, true_and, List.isEmpty_nil, List.isEmpty_cons, Bool.not_true, Bool.not_false, Bool.not_not, q_revA, e_ra_l, e_ra_s, e_ra_t, e_ra_z, q_star, e_st_l, e_st_s, e_st_t, q_par3, e_p3, q_cont, r_mul2_i, r_mul2_l, r_mul2_s, r_le2_i, r_le2_s, r_lt2_i, r_lt2_s, r_sum, r_max2, r_min2, r_rst, r_spl, r_six, q_callX, q_callKX, q_raise, e_d1, q_try, q_tryW, q_xf, q_isX, e_cau, r_add2_i, r_add2_s, r_add2_t, r_add2_l, r_add2_rl, r_add2_lr, q_sliM, r_slM, q_kdef, q_mix21, q_mix03, q_mkA, q_mkK, q_mk0, e_err, q_fld, q_isV, q_isU, q_m01, q_m02, q_m02s]
    show eO (atI (vals (D.tup (((ns.take 3).map D.int).map fun d => .int (getInt d % 10 ^ 30)))) r) fun d => F d M2
    rw [e]
    exact h d M2 (vals_ok (ns := ns) m) h2 o2
def R_law : RD
  | [.slst xs], M, F => ∃ ns : List Int, xs = ns.map D.int ∧ ns.length ≤ 63 ∧ ∀ M', F (.bl true) M'
  | _, _, _ => False
theorem ln_law : ∀ xs M F, R_law xs M F → xs.length = 1 := by
  intro xs M F h
  unfold R_law at h
  split at h
  · rfl
  · exact h.elim
theorem rd_law : ∀ ds M F, R_law ds M F → T_law R_l_right R_l_value R_hand { nx := fun _ M' => F .non M', rt := F } (startD 3 ds) M := by
  intro ds M F h
  unfold R_law at h
  split at h
  · next xs =>
    obtain ⟨ns, rfl, hl, hF⟩ := h
    simp only [T_law, q_v, q_c, q_tup, q_lst, q_op, q_nil, q_cons, q_tst, q_tru, q_andT, q_orT, q_notT, q_andV, q_orV, q_notV, q_ifE, q_next, q_seq, q_asg, q_drop, q_ret, q_retN, q_ifS, q_par, q_isi, q_blt, q_call, q_callK, q_kid, q_kswap, q_chain, q_neg, q_isN, q_notN, q_noO, q_someO, q_sli, q_rev, q_revM, q_bm, q_bm0, q_m1, q_seqI, q_rng, q_rng2, q_enum, q_zip, q_gnm, q_gtp, q_gs0, q_gs1, q_yes, q_put, e_bl, e_int, e_str, e_lst, e_n_non, e_n_bl, e_n_int, e_n_str, e_n_tup, e_n_lst, e_n_slst, e_n_dic, e_n_ref, e_seq_l, e_seq_s, e_seq_t, e_seq_z, e_rev_l, e_rev_s, e_i1, e_i2, e_l1, e_l1s, e_l2, e_p2, e_sl, e_o, e_ob, e_on, e_ml, e_md, e_c, e_tru_b, e_tru_n, e_tru_i, e_tru_t, e_tru_l, t_str_non, t_tup_non, t_int_non, t_bool_non, t_lst_non, t_dict_non, t_str_bl, t_tup_bl, t_int_bl, t_bool_bl, t_lst_bl, t_dict_bl, t_str_int, t_tup_int, t_int_int, t_bool_int, t_lst_int, t_dict_int, t_str_str, t_tup_str, t_int_str, t_bool_str, t_lst_str, t_dict_str, t_str_tup, t_tup_tup, t_int_tup, t_bool_tup, t_lst_tup, t_dict_tup, t_str_lst, t_tup_lst, t_int_lst, t_bool_lst, t_lst_lst, t_dict_lst, t_str_dic, t_tup_dic, t_int_dic, t_bool_dic, t_lst_dic, t_dict_dic, r_add_i, r_add_s, r_add_t, r_add_l, r_sub, r_mul, r_mul_l, r_fdiv, r_mod, r_pow, r_lt, r_ix_l, r_ix_t, r_ix_s, r_ix_rl, r_ix_rd, r_sl_l, r_sl_sl, r_sl_t, r_sl_s, r_len_l, r_len_sl, r_len_t, r_len_s, r_len_r, r_all, r_any, r_tuple_l, r_tuple_sl, r_tuple_t, r_tuple_r, r_list_l, r_list_sl, r_list_t, r_list_r, r_ord, r_repr, r_pop, r_app, r_ext, r_join, r_join_t, r_isl_r, r_isl_l, r_in, r_put_d, r_put_l, r_eq_i, r_eq_s, r_ne_i, r_ne_s, r_eq_t0, r_ne_t0, r_eq_r0, r_ne_r0, r_eq_l0, r_ne_l0, q_lstM, q_frz, e_fz_r, e_fz_non, e_fz_bl, e_fz_int, e_fz_str, e_fz_tup, e_fz_lst, e_fz_dic, q_drp, q_zs, e_zs_tup_tup, e_zs_tup_lst, e_zs_tup_slst, e_zs_lst_tup, e_zs_lst_lst, e_zs_lst_slst, e_zs_slst_tup, e_zs_slst_lst, e_zs_slst_slst, r_mem_s, r_mem_t, r_mem_l, r_int_i, r_int_b, r_listM_l, r_listM_sl, r_listM_t, r_start, wipeD, br_not, br_true, br_false, br_dec, List.map_cons, List.map_nil, List.length_cons, List.length_nil, List.replicate_succ, List.replicate_zero, List.cons_append, List.nil_append, List.getElem?_cons_zero, List.getElem?_cons_succ, List.getElem?_nil, List.set_cons_zero, List.set_cons_succ, Nat.reduceAdd, Nat.reduceSub, Nat.reduceLeDiff, Nat.zero_add, updM_same, true_and, List.isEmpty_nil, List.isEmpty_cons, Bool.not_true, Bool.not_false, Bool.not_not, q_revA, e_ra_l, e_ra_s, e_ra_t, e_ra_z, q_star, e_st_l, e_st_s, e_st_t, q_par3, e_p3, q_cont, r_mul2_i, r_mul2_l, r_mul2_s, r_le2_i, r_le2_s, r_lt2_i, r_lt2_s, r_sum, r_max2, r_min2, r_rst, r_spl, r_six, q_callX, q_callKX, q_raise, e_d1, q_try, q_tryW, q_xf, q_isX, e_cau, r_add2_i, r_add2_s, r_add2_t, r_add2_l, r_add2_rl, r_add2_lr, q_sliM, r_slM, q_kdef, q_mix21, q_mix03, q_mkA, q_mkK, q_mk0, e_err, q_fld, q_isV, q_isU, q_m01, q_m02, q_m02s]
    refine ⟨ns, rfl, hl, fun a c M1 _ _ h1 _ => ?_⟩
    simp only [q_v, q_c, q_tup, q_lst, q_op, q_nil, q_cons, q_tst, q_tru, q_andT, q_orT, q_notT, q_andV, q_orV, q_notV, q_ifE, q_next, q_seq, q_asg, q_drop, q_ret, q_retN, q_ifS, q_par, q_isi, q_blt, q_call, q_callK, q_kid, q_kswap, q_chain, q_neg, q_isN, q_notN, q_noO, q_someO, q_sli, q_rev, q_revM, q_bm, q_bm0, q_m1, q_seqI, q_rng, q_rng2, q_enum, q_zip, q_gnm, q_gtp, q_gs0, q_gs1, q_yes, q_put, e_bl, e_int, e_str, e_lst, e_n_non, e_n_bl, e_n_int, e_n_str, e_n_tup, e_n_lst, e_n_slst, e_n_dic, e_n_ref, e_seq_l, e_seq_s, e_seq_t, e_seq_z, e_rev_l, e_rev_s, e_i1, e_i2, e_l1, e_l1s, e_l2, e_p2, e_sl, e_o, e_ob, e_on, e_ml, e_md, e_c, e_tru_b, e_tru_n, e_tru_i, e_tru_t, e_tru_l, t_str_non, t_tup_non, t_int_non, t_bool_non, t_lst_non, t_dict_non, t_str_bl, t_tup_bl, t_int_bl, t_bool_bl, t_lst_bl, t_dict_bl, t_str_int, t_tup_int, t_int_int, t_bool_int, t_lst_int, t_dict_int, t_str_str, t_tup_str, t_int_str, t_bool_str, t_lst_str, t_dict_str, t_str_tup, t_tup_tup, t_int_tup, t_bool_tup, t_lst_tup, t_dict_tup, t_str_lst, t_tup_lst, t_int_lst, t_bool_lst, t_lst_lst, t_dict_lst, t_str_dic, t_tup_dic, t_int_dic, t_bool_dic, t_lst_dic, t_dict_dic, r_add_i, r_add_s, r_add_t, r_add_l, r_sub, r_mul, r_mul_l, r_fdiv, r_mod, r_pow, r_lt, r_ix_l, r_ix_t, r_ix_s, r_ix_rl, r_ix_rd, r_sl_l, r_sl_sl, r_sl_t, r_sl_s, r_len_l, r_len_sl, r_len_t, r_len_s, r_len_r, r_all, r_any, r_tuple_l, r_tuple_sl, r_tuple_t, r_tuple_r, r_list_l, r_list_sl, r_list_t, r_list_r, r_ord, r_repr, r_pop, r_app, r_ext, r_join, r_join_t, r_isl_r, r_isl_l, r_in, r_put_d, r_put_l, r_eq_i, r_eq_s, r_ne_i, r_ne_s, r_eq_t0, r_ne_t0, r_eq_r0, r_ne_r0, r_eq_l0, r_ne_l0, q_lstM, q_frz, e_fz_r, e_fz_non, e_fz_bl, e_fz_int, e_fz_str, e_fz_tup, e_fz_lst, e_fz_dic, q_drp, q_zs, e_zs_tup_tup, e_zs_tup_lst, e_zs_tup_slst, e_zs_lst_tup, e_zs_lst_lst, e_zs_lst_slst, e_zs_slst_tup, e_zs_slst_lst, e_zs_slst_slst, r_mem_s, r_mem_t, r_mem_l, r_int_i, r_int_b, r_listM_l, r_listM_sl, r_listM_t, r_start, wipeD, br_not, br_true, br_false, br_dec, List.map_cons, List.map_nil, List.length_cons, List.length_nil, List.replicate_succ, List.replicate_zero, List.cons_append, List.nil_append, List.getElem?_cons_zero, List.getElem?_cons_succ, List.getElem?_nil, List.set_cons_zero, List.set_cons_succ, Nat.reduceAdd, Nat.reduceSub, Nat.reduceLeDiff, Nat.zero_add, updM_same, true_and, List.isEmpty_nil, List.isEmpty_cons, Bool.not_true, Bool.not_false, Bool.not_not, q_revA, e_ra_l, e_ra_s, e_ra_t, e_ra_z, q_star, e_st_l, e_st_s, e_st_t, q_par3, e_p3, q_cont, r_mul2_i, r_mul2_l, r_mul2_s, r_le2_i, r_le2_s, r_lt2_i, r_lt2_s, r_sum, r_max2, r_min2, r_rst, r_spl, r_six, q_callX, q_callKX, q_raise, e_d1, q_try, q_tryW, q_xf, q_isX, e_cau, r_add2_i, r_add2_s, r_add2_t, r_add2_l, r_add2_rl, r_add2_lr, q_sliM, r_slM, q_kdef, q_mix21, q_mix03, q_mkA, q_mkK, q_mk0, e_err, q_fld, q_isV, q_isU, q_m01, q_m02, q_m02s, q_for]
    refine ⟨by decide, ?_⟩
    refine for_inv (fun i ds' M' => HandAt M' a c ∧ ∃ x, ds' = [some (.slst (ns.map D.int)), some (.ref a), x]) ⟨h1, _, rfl⟩ (fun i d ds' M' hi w => ?_) fun ds' M' w => ?_
    · obtain ⟨w1, x, rfl⟩ := w
      simp only [q_v, q_c, q_tup, q_lst, q_op, q_nil, q_cons, q_tst, q_tru, q_andT, q_orT, q_notT, q_andV, q_orV, q_notV, q_ifE, q_next, q_seq, q_asg, q_drop, q_ret, q_retN, q_ifS, q_par, q_isi, q_blt, q_call, q_callK, q_kid, q_kswap, q_chain, q_neg, q_isN, q_notN, q_noO, q_someO, q_sli, q_rev, q_revM, q_bm, q_bm0, q_m1, q_seqI, q_rng, q_rng2, q_enum, q_zip, q_gnm, q_gtp, q_gs0, q_gs1, q_yes, q_put, e_bl, e_int, e_str, e_lst, e_n_non, e_n_bl, e_n_int, e_n_str, e_n_tup, e_n_lst, e_n_slst, e_n_dic, e_n_ref, e_seq_l, e_seq_s, e_seq_t, e_seq_z, e_rev_l, e_rev_s, e_i1, e_i2, e_l1, e_l1s, e_l2, e_p2, e_sl, e_o, e_ob, e_on, e_ml, e_md, e_c, e_tru_b, e_tru_n, e_tru_i, e_tru_t, e_tru_l, t_str_non, t_tup_non, t_int_non, t_bool_non, t_lst_non, t_dict_non, t_str_bl, t_tup_bl, t_int_bl, t_bool_bl, t_lst_bl, t_dict_bl, t_str_int, t_tup_int, t_int_int, t_bool_int, t_lst_int, t_dict_int, t_str_str, t_tup_str, t_int_str, t_bool_str, t_lst_str, t_dict_str, t_str_tup, t_tup_tup, t_int_tup, t_bool_tup, t_lst_tup, t_dict_tup, t_str_lst, t_tup_lst, t_int_lst, t_bool_lst, t_lst_lst, t_dict_lst, t_str_dic, t_tup_dic, t_int_dic, t_bool_dic, t_lst_dic, t_dict_dic, r_add_i, r_add_s, r_add_t, r_add_l, r_sub, r_mul, r_mul_l, r_fdiv, r_mod, r_pow, r_lt, r_ix_l, r_ix_t, r_ix_s, r_ix_rl, r_ix_rd, r_sl_l, r_sl_sl, r_sl_t, r_sl_s, r_len_l, r_len_sl, r_len_t, r_len_s, r_len_r, r_all, r_any, r_tuple_l, r_tuple_sl, r_tuple_t, r_tuple_r, r_list_l, r_list_sl, r_list_t, r_list_r, r_ord, r_repr, r_pop, r_app, r_ext, r_join, r_join_t, r_isl_r, r_isl_l, r_in, r_put_d, r_put_l, r_eq_i, r_eq_s, r_ne_i, r_ne_s, r_eq_t0, r_ne_t0, r_eq_r0, r_ne_r0, r_eq_l0, r_ne_l0, q_lstM, q_frz, e_fz_r, e_fz_non, e_fz_bl, e_fz_int, e_fz_str, e_fz_tup, e_fz_lst, e_fz_dic, q_drp, q_zs, e_zs_tup_tup, e_zs_tup_lst, e_zs_tup_slst, e_zs_lst_tup, e_zs_lst_lst, e_zs_lst_slst, e_zs_slst_tup, e_zs_slst_lst, e_zs_slst_slst, r_mem_s, r_mem_t, r_mem_l, r_int_i, r_int_b, r_listM_l, r_listM_sl, r_listM_t, r_start, wipeD, br_not, br_true, br_false, br_dec, List.map_cons, List.map_nil, List.length_cons, List.length_nil, List.replicate_succ, List.replicate_zero, List.cons_append, List.nil_append, List.getElem?_cons_zero, List.getElem?_cons_succ, List.getElem?_nil, List.set_cons_zero, List.set_cons_succ, Nat.reduceAdd, Nat.reduceSub, Nat.reduceLeDiff, Nat.zero_add, updM_same, true_and, List.isEmpty_nil, List.isEmpty_cons, Bool.not_true, Bool.not_false, Bool.not_not, q_revA, e_ra_l, e_ra_s, e_ra_t, e_ra_z, q_star, e_st_l, e_st_s, e_st_t, q_par3, e_p3, q_cont, r_mul2_i, r_mul2_l, r_mul2_s, r_le2_i, r_le2_s, r_lt2_i, r_lt2_s, r_sum, r_max2, r_min2, r_rst, r_spl, r_six, q_callX, q_callKX, q_raise, e_d1, q_try, q_tryW, q_xf, q_isX, e_cau, r_add2_i, r_add2_s, r_add2_t, r_add2_l, r_add2_rl, r_add2_lr, q_sliM, r_slM, q_kdef, q_mix21, q_mix03, q_mkA, q_mkK, q_mk0, e_err, q_fld, q_isV, q_isU, q_m01, q_m02, q_m02s]
      refine ⟨a, c, ns, rfl, w1, fun d1 M2 v1 h2 o2 => ?_⟩
      refine ⟨a, c, ns, rfl, h2, fun d2 M3 v2 h3 o3 => ?_⟩
      refine ⟨d1, d2, rfl, v1, v2, ?_⟩
      simp only [q_v, q_c, q_tup, q_lst, q_op, q_nil, q_cons, q_tst, q_tru, q_andT, q_orT, q_notT, q_andV, q_orV, q_notV, q_ifE, q_next, q_seq, q_asg, q_drop, q_ret, q_retN, q_ifS, q_par, q_isi, q_blt, q_call, q_callK, q_kid, q_kswap, q_chain, q_neg, q_isN, q_notN, q_noO, q_someO, q_sli, q_rev, q_revM, q_bm, q_bm0, q_m1, q_seqI, q_rng, q_rng2, q_enum, q_zip, q_gnm, q_gtp, q_gs0, q_gs1, q_yes, q_put, e_bl, e_int, e_str, e_lst, e_n_non, e_n_bl, e_n_int, e_n_str, e_n_tup, e_n_lst, e_n_slst, e_n_dic, e_n_ref, e_seq_l, e_seq_s, e_seq_t, e_seq_z, e_rev_l, e_rev_s, e_i1, e_i2, e_l1, e_l1s, e_l2, e_p2, e_sl, e_o, e_ob, e_on, e_ml, e_md, e_c, e_tru_b, e_tru_n, e_tru_i, e_tru_t, e_tru_l, t_str_non, t_tup_non, t_int_non, t_bool_non, t_lst_non, t_dict_non, t_str_bl, t_tup_bl, t_int_bl, t_bool_bl, t_lst_bl, t_dict_bl, t_str_int, t_tup_int, t_int_int, t_bool_int, t_lst_int, t_dict_int, t_str_str, t_tup_str, t_int_str, t_bool_str, t_lst_str, t_dict_str, t_str_tup, t_tup_tup, t_int_tup, t_bool_tup, t_lst_tup, t_dict_tup, t_str_lst, t_tup_lst, t_int_lst, t_bool_lst, t_lst_lst, t_dict_lst, t_str_dic, t_tup_dic, t_int_dic, t_bool_dic, t_lst_dic, t_dict_dic, r_add_i, r_add_s, r_add_t, r_add_l, r_sub, r_mul, r_mul_l, r_fdiv, r_mod, r_pow, r_lt, r_ix_l, r_ix_t, r_ix_s, r_ix_rl, r_ix_rd, r_sl_l, r_sl_sl, r_sl_t, r_sl_s, r_len_l, r_len_sl, r_len_t, r_len_s, r_len_r, r_all, r_any, r_tuple_l, r_tuple_sl, r_tuple_t, r_tuple_r, r_list_l, r_list_sl, r_list_t, r_list_r, r_ord, r_repr, r_pop, r_app, r_ext, r_join, r_join_t, r_isl_r, r_isl_l, r_in, r_put_d, r_put_l, r_eq_i, r_eq_s, r_ne_i, r_ne_s, r_eq_t0, r_ne_t0, r_eq_r0, r_ne_r0, r_eq_l0, r_ne_l0, q_lstM, q_frz, e_fz_r, e_fz_non, e_fz_bl, e_fz_int, e_fz_str, e_fz_tup, e_fz_lst, e_fz_dic, q_drp, q_zs, e_zs_tup_tup, e_zs_tup_lst, e_zs_tup_slst, e_zs_lst_tup, e_zs_lst_lst, e_zs_lst_slst, e_zs_slst_tup, e_zs_slst_lst, e_zs_slst_slst, r_mem_s, r_mem_t, r_mem_l, r_int_i, r_int_b, r_listM_l, r_listM_sl, r_listM_t, r_start, wipeD, br_not, br_true, br_false, br_dec, List.map_cons, List.map_nil, List.length_cons, List.length_nil, List.replicate_succ, List.replicate_zero, List.cons_append, List.nil_append, List.getElem?_cons_zero, List.getElem?_cons_succ, List.getElem?_nil, List.set_cons_zero, List.set_cons_succ, Nat.reduceAdd, Nat.reduceSub, Nat.reduceLeDiff, Nat.zero_add, updM_same, true_and, List.isEmpty_nil, List.isEmpty_cons, Bool.not_true, Bool.not_false, Bool.not_not, q_revA, e_ra_l, e_ra_s, e_ra_t, e_ra_z, q_star, e_st_l, e_st_s, e_st_t, q_par3, e_p3, q_cont, r_mul2_i, r_mul2_l, r_mul2_s, r_le2_i, r_le2_s, r_lt2_i, r_lt2_s, r_sum, r_max2, r_min2, r_rst, r_spl, r_six, q_callX, q_callKX, q_raise, e_d1, q_try, q_tryW, q_xf, q_isX, e_cau, r_add2_i, r_add2_s, r_add2_t, r_add2_l, r_add2_rl, r_add2_lr, q_sliM, r_slM, q_kdef, q_mix21, q_mix03, q_mkA, q_mkK, q_mk0, e_err, q_fld, q_isV, q_isU, q_m01, q_m02, q_m02s]
      exact ⟨h3, _, rfl⟩
    · obtain ⟨w1, x, rfl⟩ := w
      simp only [q_v, q_c, q_tup, q_lst, q_op, q_nil, q_cons, q_tst, q_tru, q_andT, q_orT, q_notT, q_andV, q_orV, q_notV, q_ifE, q_next, q_seq, q_asg, q_drop, q_ret, q_retN, q_ifS, q_par, q_isi, q_blt, q_call, q_callK, q_kid, q_kswap, q_chain, q_neg, q_isN, q_notN, q_noO, q_someO, q_sli, q_rev, q_revM, q_bm, q_bm0, q_m1, q_seqI, q_rng, q_rng2, q_enum, q_zip, q_gnm, q_gtp, q_gs0, q_gs1, q_yes, q_put, e_bl, e_int, e_str, e_lst, e_n_non, e_n_bl, e_n_int, e_n_str, e_n_tup, e_n_lst, e_n_slst, e_n_dic, e_n_ref, e_seq_l, e_seq_s, e_seq_t, e_seq_z, e_rev_l, e_rev_s, e_i1, e_i2, e_l1, e_l1s, e_l2, e_p2, e_sl, e_o, e_ob, e_on, e_ml, e_md, e_c, e_tru_b, e_tru_n, e_tru_i, e_tru_t, e_tru_l, t_str_non, t_tup_non, t_int_non, t_bool_non, t_lst_non, t_dict_non, t_str_bl, t_tup_bl, t_int_bl, t_bool_bl, t_lst_bl, t_dict_bl, t_str_int, t_tup_int, t_int_int, t_bool_int, t_lst_int, t_dict_int, t_str_str, t_tup_str, t_int_str, t_bool_str, t_lst_str, t_dict_str, t_str_tup, t_tup_tup, t_int_tup, t_bool_tup, t_lst_tup, t_dict_tup, t_str_lst, t_tup_lst, t_int_lst, t_bool_lst, t_lst_lst, t_dict_lst, t_str_dic, t_tup_dic, t_int_dic, t_bool_dic, t_lst_dic, t_dict_dic, r_add_i, r_add_s, r_add_t, r_add_l, r_sub, r_mul, r_mul_l, r_fdiv, r_mod, r_pow, r_lt, r_ix_l, r_ix_t, r_ix_s, r_ix_rl, r_ix_rd, r_sl_l, r_sl_sl, r_sl_t, r_sl_s, r_len_l, r_len_sl, r_len_t, r_len_s, r_len_r, r_all, r_any, r_tuple_l, r_tuple_sl, r_tuple_t, r_tuple_r, r_list_l, r_list_sl, r_list_t, r_list_r, r_ord, r_repr, r_pop, r_app, r_ext, r_join, r_join_t, r_isl_r, r_isl_l, r_in, r_put_d, r_put_l, r_eq_i, r_eq_s, r_ne_i, r_ne_s, r_eq_t0, r_ne_t0, r_eq_r0, r_ne_r0, r_eq_l0, r_ne_l0, q_lstM, q_frz, e_fz_r, e_fz_non, e_fz_bl, e_fz_int, e_fz_str, e_fz_tup, e_fz_lst, e_fz_dic, q_drp, q_zs, e_zs_tup_tup, e_zs_tup_lst, e_zs_tup_slst, e_zs_lst_tup, e_zs_lst_lst, e_zs_lst_slst, e_zs_slst_tup, e_zs_slst_lst, e_zs_slst_slst, r_mem_s, r_mem_t, r_mem_l, r_int_i, r_int_b, r_listM_l, r_listM_sl, r_listM_t, r_start, wipeD, br_not, br_true, br_false, br_dec, List.map_cons, List.map_nil, List.length_cons, List.length_nil, List.replicate_succ, List.replicate_zero, List.cons_append, List.nil_append, List.getElem?_cons_zero, List.getElem?_cons_succ, List.getElem?_nil, List.set_cons_zero, List.set_cons_succ, Nat.reduceAdd, Nat.reduceSub, Nat.reduceLeDiff, Nat.zero_add, updM_same, true_and, List.isEmpty_nil, List.isEmpty_cons, Bool.not_true, Bool.not_false, Bool.not_not, q_revA, e_ra_l, e_ra_s, e_ra_t, e_ra_z, q_star, e_st_l, e_st_s, e_st_t, q_par3, e_p3, q_cont, r_mul2_i, r_mul2_l, r_mul2_s, r_le2_i, r_le2_s, r_lt2_i, r_lt2_s, r_sum, r_max2, r_min2, r_rst, r_spl, r_six, q_callX, q_callKX, q_raise, e_d1, q_try, q_tryW, q_xf, q_isX, e_cau, r_add2_i, r_add2_s, r_add2_t, r_add2_l, r_add2_rl, r_add2_lr, q_sliM, r_slM, q_kdef, q_mix21, q_mix03, q_mkA, q_mkK, q_mk0, e_err, q_fld, q_isV, q_isU, q_m01, q_m02, q_m02s]
      exact hF _
  · exact h.elim
theorem at_end : ∀ (ns : List Int) (M : Mp), ns.length ≤ 63 → R_law [.slst (ns.map D.int)] M fun d _ => d = .bl true := fun ns M h => ⟨ns, rfl, h, fun _ => rfl⟩
end K01

namespace K01
open PySem PySem.Spec PyProof.Rows L2 Fx
def topS (i : Nat) : Stmt := PySem.Challenge.pw_finishable_k01_errors_by_hand.main.body.getD i (.Pass ⟨0, 0, 0, 0⟩)
abbrev s_l_hand : Stmt := topS 17
theorem sc_l_hand : FnScope ["_law_script", "_law_cells", "_law_mixed", "_law_cell"] ["_law_script"] (defScope s_l_hand) := ⟨rfl, rfl, rfl, by decide +kernel, rfl, by decide +kernel, by decide +kernel⟩
theorem dr_l_hand [Grd] {P : Program} {w : World} {K : PySem.W.Frag} {mg : Str → Option Value} {base : Heap} {f : Addr} {cdv : Value} {A : Around} {outer : List PySem.Env} {s : Shared} {H : Hp} {E : XK} (m_list : mg "list" = none)
    (gd : (A.deeper (envOfC "_law_hand" (defScope s_l_hand) s.heap.objs.size f cdv)).guards = some []) (hr : Room 0 (A.deeper (envOfC "_law_hand" (defScope s_l_hand) s.heap.objs.size f cdv))) :
    DSs (cxOf CX0 P w K mg base ["_law_script", "_law_cells", "_law_mixed", "_law_cell"] "_law_hand" (defScope s_l_hand) f cdv A outer s H E).nox (defBody s_l_hand) (T_l_hand) :=
  (dss_cons (ds_par 1 2 rfl sc_l_hand.nd (by decide) (da_cons (de_bltTy cb_list (by rfl) m_list (by decide +kernel) (da_cons (de_sli (dv 0) do_none (do_some de_int)) da_nil)) (da_cons de_int da_nil)))
    (dss_cons (ds_for (t := (.nm 3)) PassesOwn.never rfl (di_seq (dv 1)) (dg_nm 3 sc_l_hand.nd) (dss_one (ds_set 2 sc_l_hand.nd (de_op or_mod (de_op or_add2 (de_op or_add2 (de_op or_mul2 (dv 2) de_int) (de_op or_mod (dv 3) de_int)) de_int) de_int))))
    (dss_one (ds_ret (de_disp true (zs := ["cells", "mixed", "draws"]) (.cons (de_revM (dv 1)) (.cons (dv 2) (.cons de_int .nil))) (by simp) (by decide) (by decide +kernel))))))
theorem ok_l_hand {P : Program} {w : World} {K : PySem.W.Frag} {mg : Str → Option Value} {base : Heap} {f : Addr} {fd : FuncData} {R : RD} (m_list : mg "list" = none) (Fu : Fun K "_law_hand" "_law_hand" s_l_hand f fd) (bi : Binds K fd ["_law_script"] []) (gm : mg "_law_hand" = some (.ref f)) (hn : ∀ xs M F, R xs M F → xs.length = 1)
    (hR : ∀ ds M F, R ds M F → T_l_hand { nx := fun _ M' => F .non M', rt := F } (startD 4 ds) M) : FnH P w K mg base 1 "_law_hand" f fd ["_law_script"] R :=
  ⟨fnd Fu sc_l_hand fun cdv A outer s H E gd hr => ⟨_, dr_l_hand m_list gd hr, fun ds M F _ h => hR ds M F h⟩, hn, gm, Fu.kp, bi⟩
abbrev s_l_draw : Stmt := topS 18
theorem sc_l_draw : FnScope ["_law_hand_here", "_law_many", "_law_number", "_law_cell"] ["_law_hand_here", "_law_many"] (defScope s_l_draw) := ⟨rfl, rfl, rfl, by decide +kernel, rfl, by decide +kernel, by decide +kernel⟩
theorem dr_l_draw [Grd] {P : Program} {w : World} {K : PySem.W.Frag} {mg : Str → Option Value} {base : Heap} {f : Addr} {cdv : Value} {A : Around} {outer : List PySem.Env} {s : Shared} {H : Hp} {E : XK}
    (gd : (A.deeper (envOfC "_law_draw" (defScope s_l_draw) s.heap.objs.size f cdv)).guards = some []) (hr : Room 0 (A.deeper (envOfC "_law_draw" (defScope s_l_draw) s.heap.objs.size f cdv))) :
    DSs (cxOf CX0 P w K mg base ["_law_hand_here", "_law_many", "_law_number", "_law_cell"] "_law_draw" (defScope s_l_draw) f cdv A outer s H E).nox (defBody s_l_draw) (T_l_draw) :=
  (dss_cons (ds_put (hu_of hr) (dv 0) de_str (de_op or_add2 (de_ix (or_ix (hu_of hr)) (dv 0) de_str (fun _ _ => rfl)) de_int))
    (dss_cons (ds_set 2 sc_l_draw.nd (de_op or_add2 (de_ix (or_ix (hu_of hr)) (dv 0) de_str (fun _ _ => rfl)) (de_op or_mul2 de_int (de_ix (or_ix (hu_of hr)) (dv 0) de_str (fun _ _ => rfl)))))
    (dss_cons (ds_if (dt_cmp (or_ne hr.units) (de_ix (or_ix (hu_of hr)) (dv 0) de_str (fun _ _ => rfl)) (de_lst da_nil) (by rfl)) (dss_cons (ds_set 3 sc_l_draw.nd (de_bm0L PySem.F.slot_list_pop PySem.F.type_list_pop dm_pop (de_ix (or_ix (hu_of hr)) (dv 0) de_str (fun _ _ => rfl))))
    (dss_cons (ds_if (dt_cmp or_ge (dv 3) (de_op or_pow de_int de_int) (by rfl)) (dss_cons (ds_expr (de_bmL PySem.F.slot_list_append PySem.F.type_list_append dm_append (de_ix (or_ix (hu_of hr)) (dv 0) de_str (fun _ _ => rfl)) (da_cons (de_op or_fdiv (dv 3) (dv 1)) da_nil)))
    (dss_one (ds_ret (de_op or_mod (dv 3) (dv 1))))) dss_nil)
    (dss_one (ds_set 2 sc_l_draw.nd (de_op or_add2 (dv 2) (dv 3)))))) dss_nil)
    (dss_cons (ds_set 2 sc_l_draw.nd (de_op or_mod (de_op or_mul2 (de_op or_mod (dv 2) de_int) de_int) de_int))
    (dss_cons (ds_set 2 sc_l_draw.nd (de_op or_mod (de_op or_add2 (de_op or_add2 (de_op or_mul2 (dv 2) (dv 2)) (de_op or_mul2 de_int (de_ix (or_ix (hu_of hr)) (dv 0) de_str (fun _ _ => rfl)))) de_int) de_int))
    (dss_one (ds_ret (de_op or_mod (de_op or_fdiv (de_op or_mod (de_op or_mul2 (dv 2) de_int) de_int) de_int) (dv 1)))))))))
theorem ok_l_draw {P : Program} {w : World} {K : PySem.W.Frag} {mg : Str → Option Value} {base : Heap} {f : Addr} {fd : FuncData} {R : RD} (Fu : Fun K "_law_draw" "_law_draw" s_l_draw f fd) (bi : Binds K fd ["_law_hand_here", "_law_many"] []) (gm : mg "_law_draw" = some (.ref f)) (hn : ∀ xs M F, R xs M F → xs.length = 2)
    (hR : ∀ ds M F, R ds M F → T_l_draw { nx := fun _ M' => F .non M', rt := F } (startD 4 ds) M) : FnH P w K mg base 1 "_law_draw" f fd ["_law_hand_here", "_law_many"] R :=
  ⟨fnd Fu sc_l_draw fun cdv A outer s H E gd hr => ⟨_, dr_l_draw gd hr, fun ds M F _ h => hR ds M F h⟩, hn, gm, Fu.kp, bi⟩
abbrev s_l_with_one : Stmt := topS 20
theorem sc_l_with_one : FnScope ["_law_it", "_law_found"] ["_law_it"] (defScope s_l_with_one) := ⟨rfl, rfl, rfl, by decide +kernel, rfl, by decide +kernel, by decide +kernel⟩
theorem dr_l_with_one [Grd] {P : Program} {w : World} {K : PySem.W.Frag} {mg : Str → Option Value} {base : Heap} {f : Addr} {cdv : Value} {A : Around} {outer : List PySem.Env} {s : Shared} {H : Hp} {E : XK} {C_InvalidCommand : Addr} {C_InvalidText : Addr} {C_NoName : Addr} {C_Stuck : Addr} {C_TooLong : Addr} {C_NotUndeclared : Addr} {C_NotBuildable : Addr} {C_BadToken : Addr} {C_BadGoal : Addr} {C_BadLibrary : Addr} (v_InvalidCommand : ErrV P K mg "InvalidCommand" ["line"] [(["line"], [0])] C_InvalidCommand) (v_InvalidText : ErrV P K mg "InvalidText" ["place"] [(["place"], [0])] C_InvalidText) (v_NoName : ErrV P K mg "NoName" ["name"] [(["name"], [0])] C_NoName) (v_Stuck : ErrV P K mg "Stuck" ["index"] [(["index"], [0])] C_Stuck) (v_TooLong : ErrV P K mg "TooLong" ["length"] [(["length"], [0])] C_TooLong) (v_NotUndeclared : ErrV P K mg "NotUndeclared" ["name"] [(["name"], [0])] C_NotUndeclared) (v_NotBuildable : ErrV P K mg "NotBuildable" ["kind"] [(["kind"], [0])] C_NotBuildable) (v_BadToken : ErrV P K mg "BadToken" ["token"] [(["token"], [0])] C_BadToken) (v_BadGoal : ErrV P K mg "BadGoal" ["part"] [(["part"], [0])] C_BadGoal) (v_BadLibrary : ErrV P K mg "BadLibrary" ["part"] [(["part"], [0])] C_BadLibrary)
    (gd : (A.deeper (envOfC "_law_with_one" (defScope s_l_with_one) s.heap.objs.size f cdv)).guards = some []) (hr : Room 0 (A.deeper (envOfC "_law_with_one" (defScope s_l_with_one) s.heap.objs.size f cdv))) :
    DSs (cxOf CX0 P w K mg base ["_law_it", "_law_found"] "_law_with_one" (defScope s_l_with_one) f cdv A outer s H E).nox (defBody s_l_with_one) (T_l_with_one) :=
  (dss_cons (ds_set 1 sc_l_with_one.nd (de_lst (da_cons (de_tup (da_cons (de_mkA v_BadLibrary hr (da_cons (dv 0) da_nil)) (da_cons (de_fld v_BadLibrary List.mem_cons_self (de_mkA v_BadLibrary hr (da_cons (dv 0) da_nil))) da_nil))) (da_cons (de_tup (da_cons (de_mkK (ks := ["part"]) v_BadLibrary hr List.mem_cons_self (dq_cons (dv 0) dq_nil)) (da_cons (de_fld v_BadLibrary List.mem_cons_self (de_mkK (ks := ["part"]) v_BadLibrary hr List.mem_cons_self (dq_cons (dv 0) dq_nil))) da_nil))) da_nil))))
    (dss_cons (ds_set 1 sc_l_with_one.nd (de_op or_add2 (dv 1) (de_lst (da_cons (de_tup (da_cons (de_mkA v_BadGoal hr (da_cons (dv 0) da_nil)) (da_cons (de_fld v_BadGoal List.mem_cons_self (de_mkA v_BadGoal hr (da_cons (dv 0) da_nil))) da_nil))) (da_cons (de_tup (da_cons (de_mkK (ks := ["part"]) v_BadGoal hr List.mem_cons_self (dq_cons (dv 0) dq_nil)) (da_cons (de_fld v_BadGoal List.mem_cons_self (de_mkK (ks := ["part"]) v_BadGoal hr List.mem_cons_self (dq_cons (dv 0) dq_nil))) da_nil))) da_nil)))))
    (dss_cons (ds_set 1 sc_l_with_one.nd (de_op or_add2 (dv 1) (de_lst (da_cons (de_tup (da_cons (de_mkA v_BadToken hr (da_cons (dv 0) da_nil)) (da_cons (de_fld v_BadToken List.mem_cons_self (de_mkA v_BadToken hr (da_cons (dv 0) da_nil))) da_nil))) (da_cons (de_tup (da_cons (de_mkK (ks := ["token"]) v_BadToken hr List.mem_cons_self (dq_cons (dv 0) dq_nil)) (da_cons (de_fld v_BadToken List.mem_cons_self (de_mkK (ks := ["token"]) v_BadToken hr List.mem_cons_self (dq_cons (dv 0) dq_nil))) da_nil))) da_nil)))))
    (dss_cons (ds_set 1 sc_l_with_one.nd (de_op or_add2 (dv 1) (de_lst (da_cons (de_tup (da_cons (de_mkA v_NotBuildable hr (da_cons (dv 0) da_nil)) (da_cons (de_fld v_NotBuildable List.mem_cons_self (de_mkA v_NotBuildable hr (da_cons (dv 0) da_nil))) da_nil))) (da_cons (de_tup (da_cons (de_mkK (ks := ["kind"]) v_NotBuildable hr List.mem_cons_self (dq_cons (dv 0) dq_nil)) (da_cons (de_fld v_NotBuildable List.mem_cons_self (de_mkK (ks := ["kind"]) v_NotBuildable hr List.mem_cons_self (dq_cons (dv 0) dq_nil))) da_nil))) da_nil)))))
    (dss_cons (ds_set 1 sc_l_with_one.nd (de_op or_add2 (dv 1) (de_lst (da_cons (de_tup (da_cons (de_mkA v_NotUndeclared hr (da_cons (dv 0) da_nil)) (da_cons (de_fld v_NotUndeclared List.mem_cons_self (de_mkA v_NotUndeclared hr (da_cons (dv 0) da_nil))) da_nil))) da_nil))))
    (dss_cons (ds_set 1 sc_l_with_one.nd (de_op or_add2 (dv 1) (de_lst (da_cons (de_tup (da_cons (de_mkK (ks := ["name"]) v_NotUndeclared hr List.mem_cons_self (dq_cons (dv 0) dq_nil)) (da_cons (de_fld v_NotUndeclared List.mem_cons_self (de_mkK (ks := ["name"]) v_NotUndeclared hr List.mem_cons_self (dq_cons (dv 0) dq_nil))) da_nil))) da_nil))))
    (dss_cons (ds_set 1 sc_l_with_one.nd (de_op or_add2 (dv 1) (de_lst (da_cons (de_tup (da_cons (de_mkA v_TooLong hr (da_cons (dv 0) da_nil)) (da_cons (de_fld v_TooLong List.mem_cons_self (de_mkA v_TooLong hr (da_cons (dv 0) da_nil))) da_nil))) (da_cons (de_tup (da_cons (de_mkK (ks := ["length"]) v_TooLong hr List.mem_cons_self (dq_cons (dv 0) dq_nil)) (da_cons (de_fld v_TooLong List.mem_cons_self (de_mkK (ks := ["length"]) v_TooLong hr List.mem_cons_self (dq_cons (dv 0) dq_nil))) da_nil))) da_nil)))))
    (dss_cons (ds_set 1 sc_l_with_one.nd (de_op or_add2 (dv 1) (de_lst (da_cons (de_tup (da_cons (de_mkA v_Stuck hr (da_cons (dv 0) da_nil)) (da_cons (de_fld v_Stuck List.mem_cons_self (de_mkA v_Stuck hr (da_cons (dv 0) da_nil))) da_nil))) (da_cons (de_tup (da_cons (de_mkK (ks := ["index"]) v_Stuck hr List.mem_cons_self (dq_cons (dv 0) dq_nil)) (da_cons (de_fld v_Stuck List.mem_cons_self (de_mkK (ks := ["index"]) v_Stuck hr List.mem_cons_self (dq_cons (dv 0) dq_nil))) da_nil))) da_nil)))))
    (dss_cons (ds_set 1 sc_l_with_one.nd (de_op or_add2 (dv 1) (de_lst (da_cons (de_tup (da_cons (de_mkA v_NoName hr (da_cons (dv 0) da_nil)) (da_cons (de_fld v_NoName List.mem_cons_self (de_mkA v_NoName hr (da_cons (dv 0) da_nil))) da_nil))) (da_cons (de_tup (da_cons (de_mkK (ks := ["name"]) v_NoName hr List.mem_cons_self (dq_cons (dv 0) dq_nil)) (da_cons (de_fld v_NoName List.mem_cons_self (de_mkK (ks := ["name"]) v_NoName hr List.mem_cons_self (dq_cons (dv 0) dq_nil))) da_nil))) da_nil)))))
    (dss_cons (ds_set 1 sc_l_with_one.nd (de_op or_add2 (dv 1) (de_lst (da_cons (de_tup (da_cons (de_mkA v_InvalidText hr (da_cons (dv 0) da_nil)) (da_cons (de_fld v_InvalidText List.mem_cons_self (de_mkA v_InvalidText hr (da_cons (dv 0) da_nil))) da_nil))) (da_cons (de_tup (da_cons (de_mkK (ks := ["place"]) v_InvalidText hr List.mem_cons_self (dq_cons (dv 0) dq_nil)) (da_cons (de_fld v_InvalidText List.mem_cons_self (de_mkK (ks := ["place"]) v_InvalidText hr List.mem_cons_self (dq_cons (dv 0) dq_nil))) da_nil))) da_nil)))))
    (dss_cons (ds_set 1 sc_l_with_one.nd (de_op or_add2 (dv 1) (de_lst (da_cons (de_tup (da_cons (de_mkA v_InvalidCommand hr (da_cons (dv 0) da_nil)) (da_cons (de_fld v_InvalidCommand List.mem_cons_self (de_mkA v_InvalidCommand hr (da_cons (dv 0) da_nil))) da_nil))) da_nil))))
    (dss_one (ds_ret (de_op or_add2 (dv 1) (de_lst (da_cons (de_tup (da_cons (de_mkK (ks := ["line"]) v_InvalidCommand hr List.mem_cons_self (dq_cons (dv 0) dq_nil)) (da_cons (de_fld v_InvalidCommand List.mem_cons_self (de_mkK (ks := ["line"]) v_InvalidCommand hr List.mem_cons_self (dq_cons (dv 0) dq_nil))) da_nil))) da_nil))))))))))))))))
theorem ok_l_with_one {P : Program} {w : World} {K : PySem.W.Frag} {mg : Str → Option Value} {base : Heap} {f : Addr} {fd : FuncData} {R : RD} {C_InvalidCommand : Addr} {C_InvalidText : Addr} {C_NoName : Addr} {C_Stuck : Addr} {C_TooLong : Addr} {C_NotUndeclared : Addr} {C_NotBuildable : Addr} {C_BadToken : Addr} {C_BadGoal : Addr} {C_BadLibrary : Addr} (v_InvalidCommand : ErrV P K mg "InvalidCommand" ["line"] [(["line"], [0])] C_InvalidCommand) (v_InvalidText : ErrV P K mg "InvalidText" ["place"] [(["place"], [0])] C_InvalidText) (v_NoName : ErrV P K mg "NoName" ["name"] [(["name"], [0])] C_NoName) (v_Stuck : ErrV P K mg "Stuck" ["index"] [(["index"], [0])] C_Stuck) (v_TooLong : ErrV P K mg "TooLong" ["length"] [(["length"], [0])] C_TooLong) (v_NotUndeclared : ErrV P K mg "NotUndeclared" ["name"] [(["name"], [0])] C_NotUndeclared) (v_NotBuildable : ErrV P K mg "NotBuildable" ["kind"] [(["kind"], [0])] C_NotBuildable) (v_BadToken : ErrV P K mg "BadToken" ["token"] [(["token"], [0])] C_BadToken) (v_BadGoal : ErrV P K mg "BadGoal" ["part"] [(["part"], [0])] C_BadGoal) (v_BadLibrary : ErrV P K mg "BadLibrary" ["part"] [(["part"], [0])] C_BadLibrary) (Fu : Fun K "_law_with_one" "_law_with_one" s_l_with_one f fd) (bi : Binds K fd ["_law_it"] []) (gm : mg "_law_with_one" = some (.ref f)) (hn : ∀ xs M F, R xs M F → xs.length = 1)
    (hR : ∀ ds M F, R ds M F → T_l_with_one { nx := fun _ M' => F .non M', rt := F } (startD 2 ds) M) : FnH P w K mg base 1 "_law_with_one" f fd ["_law_it"] R :=
  ⟨fnd Fu sc_l_with_one fun cdv A outer s H E gd hr => ⟨_, dr_l_with_one v_InvalidCommand v_InvalidText v_NoName v_Stuck v_TooLong v_NotUndeclared v_NotBuildable v_BadToken v_BadGoal v_BadLibrary gd hr, fun ds M F _ h => hR ds M F h⟩, hn, gm, Fu.kp, bi⟩
abbrev s_l_places : Stmt := topS 21
theorem sc_l_places : FnScope ["_law_odd", "_law_some", "_law_at", "_law_is_one"] ["_law_odd"] (defScope s_l_places) := ⟨rfl, rfl, rfl, by decide +kernel, rfl, by decide +kernel, by decide +kernel⟩
theorem dr_l_places [Grd] {P : Program} {w : World} {K : PySem.W.Frag} {mg : Str → Option Value} {base : Heap} {f : Addr} {cdv : Value} {A : Around} {outer : List PySem.Env} {s : Shared} {H : Hp} {E : XK} (m_enumerate : mg "enumerate" = none) (m_isinstance : mg "isinstance" = none) {C_NoGoal : Addr} {C_NothingThere : Addr} {C_NotOpen : Addr} {C_Clash : Addr} {C_InvalidCommand : Addr} {C_InvalidText : Addr} {C_NoName : Addr} {C_Stuck : Addr} {C_TooLong : Addr} {C_NotUndeclared : Addr} {C_NotBuildable : Addr} {C_BadToken : Addr} {C_BadGoal : Addr} {C_BadLibrary : Addr} (i_NoGoal : IsxH K ["GapError", "BadLibrary", "Clash", "BadGoal", "BadToken", "NotBuildable", "NotOpen", "NotUndeclared", "TooLong", "Stuck", "NothingThere", "NoName", "InvalidText", "InvalidCommand", "NoGoal"] "NoGoal" C_NoGoal) (y_NoGoal : mg "NoGoal" = some (.ref C_NoGoal)) (i_NothingThere : IsxH K ["GapError", "BadLibrary", "Clash", "BadGoal", "BadToken", "NotBuildable", "NotOpen", "NotUndeclared", "TooLong", "Stuck", "NothingThere", "NoName", "InvalidText", "InvalidCommand", "NoGoal"] "NothingThere" C_NothingThere) (y_NothingThere : mg "NothingThere" = some (.ref C_NothingThere)) (i_NotOpen : IsxH K ["GapError", "BadLibrary", "Clash", "BadGoal", "BadToken", "NotBuildable", "NotOpen", "NotUndeclared", "TooLong", "Stuck", "NothingThere", "NoName", "InvalidText", "InvalidCommand", "NoGoal"] "NotOpen" C_NotOpen) (y_NotOpen : mg "NotOpen" = some (.ref C_NotOpen)) (i_Clash : IsxH K ["GapError", "BadLibrary", "Clash", "BadGoal", "BadToken", "NotBuildable", "NotOpen", "NotUndeclared", "TooLong", "Stuck", "NothingThere", "NoName", "InvalidText", "InvalidCommand", "NoGoal"] "Clash" C_Clash) (y_Clash : mg "Clash" = some (.ref C_Clash)) (i_InvalidCommand : IsxH K ["GapError", "BadLibrary", "Clash", "BadGoal", "BadToken", "NotBuildable", "NotOpen", "NotUndeclared", "TooLong", "Stuck", "NothingThere", "NoName", "InvalidText", "InvalidCommand", "NoGoal"] "InvalidCommand" C_InvalidCommand) (y_InvalidCommand : mg "InvalidCommand" = some (.ref C_InvalidCommand)) (i_InvalidText : IsxH K ["GapError", "BadLibrary", "Clash", "BadGoal", "BadToken", "NotBuildable", "NotOpen", "NotUndeclared", "TooLong", "Stuck", "NothingThere", "NoName", "InvalidText", "InvalidCommand", "NoGoal"] "InvalidText" C_InvalidText) (y_InvalidText : mg "InvalidText" = some (.ref C_InvalidText)) (i_NoName : IsxH K ["GapError", "BadLibrary", "Clash", "BadGoal", "BadToken", "NotBuildable", "NotOpen", "NotUndeclared", "TooLong", "Stuck", "NothingThere", "NoName", "InvalidText", "InvalidCommand", "NoGoal"] "NoName" C_NoName) (y_NoName : mg "NoName" = some (.ref C_NoName)) (i_Stuck : IsxH K ["GapError", "BadLibrary", "Clash", "BadGoal", "BadToken", "NotBuildable", "NotOpen", "NotUndeclared", "TooLong", "Stuck", "NothingThere", "NoName", "InvalidText", "InvalidCommand", "NoGoal"] "Stuck" C_Stuck) (y_Stuck : mg "Stuck" = some (.ref C_Stuck)) (i_TooLong : IsxH K ["GapError", "BadLibrary", "Clash", "BadGoal", "BadToken", "NotBuildable", "NotOpen", "NotUndeclared", "TooLong", "Stuck", "NothingThere", "NoName", "InvalidText", "InvalidCommand", "NoGoal"] "TooLong" C_TooLong) (y_TooLong : mg "TooLong" = some (.ref C_TooLong)) (i_NotUndeclared : IsxH K ["GapError", "BadLibrary", "Clash", "BadGoal", "BadToken", "NotBuildable", "NotOpen", "NotUndeclared", "TooLong", "Stuck", "NothingThere", "NoName", "InvalidText", "InvalidCommand", "NoGoal"] "NotUndeclared" C_NotUndeclared) (y_NotUndeclared : mg "NotUndeclared" = some (.ref C_NotUndeclared)) (i_NotBuildable : IsxH K ["GapError", "BadLibrary", "Clash", "BadGoal", "BadToken", "NotBuildable", "NotOpen", "NotUndeclared", "TooLong", "Stuck", "NothingThere", "NoName", "InvalidText", "InvalidCommand", "NoGoal"] "NotBuildable" C_NotBuildable) (y_NotBuildable : mg "NotBuildable" = some (.ref C_NotBuildable)) (i_BadToken : IsxH K ["GapError", "BadLibrary", "Clash", "BadGoal", "BadToken", "NotBuildable", "NotOpen", "NotUndeclared", "TooLong", "Stuck", "NothingThere", "NoName", "InvalidText", "InvalidCommand", "NoGoal"] "BadToken" C_BadToken) (y_BadToken : mg "BadToken" = some (.ref C_BadToken)) (i_BadGoal : IsxH K ["GapError", "BadLibrary", "Clash", "BadGoal", "BadToken", "NotBuildable", "NotOpen", "NotUndeclared", "TooLong", "Stuck", "NothingThere", "NoName", "InvalidText", "InvalidCommand", "NoGoal"] "BadGoal" C_BadGoal) (y_BadGoal : mg "BadGoal" = some (.ref C_BadGoal)) (i_BadLibrary : IsxH K ["GapError", "BadLibrary", "Clash", "BadGoal", "BadToken", "NotBuildable", "NotOpen", "NotUndeclared", "TooLong", "Stuck", "NothingThere", "NoName", "InvalidText", "InvalidCommand", "NoGoal"] "BadLibrary" C_BadLibrary) (y_BadLibrary : mg "BadLibrary" = some (.ref C_BadLibrary))
    (gd : (A.deeper (envOfC "_law_places" (defScope s_l_places) s.heap.objs.size f cdv)).guards = some []) (hr : Room 0 (A.deeper (envOfC "_law_places" (defScope s_l_places) s.heap.objs.size f cdv))) :
    DSs (cxOf CX0 P w K mg base ["_law_odd", "_law_some", "_law_at", "_law_is_one"] "_law_places" (defScope s_l_places) f cdv A outer s H E).nox (defBody s_l_places) (T_l_places) :=
  (dss_cons (ds_set 1 sc_l_places.nd (de_lst (da_cons (de_isV i_BadLibrary y_BadLibrary (dv 0) m_isinstance) (da_cons (de_isV i_BadGoal y_BadGoal (dv 0) m_isinstance) (da_cons (de_isV i_BadToken y_BadToken (dv 0) m_isinstance) da_nil)))))
    (dss_cons (ds_set 1 sc_l_places.nd (de_op or_add2 (dv 1) (de_lst (da_cons (de_isV i_NotBuildable y_NotBuildable (dv 0) m_isinstance) (da_cons (de_isV i_NotUndeclared y_NotUndeclared (dv 0) m_isinstance) (da_cons (de_isV i_TooLong y_TooLong (dv 0) m_isinstance) da_nil))))))
    (dss_cons (ds_set 1 sc_l_places.nd (de_op or_add2 (dv 1) (de_lst (da_cons (de_isV i_Stuck y_Stuck (dv 0) m_isinstance) (da_cons (de_isV i_NoName y_NoName (dv 0) m_isinstance) (da_cons (de_isV i_InvalidText y_InvalidText (dv 0) m_isinstance) da_nil))))))
    (dss_cons (ds_set 1 sc_l_places.nd (de_op or_add2 (dv 1) (de_lst (da_cons (de_isV i_InvalidCommand y_InvalidCommand (dv 0) m_isinstance) (da_cons (de_isV i_Clash y_Clash (dv 0) m_isinstance) (da_cons (de_isV i_NotOpen y_NotOpen (dv 0) m_isinstance) da_nil))))))
    (dss_cons (ds_set 1 sc_l_places.nd (de_op or_add2 (dv 1) (de_lst (da_cons (de_isV i_NothingThere y_NothingThere (dv 0) m_isinstance) (da_cons (de_isV i_NoGoal y_NoGoal (dv 0) m_isinstance) da_nil)))))
    (dss_one (ds_ret (de_lc (t := (.tp [(.nm 2), (.nm 3)])) [2, 3] rfl sc_l_places.nd (di_enum (by rfl) m_enumerate (da_cons (dv 1) da_nil)) (blkOk_by (own := [("_law_at", 2), ("_law_is_one", 3)]) (N := ["_law_odd", "_law_some", "_law_at", "_law_is_one"]) (sc := defScope s_l_places) (by decide +kernel)) (by simp [slots, slotss]) (fun _ _ _ _ _ => (dg_tp rfl (dgs_cons (dg_nm 2 sc_l_places.nd) (dgs_cons (dg_nm 3 sc_l_places.nd) dgs_nil)))) (fun _ _ _ _ _ => (dts_one (dt_val (dv 3)))) (fun _ _ _ _ _ => (dv 2))))))))))
theorem ok_l_places {P : Program} {w : World} {K : PySem.W.Frag} {mg : Str → Option Value} {base : Heap} {f : Addr} {fd : FuncData} {R : RD} (m_enumerate : mg "enumerate" = none) (m_isinstance : mg "isinstance" = none) {C_NoGoal : Addr} {C_NothingThere : Addr} {C_NotOpen : Addr} {C_Clash : Addr} {C_InvalidCommand : Addr} {C_InvalidText : Addr} {C_NoName : Addr} {C_Stuck : Addr} {C_TooLong : Addr} {C_NotUndeclared : Addr} {C_NotBuildable : Addr} {C_BadToken : Addr} {C_BadGoal : Addr} {C_BadLibrary : Addr} (i_NoGoal : IsxH K ["GapError", "BadLibrary", "Clash", "BadGoal", "BadToken", "NotBuildable", "NotOpen", "NotUndeclared", "TooLong", "Stuck", "NothingThere", "NoName", "InvalidText", "InvalidCommand", "NoGoal"] "NoGoal" C_NoGoal) (y_NoGoal : mg "NoGoal" = some (.ref C_NoGoal)) (i_NothingThere : IsxH K ["GapError", "BadLibrary", "Clash", "BadGoal", "BadToken", "NotBuildable", "NotOpen", "NotUndeclared", "TooLong", "Stuck", "NothingThere", "NoName", "InvalidText", "InvalidCommand", "NoGoal"] "NothingThere" C_NothingThere) (y_NothingThere : mg "NothingThere" = some (.ref C_NothingThere)) (i_NotOpen : IsxH K ["GapError", "BadLibrary", "Clash", "BadGoal", "BadToken", "NotBuildable", "NotOpen", "NotUndeclared", "TooLong", "Stuck", "NothingThere", "NoName", "InvalidText", "InvalidCommand", "NoGoal"] "NotOpen" C_NotOpen) (y_NotOpen : mg "NotOpen" = some (.ref C_NotOpen)) (i_Clash : IsxH K ["GapError", "BadLibrary", "Clash", "BadGoal", "BadToken", "NotBuildable", "NotOpen", "NotUndeclared", "TooLong", "Stuck", "NothingThere", "NoName", "InvalidText", "InvalidCommand", "NoGoal"] "Clash" C_Clash) (y_Clash : mg "Clash" = some (.ref C_Clash)) (i_InvalidCommand : IsxH K ["GapError", "BadLibrary", "Clash", "BadGoal", "BadToken", "NotBuildable", "NotOpen", "NotUndeclared", "TooLong", "Stuck", "NothingThere", "NoName", "InvalidText", "InvalidCommand", "NoGoal"] "InvalidCommand" C_InvalidCommand) (y_InvalidCommand : mg "InvalidCommand" = some (.ref C_InvalidCommand)) (i_InvalidText : IsxH K ["GapError", "BadLibrary", "Clash", "BadGoal", "BadToken", "NotBuildable", "NotOpen", "NotUndeclared", "TooLong", "Stuck", "NothingThere", "NoName", "InvalidText", "InvalidCommand", "NoGoal"] "InvalidText" C_InvalidText) (y_InvalidText : mg "InvalidText" = some (.ref C_InvalidText)) (i_NoName : IsxH K ["GapError", "BadLibrary", "Clash", "BadGoal", "BadToken", "NotBuildable", "NotOpen", "NotUndeclared", "TooLong", "Stuck", "NothingThere", "NoName", "InvalidText", "InvalidCommand", "NoGoal"] "NoName" C_NoName) (y_NoName : mg "NoName" = some (.ref C_NoName)) (i_Stuck : IsxH K ["GapError", "BadLibrary", "Clash", "BadGoal", "BadToken", "NotBuildable", "NotOpen", "NotUndeclared", "TooLong", "Stuck", "NothingThere", "NoName", "InvalidText", "InvalidCommand", "NoGoal"] "Stuck" C_Stuck) (y_Stuck : mg "Stuck" = some (.ref C_Stuck)) (i_TooLong : IsxH K ["GapError", "BadLibrary", "Clash", "BadGoal", "BadToken", "NotBuildable", "NotOpen", "NotUndeclared", "TooLong", "Stuck", "NothingThere", "NoName", "InvalidText", "InvalidCommand", "NoGoal"] "TooLong" C_TooLong) (y_TooLong : mg "TooLong" = some (.ref C_TooLong)) (i_NotUndeclared : IsxH K ["GapError", "BadLibrary", "Clash", "BadGoal", "BadToken", "NotBuildable", "NotOpen", "NotUndeclared", "TooLong", "Stuck", "NothingThere", "NoName", "InvalidText", "InvalidCommand", "NoGoal"] "NotUndeclared" C_NotUndeclared) (y_NotUndeclared : mg "NotUndeclared" = some (.ref C_NotUndeclared)) (i_NotBuildable : IsxH K ["GapError", "BadLibrary", "Clash", "BadGoal", "BadToken", "NotBuildable", "NotOpen", "NotUndeclared", "TooLong", "Stuck", "NothingThere", "NoName", "InvalidText", "InvalidCommand", "NoGoal"] "NotBuildable" C_NotBuildable) (y_NotBuildable : mg "NotBuildable" = some (.ref C_NotBuildable)) (i_BadToken : IsxH K ["GapError", "BadLibrary", "Clash", "BadGoal", "BadToken", "NotBuildable", "NotOpen", "NotUndeclared", "TooLong", "Stuck", "NothingThere", "NoName", "InvalidText", "InvalidCommand", "NoGoal"] "BadToken" C_BadToken) (y_BadToken : mg "BadToken" = some (.ref C_BadToken)) (i_BadGoal : IsxH K ["GapError", "BadLibrary", "Clash", "BadGoal", "BadToken", "NotBuildable", "NotOpen", "NotUndeclared", "TooLong", "Stuck", "NothingThere", "NoName", "InvalidText", "InvalidCommand", "NoGoal"] "BadGoal" C_BadGoal) (y_BadGoal : mg "BadGoal" = some (.ref C_BadGoal)) (i_BadLibrary : IsxH K ["GapError", "BadLibrary", "Clash", "BadGoal", "BadToken", "NotBuildable", "NotOpen", "NotUndeclared", "TooLong", "Stuck", "NothingThere", "NoName", "InvalidText", "InvalidCommand", "NoGoal"] "BadLibrary" C_BadLibrary) (y_BadLibrary : mg "BadLibrary" = some (.ref C_BadLibrary)) (Fu : Fun K "_law_places" "_law_places" s_l_places f fd) (bi : Binds K fd ["_law_odd"] []) (gm : mg "_law_places" = some (.ref f)) (hn : ∀ xs M F, R xs M F → xs.length = 1)
    (hR : ∀ ds M F, R ds M F → T_l_places { nx := fun _ M' => F .non M', rt := F } (startD 4 ds) M) : FnH P w K mg base 1 "_law_places" f fd ["_law_odd"] R :=
  ⟨fnd Fu sc_l_places fun cdv A outer s H E gd hr => ⟨_, dr_l_places m_enumerate m_isinstance i_NoGoal y_NoGoal i_NothingThere y_NothingThere i_NotOpen y_NotOpen i_Clash y_Clash i_InvalidCommand y_InvalidCommand i_InvalidText y_InvalidText i_NoName y_NoName i_Stuck y_Stuck i_TooLong y_TooLong i_NotUndeclared y_NotUndeclared i_NotBuildable y_NotBuildable i_BadToken y_BadToken i_BadGoal y_BadGoal i_BadLibrary y_BadLibrary gd hr, fun ds M F _ h => hR ds M F h⟩, hn, gm, Fu.kp, bi⟩
abbrev s_l_value : Stmt := topS 19
theorem sc_l_value : FnScope ["_law_hand_here", "_law_script", "_law_some", "_law_cell"] ["_law_hand_here", "_law_script"] (defScope s_l_value) := ⟨rfl, rfl, rfl, by decide +kernel, rfl, by decide +kernel, by decide +kernel⟩
theorem dr_l_value [Grd] {P : Program} {w : World} {K : PySem.W.Frag} {mg : Str → Option Value} {base : Heap} {f : Addr} {cdv : Value} {A : Around} {outer : List PySem.Env} {s : Shared} {H : Hp} {E : XK} {f_l_draw : Addr} {fd_l_draw : FuncData} {R_l_draw : RD} (h_l_draw : FnH P w K mg base 1 "_law_draw" f_l_draw fd_l_draw ["_law_hand_here", "_law_many"] R_l_draw) (m_len : mg "len" = none) (m_tuple : mg "tuple" = none)
    (gd : (A.deeper (envOfC "_law_value" (defScope s_l_value) s.heap.objs.size f cdv)).guards = some []) (hr : Room 1 (A.deeper (envOfC "_law_value" (defScope s_l_value) s.heap.objs.size f cdv))) :
    DSs (cxOf CX0 P w K mg base ["_law_hand_here", "_law_script", "_law_some", "_law_cell"] "_law_value" (defScope s_l_value) f cdv A outer s H E).nox (defBody s_l_value) (T_l_value R_l_draw) :=
  (dss_cons (ds_set 2 sc_l_value.nd (de_lst (da_cons de_non (da_cons de_bl (da_cons de_bl (da_cons de_int (da_cons (de_neg de_int) (da_cons (de_op or_pow de_int de_int) (da_cons de_str (da_cons de_str (da_cons de_str (da_cons (de_tup da_nil) (da_cons (de_tup (da_cons de_str da_nil)) (da_cons (de_tup (da_cons (de_tup (da_cons de_str (da_cons de_str da_nil))) (da_cons de_int da_nil))) (da_cons (de_lst da_nil) (da_cons (de_lst (da_cons de_str (da_cons (de_lst (da_cons de_int da_nil)) da_nil))) (da_cons de_dic0 da_nil)))))))))))))))))
    (dss_cons (ds_set 2 sc_l_value.nd (de_op or_add2 (dv 2) (de_lst (da_cons (de_disp false (zs := ["a"]) (.cons (de_tup (da_cons de_int da_nil)) .nil) (by simp) (by decide) (by decide +kernel)) (da_cons de_str (da_cons (de_bltTy cb_tuple (by rfl) m_tuple (by decide +kernel) (da_cons (de_lc (t := (.nm 3)) [3] rfl sc_l_value.nd (di_seq (de_sli (dv 1) do_none (do_some de_int))) (blkOk_by (own := [("_law_cell", 3)]) (N := ["_law_hand_here", "_law_script", "_law_some", "_law_cell"]) (sc := defScope s_l_value) (by decide +kernel)) (by simp [slots, slotss]) (fun _ _ _ _ _ => (dg_nm 3 sc_l_value.nd)) (fun _ _ _ _ _ => dts_nil) (fun _ _ _ _ _ => (de_op or_mod (dv 3) (de_op or_pow de_int de_int)))) da_nil)) (da_cons de_str da_nil)))))))
    (dss_one (ds_ret (de_ix (or_ix (hu_of hr)) (dv 2) (dcall h_l_draw gd hr (da_cons (dv 0) (da_cons (de_blt cb_len (by rfl) m_len (by decide +kernel) (da_cons (dv 2) da_nil)) da_nil))) (fun _ _ => rfl))))))
theorem ok_l_value {P : Program} {w : World} {K : PySem.W.Frag} {mg : Str → Option Value} {base : Heap} {f : Addr} {fd : FuncData} {R : RD} {f_l_draw : Addr} {fd_l_draw : FuncData} {R_l_draw : RD} (h_l_draw : FnH P w K mg base 1 "_law_draw" f_l_draw fd_l_draw ["_law_hand_here", "_law_many"] R_l_draw) (m_len : mg "len" = none) (m_tuple : mg "tuple" = none) (Fu : Fun K "_law_value" "_law_value" s_l_value f fd) (bi : Binds K fd ["_law_hand_here", "_law_script"] []) (gm : mg "_law_value" = some (.ref f)) (hn : ∀ xs M F, R xs M F → xs.length = 2)
    (hR : ∀ ds M F, R ds M F → T_l_value R_l_draw { nx := fun _ M' => F .non M', rt := F } (startD 4 ds) M) : FnH P w K mg base 2 "_law_value" f fd ["_law_hand_here", "_law_script"] R :=
  ⟨fnd Fu sc_l_value fun cdv A outer s H E gd hr => ⟨_, dr_l_value h_l_draw m_len m_tuple gd hr, fun ds M F _ h => hR ds M F h⟩, hn, gm, Fu.kp, bi⟩
abbrev s_l_is_alone : Stmt := topS 22
theorem sc_l_is_alone : FnScope ["_law_odd", "_law_places_here"] ["_law_odd", "_law_places_here"] (defScope s_l_is_alone) := ⟨rfl, rfl, rfl, by decide +kernel, rfl, by decide +kernel, by decide +kernel⟩
theorem dr_l_is_alone [Grd] {P : Program} {w : World} {K : PySem.W.Frag} {mg : Str → Option Value} {base : Heap} {f : Addr} {cdv : Value} {A : Around} {outer : List PySem.Env} {s : Shared} {H : Hp} {E : XK} {f_l_places : Addr} {fd_l_places : FuncData} {R_l_places : RD} (h_l_places : FnH P w K mg base 1 "_law_places" f_l_places fd_l_places ["_law_odd"] R_l_places) (m_isinstance : mg "isinstance" = none) (m_ArithmeticError : mg "ArithmeticError" = none) (m_LookupError : mg "LookupError" = none) (m_RuntimeError : mg "RuntimeError" = none) (m_TypeError : mg "TypeError" = none) (m_ValueError : mg "ValueError" = none) (m_Exception : mg "Exception" = none) {C_GapError : Addr} (i_GapError : IsxH K ["GapError", "BadLibrary", "Clash", "BadGoal", "BadToken", "NotBuildable", "NotOpen", "NotUndeclared", "TooLong", "Stuck", "NothingThere", "NoName", "InvalidText", "InvalidCommand", "NoGoal"] "GapError" C_GapError) (y_GapError : mg "GapError" = some (.ref C_GapError)) (b_Exception : IsbH K ["GapError", "BadLibrary", "Clash", "BadGoal", "BadToken", "NotBuildable", "NotOpen", "NotUndeclared", "TooLong", "Stuck", "NothingThere", "NoName", "InvalidText", "InvalidCommand", "NoGoal"] "Exception") (u_0 : IsuH K ["GapError", "BadLibrary", "Clash", "BadGoal", "BadToken", "NotBuildable", "NotOpen", "NotUndeclared", "TooLong", "Stuck", "NothingThere", "NoName", "InvalidText", "InvalidCommand", "NoGoal"] ["ArithmeticError", "LookupError", "RuntimeError", "TypeError", "ValueError"])
    (gd : (A.deeper (envOfC "_law_is_alone" (defScope s_l_is_alone) s.heap.objs.size f cdv)).guards = some []) (hr : Room 1 (A.deeper (envOfC "_law_is_alone" (defScope s_l_is_alone) s.heap.objs.size f cdv))) :
    DSs (cxOf CX0 P w K mg base ["_law_odd", "_law_places_here"] "_law_is_alone" (defScope s_l_is_alone) f cdv A outer s H E).nox (defBody s_l_is_alone) (T_l_is_alone R_l_places) :=
  (dss_cons (ds_if (dt_w (dw_or (dt_not (dt_val (de_isV i_GapError y_GapError (dv 0) m_isinstance))) (dw_or (dt_not (dt_val (de_isB b_Exception (dv 0) m_isinstance m_Exception (by decide +kernel)))) (dw_or1 (dt_cmp (or_ne hr.units) (dcall h_l_places gd hr (da_cons (dv 0) da_nil)) (dv 1) (by rfl)))))) (dss_one (ds_ret de_bl)) dss_nil)
    (dss_one (ds_ret (de_not (de_isU u_0 (dv 0) (pa_cons (pe_bltn (v := .ty "ArithmeticError") (by rfl) m_ArithmeticError (by decide +kernel) rfl) (pa_cons (pe_bltn (v := .ty "LookupError") (by rfl) m_LookupError (by decide +kernel) rfl) (pa_cons (pe_bltn (v := .ty "RuntimeError") (by rfl) m_RuntimeError (by decide +kernel) rfl) (pa_cons (pe_bltn (v := .ty "TypeError") (by rfl) m_TypeError (by decide +kernel) rfl) (pa_cons (pe_bltn (v := .ty "ValueError") (by rfl) m_ValueError (by decide +kernel) rfl) pa_nil))))) (by decide) m_isinstance)))))
theorem ok_l_is_alone {P : Program} {w : World} {K : PySem.W.Frag} {mg : Str → Option Value} {base : Heap} {f : Addr} {fd : FuncData} {R : RD} {f_l_places : Addr} {fd_l_places : FuncData} {R_l_places : RD} (h_l_places : FnH P w K mg base 1 "_law_places" f_l_places fd_l_places ["_law_odd"] R_l_places) (m_isinstance : mg "isinstance" = none) (m_ArithmeticError : mg "ArithmeticError" = none) (m_LookupError : mg "LookupError" = none) (m_RuntimeError : mg "RuntimeError" = none) (m_TypeError : mg "TypeError" = none) (m_ValueError : mg "ValueError" = none) (m_Exception : mg "Exception" = none) {C_GapError : Addr} (i_GapError : IsxH K ["GapError", "BadLibrary", "Clash", "BadGoal", "BadToken", "NotBuildable", "NotOpen", "NotUndeclared", "TooLong", "Stuck", "NothingThere", "NoName", "InvalidText", "InvalidCommand", "NoGoal"] "GapError" C_GapError) (y_GapError : mg "GapError" = some (.ref C_GapError)) (b_Exception : IsbH K ["GapError", "BadLibrary", "Clash", "BadGoal", "BadToken", "NotBuildable", "NotOpen", "NotUndeclared", "TooLong", "Stuck", "NothingThere", "NoName", "InvalidText", "InvalidCommand", "NoGoal"] "Exception") (u_0 : IsuH K ["GapError", "BadLibrary", "Clash", "BadGoal", "BadToken", "NotBuildable", "NotOpen", "NotUndeclared", "TooLong", "Stuck", "NothingThere", "NoName", "InvalidText", "InvalidCommand", "NoGoal"] ["ArithmeticError", "LookupError", "RuntimeError", "TypeError", "ValueError"]) (Fu : Fun K "_law_is_alone" "_law_is_alone" s_l_is_alone f fd) (bi : Binds K fd ["_law_odd", "_law_places_here"] []) (gm : mg "_law_is_alone" = some (.ref f)) (hn : ∀ xs M F, R xs M F → xs.length = 2)
    (hR : ∀ ds M F, R ds M F → T_l_is_alone R_l_places { nx := fun _ M' => F .non M', rt := F } (startD 2 ds) M) : FnH P w K mg base 2 "_law_is_alone" f fd ["_law_odd", "_law_places_here"] R :=
  ⟨fnd Fu sc_l_is_alone fun cdv A outer s H E gd hr => ⟨_, dr_l_is_alone h_l_places m_isinstance m_ArithmeticError m_LookupError m_RuntimeError m_TypeError m_ValueError m_Exception i_GapError y_GapError b_Exception u_0 gd hr, fun ds M F _ h => hR ds M F h⟩, hn, gm, Fu.kp, bi⟩
abbrev s_l_right : Stmt := topS 23
theorem sc_l_right : FnScope ["_law_it", "_law_that", "_law_before", "_law_at", "_law_odd", "_law_borne"] ["_law_it", "_law_that"] (defScope s_l_right) := ⟨rfl, rfl, rfl, by decide +kernel, rfl, by decide +kernel, by decide +kernel⟩
theorem dr_l_right [Grd] {P : Program} {w : World} {K : PySem.W.Frag} {mg : Str → Option Value} {base : Heap} {f : Addr} {cdv : Value} {A : Around} {outer : List PySem.Env} {s : Shared} {H : Hp} {E : XK} {f_l_is_alone f_l_with_one : Addr} {fd_l_is_alone fd_l_with_one : FuncData} {R_l_is_alone : RD} {R_l_with_one : RD} (h_l_is_alone : FnH P w K mg base 2 "_law_is_alone" f_l_is_alone fd_l_is_alone ["_law_odd", "_law_places_here"] R_l_is_alone) (h_l_with_one : FnH P w K mg base 1 "_law_with_one" f_l_with_one fd_l_with_one ["_law_it"] R_l_with_one) (m_repr : mg "repr" = none) (m_enumerate : mg "enumerate" = none) {C_Clash : Addr} {C_GapError : Addr} {C_NoGoal : Addr} {C_NothingThere : Addr} {C_NotOpen : Addr} (v_Clash : ErrV P K mg "Clash" ["one", "other"] [(["one", "other"], [0, 1]), (["other", "one"], [1, 0])] C_Clash) (w_GapError : ErrV0 K mg "GapError" C_GapError) (w_NoGoal : ErrV0 K mg "NoGoal" C_NoGoal) (w_NothingThere : ErrV0 K mg "NothingThere" C_NothingThere) (w_NotOpen : ErrV0 K mg "NotOpen" C_NotOpen)
    (gd : (A.deeper (envOfC "_law_right" (defScope s_l_right) s.heap.objs.size f cdv)).guards = some []) (hr : Room 2 (A.deeper (envOfC "_law_right" (defScope s_l_right) s.heap.objs.size f cdv))) :
    DSs (cxOf CX0 P w K mg base ["_law_it", "_law_that", "_law_before", "_law_at", "_law_odd", "_law_borne"] "_law_right" (defScope s_l_right) f cdv A outer s H E).nox (defBody s_l_right) (T_l_right R_l_is_alone R_l_with_one) :=
  (dss_cons (ds_set 2 sc_l_right.nd (de_blt (cb_repr gd (u200 hr)) (by rfl) m_repr (by decide +kernel) (da_cons (de_lst (da_cons (dv 0) (da_cons (dv 1) da_nil))) da_nil)))
    (dss_cons (ds_for (t := (.tp [(.nm 3), (.tp [(.nm 4), (.nm 5)])])) PassesOwn.never rfl (di_enum (by rfl) m_enumerate (da_cons (dcall h_l_with_one gd hr (da_cons (dv 0) da_nil)) da_nil)) (dg_tp rfl (dgs_cons (dg_nm 3 sc_l_right.nd) (dgs_cons (dg_tp rfl (dgs_cons (dg_nm 4 sc_l_right.nd) (dgs_cons (dg_nm 5 sc_l_right.nd) dgs_nil))) dgs_nil))) (dss_one (ds_if (dt_w (dw_or (dt_not (dt_val (dcall h_l_is_alone gd hr (da_cons (dv 4) (da_cons (de_lst (da_cons (de_op or_fdiv (dv 3) de_int) da_nil)) da_nil))))) (dw_or1 (dt_cmp (or_ne hr.units) (de_blt (cb_repr gd (u200 hr)) (by rfl) m_repr (by decide +kernel) (da_cons (dv 5) da_nil)) (de_blt (cb_repr gd (u200 hr)) (by rfl) m_repr (by decide +kernel) (da_cons (dv 0) da_nil)) (by rfl))))) (dss_one (ds_ret de_bl)) dss_nil)))
    (dss_cons (ds_for (t := (.nm 4)) PassesOwn.never rfl (di_seq (de_lst (da_cons (de_mkA v_Clash hr (da_cons (dv 0) (da_cons (dv 1) da_nil))) (da_cons (de_mkK (ks := ["one", "other"]) v_Clash hr List.mem_cons_self (dq_cons (dv 0) (dq_cons (dv 1) dq_nil))) (da_cons (de_mkK (ks := ["other", "one"]) v_Clash hr (List.mem_cons_of_mem _ List.mem_cons_self) (dq_cons (dv 1) (dq_cons (dv 0) dq_nil))) da_nil))))) (dg_nm 4 sc_l_right.nd) (dss_one (ds_if (dt_w (dw_or (dt_not (dt_val (dcall h_l_is_alone gd hr (da_cons (dv 4) (da_cons (de_lst (da_cons de_int da_nil)) da_nil))))) (dw_or1 (dt_cmp (or_ne hr.units) (de_blt (cb_repr gd (u200 hr)) (by rfl) m_repr (by decide +kernel) (da_cons (de_lst (da_cons (de_fld v_Clash List.mem_cons_self (dv 4)) (da_cons (de_fld v_Clash (List.mem_cons_of_mem _ List.mem_cons_self) (dv 4)) da_nil))) da_nil)) (de_blt (cb_repr gd (u200 hr)) (by rfl) m_repr (by decide +kernel) (da_cons (de_lst (da_cons (dv 0) (da_cons (dv 1) da_nil))) da_nil)) (by rfl))))) (dss_one (ds_ret de_bl)) dss_nil)))
    (dss_cons (ds_for (t := (.tp [(.nm 3), (.nm 4)])) PassesOwn.never rfl (di_enum (by rfl) m_enumerate (da_cons (de_lst (da_cons (de_mk0 w_NotOpen) (da_cons (de_mk0 w_NothingThere) (da_cons (de_mk0 w_NoGoal) da_nil)))) da_nil)) (dg_tp rfl (dgs_cons (dg_nm 3 sc_l_right.nd) (dgs_cons (dg_nm 4 sc_l_right.nd) dgs_nil))) (dss_one (ds_if (dt_not (dt_val (dcall h_l_is_alone gd hr (da_cons (dv 4) (da_cons (de_lst (da_cons (de_op or_add2 de_int (dv 3)) da_nil)) da_nil))))) (dss_one (ds_ret de_bl)) dss_nil)))
    (dss_one (ds_ret (de_and (dcall h_l_is_alone gd hr (da_cons (de_mk0 w_GapError) (da_cons (de_lst da_nil) da_nil))) (de_one (de_cmp (or_eq hr.units) (de_blt (cb_repr gd (u200 hr)) (by rfl) m_repr (by decide +kernel) (da_cons (de_lst (da_cons (dv 0) (da_cons (dv 1) da_nil))) da_nil)) (dv 2) (by rfl))))))))))
theorem ok_l_right {P : Program} {w : World} {K : PySem.W.Frag} {mg : Str → Option Value} {base : Heap} {f : Addr} {fd : FuncData} {R : RD} {f_l_is_alone f_l_with_one : Addr} {fd_l_is_alone fd_l_with_one : FuncData} {R_l_is_alone : RD} {R_l_with_one : RD} (h_l_is_alone : FnH P w K mg base 2 "_law_is_alone" f_l_is_alone fd_l_is_alone ["_law_odd", "_law_places_here"] R_l_is_alone) (h_l_with_one : FnH P w K mg base 1 "_law_with_one" f_l_with_one fd_l_with_one ["_law_it"] R_l_with_one) (m_repr : mg "repr" = none) (m_enumerate : mg "enumerate" = none) {C_Clash : Addr} {C_GapError : Addr} {C_NoGoal : Addr} {C_NothingThere : Addr} {C_NotOpen : Addr} (v_Clash : ErrV P K mg "Clash" ["one", "other"] [(["one", "other"], [0, 1]), (["other", "one"], [1, 0])] C_Clash) (w_GapError : ErrV0 K mg "GapError" C_GapError) (w_NoGoal : ErrV0 K mg "NoGoal" C_NoGoal) (w_NothingThere : ErrV0 K mg "NothingThere" C_NothingThere) (w_NotOpen : ErrV0 K mg "NotOpen" C_NotOpen) (Fu : Fun K "_law_right" "_law_right" s_l_right f fd) (bi : Binds K fd ["_law_it", "_law_that"] []) (gm : mg "_law_right" = some (.ref f)) (hn : ∀ xs M F, R xs M F → xs.length = 2)
    (hR : ∀ ds M F, R ds M F → T_l_right R_l_is_alone R_l_with_one { nx := fun _ M' => F .non M', rt := F } (startD 6 ds) M) : FnH P w K mg base 3 "_law_right" f fd ["_law_it", "_law_that"] R :=
  ⟨fnd Fu sc_l_right fun cdv A outer s H E gd hr => ⟨_, dr_l_right h_l_is_alone h_l_with_one m_repr m_enumerate v_Clash w_GapError w_NoGoal w_NothingThere w_NotOpen gd hr, fun ds M F _ h => hR ds M F h⟩, hn, gm, Fu.kp, bi⟩
abbrev s_law : Stmt := topS 24
theorem sc_law : FnScope ["_law_script", "_law_hand_here", "_law_turn"] ["_law_script"] (defScope s_law) := ⟨rfl, rfl, rfl, by decide +kernel, rfl, by decide +kernel, by decide +kernel⟩
theorem dr_law [Grd] {P : Program} {w : World} {K : PySem.W.Frag} {mg : Str → Option Value} {base : Heap} {f : Addr} {cdv : Value} {A : Around} {outer : List PySem.Env} {s : Shared} {H : Hp} {E : XK} {f_l_right f_l_value f_l_hand : Addr} {fd_l_right fd_l_value fd_l_hand : FuncData} {R_l_right : RD} {R_l_value : RD} {R_l_hand : RD} (h_l_right : FnH P w K mg base 3 "_law_right" f_l_right fd_l_right ["_law_it", "_law_that"] R_l_right) (h_l_value : FnH P w K mg base 2 "_law_value" f_l_value fd_l_value ["_law_hand_here", "_law_script"] R_l_value) (h_l_hand : FnH P w K mg base 1 "_law_hand" f_l_hand fd_l_hand ["_law_script"] R_l_hand) (m_range : mg "range" = none)
    (gd : (A.deeper (envOfC "law" (defScope s_law) s.heap.objs.size f cdv)).guards = some []) (hr : Room 3 (A.deeper (envOfC "law" (defScope s_law) s.heap.objs.size f cdv))) :
    DSs (cxOf CX0 P w K mg base ["_law_script", "_law_hand_here", "_law_turn"] "law" (defScope s_law) f cdv A outer s H E).nox (defBody s_law) (T_law R_l_right R_l_value R_l_hand) :=
  (dss_cons (ds_set 1 sc_law.nd (dcall h_l_hand gd hr (da_cons (dv 0) da_nil)))
    (dss_cons (ds_for (t := (.nm 2)) PassesOwn.never rfl (di_rng1 (by rfl) m_range (da_cons de_int da_nil)) (dg_nm 2 sc_law.nd) (dss_one (ds_if (dt_not (dt_val (dcall h_l_right gd hr (da_cons (dcall h_l_value gd hr (da_cons (dv 1) (da_cons (dv 0) da_nil))) (da_cons (dcall h_l_value gd hr (da_cons (dv 1) (da_cons (dv 0) da_nil))) da_nil))))) (dss_one (ds_ret de_bl)) dss_nil)))
    (dss_one (ds_ret de_bl))))
theorem ok_law {P : Program} {w : World} {K : PySem.W.Frag} {mg : Str → Option Value} {base : Heap} {f : Addr} {fd : FuncData} {R : RD} {f_l_right f_l_value f_l_hand : Addr} {fd_l_right fd_l_value fd_l_hand : FuncData} {R_l_right : RD} {R_l_value : RD} {R_l_hand : RD} (h_l_right : FnH P w K mg base 3 "_law_right" f_l_right fd_l_right ["_law_it", "_law_that"] R_l_right) (h_l_value : FnH P w K mg base 2 "_law_value" f_l_value fd_l_value ["_law_hand_here", "_law_script"] R_l_value) (h_l_hand : FnH P w K mg base 1 "_law_hand" f_l_hand fd_l_hand ["_law_script"] R_l_hand) (m_range : mg "range" = none) (Fu : Fun K "law" "law" s_law f fd) (bi : Binds K fd ["_law_script"] []) (gm : mg "law" = some (.ref f)) (hn : ∀ xs M F, R xs M F → xs.length = 1)
    (hR : ∀ ds M F, R ds M F → T_law R_l_right R_l_value R_l_hand { nx := fun _ M' => F .non M', rt := F } (startD 3 ds) M) : FnH P w K mg base 4 "law" f fd ["_law_script"] R :=
  ⟨fnd Fu sc_law fun cdv A outer s H E gd hr => ⟨_, dr_law h_l_right h_l_value h_l_hand m_range gd hr, fun ds M F _ h => hR ds M F h⟩, hn, gm, Fu.kp, bi⟩
end K01

namespace K01
open PySem PySem.Spec PyProof.Rows L2 Fx
def msg_BadGoal : Str := "the value is not a part of a goal"
theorem eb_BadGoal : defBody (memb (topS 4) 0) = inBL msg_BadGoal ["part"] (sPos (memb (topS 4) 0)) (knOf (memb (topS 4) 0)) (aPos (memb (topS 4) 0)) := rfl
theorem sk_BadGoal : (defScope (memb (topS 4) 0)).kind = .function ∧ (defScope (memb (topS 4) 0)).isGenerator = false ∧ (defScope (memb (topS 4) 0)).isCoroutine = false := ⟨rfl, rfl, rfl⟩
theorem snc_BadGoal : ∀ x ∈ (defScope (memb (topS 4) 0)).names, x.2 ≠ .cell := by decide +kernel
theorem s1_BadGoal : (defScope (memb (topS 4) 0)).names.lookup ("self" : Str) = some .local := rfl
theorem s2_BadGoal : ∀ f ∈ (["part"] : List Str), (defScope (memb (topS 4) 0)).names.lookup f = some .local := by
  intro f hf
  simp only [List.mem_cons, List.not_mem_nil, or_false] at hf
  rcases hf with rfl <;> rfl
theorem s3_BadGoal : (defScope (memb (topS 4) 0)).names.lookup ("super" : Str) = some .globalImplicit := rfl
theorem s4_BadGoal : (defScope (memb (topS 4) 0)).names.lookup ("__class__" : Str) = some .free := rfl
theorem nd_BadGoal : (["part"] : List Str).Nodup := by decide +kernel
theorem nos_BadGoal : ∀ f ∈ (["part"] : List Str), (f == ("self" : Str)) = false ∧ (f == ("__debug__" : Str)) = false := by decide +kernel
theorem hA_BadGoal {cda cc : Addr} {kV doc pm : Value} {an : Option Addr} {ct : Value} : ∀ (x : Addr) (us : List Value), us.length = (["part"] : List Str).length → bindArgs (PySem.W.ksFn "__init__" "BadGoal.__init__" (defArgs (memb (topS 4) 0)) (defBody (memb (topS 4) 0)) (defScope (memb (topS 4) 0)) .none kV doc pm an (.ref cda) ct cc) ⟨.ref x :: us, []⟩ = (pure ((("self" : Str), Value.ref x) :: (["part"] : List Str).zip us) : Sem (List (Str × Value))) := fun x us hl => match us, hl with
  | [_], _ => rfl
theorem hK_BadGoal {cda cc : Addr} {kV doc pm : Value} {an : Option Addr} {ct : Value} : ∀ p ∈ ([(["part"], [0])] : List (List Str × List Nat)), ∀ (x : Addr) (ws : List Value), ws.length = p.1.length → bindArgs (PySem.W.ksFn "__init__" "BadGoal.__init__" (defArgs (memb (topS 4) 0)) (defBody (memb (topS 4) 0)) (defScope (memb (topS 4) 0)) .none kV doc pm an (.ref cda) ct cc) ⟨[.ref x], p.1.zip ws⟩ = (pure ((("self" : Str), Value.ref x) :: (["part"] : List Str).zip (kmix 0 p.1.length p.2 [] ws)) : Sem (List (Str × Value))) := by
  intro p hp x ws hl
  simp only [List.mem_cons, List.not_mem_nil, or_false] at hp
  rcases hp with rfl
  all_goals exact match ws, hl with
    | [_], _ => rfl
theorem he_BadGoal : supE msg_BadGoal (sPos (memb (topS 4) 0)) (knOf (memb (topS 4) 0)) := fun env => ⟨_, rfl⟩
theorem har_BadGoal : ∃ ar : Arg, ((defArgs (memb (topS 4) 0)).posonlyargs ++ (defArgs (memb (topS 4) 0)).args).head? = some ar ∧ ar.arg = "self" := ⟨_, rfl, rfl⟩
def msg_BadLibrary : Str := "the value is not a part of a library"
theorem eb_BadLibrary : defBody (memb (topS 2) 0) = inBL msg_BadLibrary ["part"] (sPos (memb (topS 2) 0)) (knOf (memb (topS 2) 0)) (aPos (memb (topS 2) 0)) := rfl
theorem sk_BadLibrary : (defScope (memb (topS 2) 0)).kind = .function ∧ (defScope (memb (topS 2) 0)).isGenerator = false ∧ (defScope (memb (topS 2) 0)).isCoroutine = false := ⟨rfl, rfl, rfl⟩
theorem snc_BadLibrary : ∀ x ∈ (defScope (memb (topS 2) 0)).names, x.2 ≠ .cell := by decide +kernel
theorem s1_BadLibrary : (defScope (memb (topS 2) 0)).names.lookup ("self" : Str) = some .local := rfl
theorem s2_BadLibrary : ∀ f ∈ (["part"] : List Str), (defScope (memb (topS 2) 0)).names.lookup f = some .local := by
  intro f hf
  simp only [List.mem_cons, List.not_mem_nil, or_false] at hf
  rcases hf with rfl <;> rfl
theorem s3_BadLibrary : (defScope (memb (topS 2) 0)).names.lookup ("super" : Str) = some .globalImplicit := rfl
theorem s4_BadLibrary : (defScope (memb (topS 2) 0)).names.lookup ("__class__" : Str) = some .free := rfl
theorem nd_BadLibrary : (["part"] : List Str).Nodup := by decide +kernel
theorem nos_BadLibrary : ∀ f ∈ (["part"] : List Str), (f == ("self" : Str)) = false ∧ (f == ("__debug__" : Str)) = false := by decide +kernel
theorem hA_BadLibrary {cda cc : Addr} {kV doc pm : Value} {an : Option Addr} {ct : Value} : ∀ (x : Addr) (us : List Value), us.length = (["part"] : List Str).length → bindArgs (PySem.W.ksFn "__init__" "BadLibrary.__init__" (defArgs (memb (topS 2) 0)) (defBody (memb (topS 2) 0)) (defScope (memb (topS 2) 0)) .none kV doc pm an (.ref cda) ct cc) ⟨.ref x :: us, []⟩ = (pure ((("self" : Str), Value.ref x) :: (["part"] : List Str).zip us) : Sem (List (Str × Value))) := fun x us hl => match us, hl with
  | [_], _ => rfl
theorem hK_BadLibrary {cda cc : Addr} {kV doc pm : Value} {an : Option Addr} {ct : Value} : ∀ p ∈ ([(["part"], [0])] : List (List Str × List Nat)), ∀ (x : Addr) (ws : List Value), ws.length = p.1.length → bindArgs (PySem.W.ksFn "__init__" "BadLibrary.__init__" (defArgs (memb (topS 2) 0)) (defBody (memb (topS 2) 0)) (defScope (memb (topS 2) 0)) .none kV doc pm an (.ref cda) ct cc) ⟨[.ref x], p.1.zip ws⟩ = (pure ((("self" : Str), Value.ref x) :: (["part"] : List Str).zip (kmix 0 p.1.length p.2 [] ws)) : Sem (List (Str × Value))) := by
  intro p hp x ws hl
  simp only [List.mem_cons, List.not_mem_nil, or_false] at hp
  rcases hp with rfl
  all_goals exact match ws, hl with
    | [_], _ => rfl
theorem he_BadLibrary : supE msg_BadLibrary (sPos (memb (topS 2) 0)) (knOf (memb (topS 2) 0)) := fun env => ⟨_, rfl⟩
theorem har_BadLibrary : ∃ ar : Arg, ((defArgs (memb (topS 2) 0)).posonlyargs ++ (defArgs (memb (topS 2) 0)).args).head? = some ar ∧ ar.arg = "self" := ⟨_, rfl, rfl⟩
def msg_BadToken : Str := "the value is not a token"
theorem eb_BadToken : defBody (memb (topS 5) 0) = inBL msg_BadToken ["token"] (sPos (memb (topS 5) 0)) (knOf (memb (topS 5) 0)) (aPos (memb (topS 5) 0)) := rfl
theorem sk_BadToken : (defScope (memb (topS 5) 0)).kind = .function ∧ (defScope (memb (topS 5) 0)).isGenerator = false ∧ (defScope (memb (topS 5) 0)).isCoroutine = false := ⟨rfl, rfl, rfl⟩
theorem snc_BadToken : ∀ x ∈ (defScope (memb (topS 5) 0)).names, x.2 ≠ .cell := by decide +kernel
theorem s1_BadToken : (defScope (memb (topS 5) 0)).names.lookup ("self" : Str) = some .local := rfl
theorem s2_BadToken : ∀ f ∈ (["token"] : List Str), (defScope (memb (topS 5) 0)).names.lookup f = some .local := by
  intro f hf
  simp only [List.mem_cons, List.not_mem_nil, or_false] at hf
  rcases hf with rfl <;> rfl
theorem s3_BadToken : (defScope (memb (topS 5) 0)).names.lookup ("super" : Str) = some .globalImplicit := rfl
theorem s4_BadToken : (defScope (memb (topS 5) 0)).names.lookup ("__class__" : Str) = some .free := rfl
theorem nd_BadToken : (["token"] : List Str).Nodup := by decide +kernel
theorem nos_BadToken : ∀ f ∈ (["token"] : List Str), (f == ("self" : Str)) = false ∧ (f == ("__debug__" : Str)) = false := by decide +kernel
theorem hA_BadToken {cda cc : Addr} {kV doc pm : Value} {an : Option Addr} {ct : Value} : ∀ (x : Addr) (us : List Value), us.length = (["token"] : List Str).length → bindArgs (PySem.W.ksFn "__init__" "BadToken.__init__" (defArgs (memb (topS 5) 0)) (defBody (memb (topS 5) 0)) (defScope (memb (topS 5) 0)) .none kV doc pm an (.ref cda) ct cc) ⟨.ref x :: us, []⟩ = (pure ((("self" : Str), Value.ref x) :: (["token"] : List Str).zip us) : Sem (List (Str × Value))) := fun x us hl => match us, hl with
  | [_], _ => rfl
theorem hK_BadToken {cda cc : Addr} {kV doc pm : Value} {an : Option Addr} {ct : Value} : ∀ p ∈ ([(["token"], [0])] : List (List Str × List Nat)), ∀ (x : Addr) (ws : List Value), ws.length = p.1.length → bindArgs (PySem.W.ksFn "__init__" "BadToken.__init__" (defArgs (memb (topS 5) 0)) (defBody (memb (topS 5) 0)) (defScope (memb (topS 5) 0)) .none kV doc pm an (.ref cda) ct cc) ⟨[.ref x], p.1.zip ws⟩ = (pure ((("self" : Str), Value.ref x) :: (["token"] : List Str).zip (kmix 0 p.1.length p.2 [] ws)) : Sem (List (Str × Value))) := by
  intro p hp x ws hl
  simp only [List.mem_cons, List.not_mem_nil, or_false] at hp
  rcases hp with rfl
  all_goals exact match ws, hl with
    | [_], _ => rfl
theorem he_BadToken : supE msg_BadToken (sPos (memb (topS 5) 0)) (knOf (memb (topS 5) 0)) := fun env => ⟨_, rfl⟩
theorem har_BadToken : ∃ ar : Arg, ((defArgs (memb (topS 5) 0)).posonlyargs ++ (defArgs (memb (topS 5) 0)).args).head? = some ar ∧ ar.arg = "self" := ⟨_, rfl, rfl⟩
def msg_Clash : Str := "two entries take the same kinds"
theorem eb_Clash : defBody (memb (topS 3) 0) = inBL msg_Clash ["one", "other"] (sPos (memb (topS 3) 0)) (knOf (memb (topS 3) 0)) (aPos (memb (topS 3) 0)) := rfl
theorem sk_Clash : (defScope (memb (topS 3) 0)).kind = .function ∧ (defScope (memb (topS 3) 0)).isGenerator = false ∧ (defScope (memb (topS 3) 0)).isCoroutine = false := ⟨rfl, rfl, rfl⟩
theorem snc_Clash : ∀ x ∈ (defScope (memb (topS 3) 0)).names, x.2 ≠ .cell := by decide +kernel
theorem s1_Clash : (defScope (memb (topS 3) 0)).names.lookup ("self" : Str) = some .local := rfl
theorem s2_Clash : ∀ f ∈ (["one", "other"] : List Str), (defScope (memb (topS 3) 0)).names.lookup f = some .local := by
  intro f hf
  simp only [List.mem_cons, List.not_mem_nil, or_false] at hf
  rcases hf with rfl | rfl <;> rfl
theorem s3_Clash : (defScope (memb (topS 3) 0)).names.lookup ("super" : Str) = some .globalImplicit := rfl
theorem s4_Clash : (defScope (memb (topS 3) 0)).names.lookup ("__class__" : Str) = some .free := rfl
theorem nd_Clash : (["one", "other"] : List Str).Nodup := by decide +kernel
theorem nos_Clash : ∀ f ∈ (["one", "other"] : List Str), (f == ("self" : Str)) = false ∧ (f == ("__debug__" : Str)) = false := by decide +kernel
theorem hA_Clash {cda cc : Addr} {kV doc pm : Value} {an : Option Addr} {ct : Value} : ∀ (x : Addr) (us : List Value), us.length = (["one", "other"] : List Str).length → bindArgs (PySem.W.ksFn "__init__" "Clash.__init__" (defArgs (memb (topS 3) 0)) (defBody (memb (topS 3) 0)) (defScope (memb (topS 3) 0)) .none kV doc pm an (.ref cda) ct cc) ⟨.ref x :: us, []⟩ = (pure ((("self" : Str), Value.ref x) :: (["one", "other"] : List Str).zip us) : Sem (List (Str × Value))) := fun x us hl => match us, hl with
  | [_, _], _ => rfl
theorem hK_Clash {cda cc : Addr} {kV doc pm : Value} {an : Option Addr} {ct : Value} : ∀ p ∈ ([(["one", "other"], [0, 1]), (["other", "one"], [1, 0])] : List (List Str × List Nat)), ∀ (x : Addr) (ws : List Value), ws.length = p.1.length → bindArgs (PySem.W.ksFn "__init__" "Clash.__init__" (defArgs (memb (topS 3) 0)) (defBody (memb (topS 3) 0)) (defScope (memb (topS 3) 0)) .none kV doc pm an (.ref cda) ct cc) ⟨[.ref x], p.1.zip ws⟩ = (pure ((("self" : Str), Value.ref x) :: (["one", "other"] : List Str).zip (kmix 0 p.1.length p.2 [] ws)) : Sem (List (Str × Value))) := by
  intro p hp x ws hl
  simp only [List.mem_cons, List.not_mem_nil, or_false] at hp
  rcases hp with rfl | rfl
  all_goals exact match ws, hl with
    | [_, _], _ => rfl
theorem he_Clash : supE msg_Clash (sPos (memb (topS 3) 0)) (knOf (memb (topS 3) 0)) := fun env => ⟨_, rfl⟩
theorem har_Clash : ∃ ar : Arg, ((defArgs (memb (topS 3) 0)).posonlyargs ++ (defArgs (memb (topS 3) 0)).args).head? = some ar ∧ ar.arg = "self" := ⟨_, rfl, rfl⟩
def msg_InvalidCommand : Str := "the value is not a command"
theorem eb_InvalidCommand : defBody (memb (topS 14) 0) = inBL msg_InvalidCommand ["line"] (sPos (memb (topS 14) 0)) (knOf (memb (topS 14) 0)) (aPos (memb (topS 14) 0)) := rfl
theorem sk_InvalidCommand : (defScope (memb (topS 14) 0)).kind = .function ∧ (defScope (memb (topS 14) 0)).isGenerator = false ∧ (defScope (memb (topS 14) 0)).isCoroutine = false := ⟨rfl, rfl, rfl⟩
theorem snc_InvalidCommand : ∀ x ∈ (defScope (memb (topS 14) 0)).names, x.2 ≠ .cell := by decide +kernel
theorem s1_InvalidCommand : (defScope (memb (topS 14) 0)).names.lookup ("self" : Str) = some .local := rfl
theorem s2_InvalidCommand : ∀ f ∈ (["line"] : List Str), (defScope (memb (topS 14) 0)).names.lookup f = some .local := by
  intro f hf
  simp only [List.mem_cons, List.not_mem_nil, or_false] at hf
  rcases hf with rfl <;> rfl
theorem s3_InvalidCommand : (defScope (memb (topS 14) 0)).names.lookup ("super" : Str) = some .globalImplicit := rfl
theorem s4_InvalidCommand : (defScope (memb (topS 14) 0)).names.lookup ("__class__" : Str) = some .free := rfl
theorem nd_InvalidCommand : (["line"] : List Str).Nodup := by decide +kernel
theorem nos_InvalidCommand : ∀ f ∈ (["line"] : List Str), (f == ("self" : Str)) = false ∧ (f == ("__debug__" : Str)) = false := by decide +kernel
theorem hA_InvalidCommand {cda cc : Addr} {kV doc pm : Value} {an : Option Addr} {ct : Value} : ∀ (x : Addr) (us : List Value), us.length = (["line"] : List Str).length → bindArgs (PySem.W.ksFn "__init__" "InvalidCommand.__init__" (defArgs (memb (topS 14) 0)) (defBody (memb (topS 14) 0)) (defScope (memb (topS 14) 0)) .none kV doc pm an (.ref cda) ct cc) ⟨.ref x :: us, []⟩ = (pure ((("self" : Str), Value.ref x) :: (["line"] : List Str).zip us) : Sem (List (Str × Value))) := fun x us hl => match us, hl with
  | [_], _ => rfl
theorem hK_InvalidCommand {cda cc : Addr} {kV doc pm : Value} {an : Option Addr} {ct : Value} : ∀ p ∈ ([(["line"], [0])] : List (List Str × List Nat)), ∀ (x : Addr) (ws : List Value), ws.length = p.1.length → bindArgs (PySem.W.ksFn "__init__" "InvalidCommand.__init__" (defArgs (memb (topS 14) 0)) (defBody (memb (topS 14) 0)) (defScope (memb (topS 14) 0)) .none kV doc pm an (.ref cda) ct cc) ⟨[.ref x], p.1.zip ws⟩ = (pure ((("self" : Str), Value.ref x) :: (["line"] : List Str).zip (kmix 0 p.1.length p.2 [] ws)) : Sem (List (Str × Value))) := by
  intro p hp x ws hl
  simp only [List.mem_cons, List.not_mem_nil, or_false] at hp
  rcases hp with rfl
  all_goals exact match ws, hl with
    | [_], _ => rfl
theorem he_InvalidCommand : supE msg_InvalidCommand (sPos (memb (topS 14) 0)) (knOf (memb (topS 14) 0)) := fun env => ⟨_, rfl⟩
theorem har_InvalidCommand : ∃ ar : Arg, ((defArgs (memb (topS 14) 0)).posonlyargs ++ (defArgs (memb (topS 14) 0)).args).head? = some ar ∧ ar.arg = "self" := ⟨_, rfl, rfl⟩
def msg_InvalidText : Str := "the value is not the expected text from this place on"
theorem eb_InvalidText : defBody (memb (topS 13) 0) = inBL msg_InvalidText ["place"] (sPos (memb (topS 13) 0)) (knOf (memb (topS 13) 0)) (aPos (memb (topS 13) 0)) := rfl
theorem sk_InvalidText : (defScope (memb (topS 13) 0)).kind = .function ∧ (defScope (memb (topS 13) 0)).isGenerator = false ∧ (defScope (memb (topS 13) 0)).isCoroutine = false := ⟨rfl, rfl, rfl⟩
theorem snc_InvalidText : ∀ x ∈ (defScope (memb (topS 13) 0)).names, x.2 ≠ .cell := by decide +kernel
theorem s1_InvalidText : (defScope (memb (topS 13) 0)).names.lookup ("self" : Str) = some .local := rfl
theorem s2_InvalidText : ∀ f ∈ (["place"] : List Str), (defScope (memb (topS 13) 0)).names.lookup f = some .local := by
  intro f hf
  simp only [List.mem_cons, List.not_mem_nil, or_false] at hf
  rcases hf with rfl <;> rfl
theorem s3_InvalidText : (defScope (memb (topS 13) 0)).names.lookup ("super" : Str) = some .globalImplicit := rfl
theorem s4_InvalidText : (defScope (memb (topS 13) 0)).names.lookup ("__class__" : Str) = some .free := rfl
theorem nd_InvalidText : (["place"] : List Str).Nodup := by decide +kernel
theorem nos_InvalidText : ∀ f ∈ (["place"] : List Str), (f == ("self" : Str)) = false ∧ (f == ("__debug__" : Str)) = false := by decide +kernel
theorem hA_InvalidText {cda cc : Addr} {kV doc pm : Value} {an : Option Addr} {ct : Value} : ∀ (x : Addr) (us : List Value), us.length = (["place"] : List Str).length → bindArgs (PySem.W.ksFn "__init__" "InvalidText.__init__" (defArgs (memb (topS 13) 0)) (defBody (memb (topS 13) 0)) (defScope (memb (topS 13) 0)) .none kV doc pm an (.ref cda) ct cc) ⟨.ref x :: us, []⟩ = (pure ((("self" : Str), Value.ref x) :: (["place"] : List Str).zip us) : Sem (List (Str × Value))) := fun x us hl => match us, hl with
  | [_], _ => rfl
theorem hK_InvalidText {cda cc : Addr} {kV doc pm : Value} {an : Option Addr} {ct : Value} : ∀ p ∈ ([(["place"], [0])] : List (List Str × List Nat)), ∀ (x : Addr) (ws : List Value), ws.length = p.1.length → bindArgs (PySem.W.ksFn "__init__" "InvalidText.__init__" (defArgs (memb (topS 13) 0)) (defBody (memb (topS 13) 0)) (defScope (memb (topS 13) 0)) .none kV doc pm an (.ref cda) ct cc) ⟨[.ref x], p.1.zip ws⟩ = (pure ((("self" : Str), Value.ref x) :: (["place"] : List Str).zip (kmix 0 p.1.length p.2 [] ws)) : Sem (List (Str × Value))) := by
  intro p hp x ws hl
  simp only [List.mem_cons, List.not_mem_nil, or_false] at hp
  rcases hp with rfl
  all_goals exact match ws, hl with
    | [_], _ => rfl
theorem he_InvalidText : supE msg_InvalidText (sPos (memb (topS 13) 0)) (knOf (memb (topS 13) 0)) := fun env => ⟨_, rfl⟩
theorem har_InvalidText : ∃ ar : Arg, ((defArgs (memb (topS 13) 0)).posonlyargs ++ (defArgs (memb (topS 13) 0)).args).head? = some ar ∧ ar.arg = "self" := ⟨_, rfl, rfl⟩
def msg_NoName : Str := "the value is not a variable that can be used here"
theorem eb_NoName : defBody (memb (topS 12) 0) = inBL msg_NoName ["name"] (sPos (memb (topS 12) 0)) (knOf (memb (topS 12) 0)) (aPos (memb (topS 12) 0)) := rfl
theorem sk_NoName : (defScope (memb (topS 12) 0)).kind = .function ∧ (defScope (memb (topS 12) 0)).isGenerator = false ∧ (defScope (memb (topS 12) 0)).isCoroutine = false := ⟨rfl, rfl, rfl⟩
theorem snc_NoName : ∀ x ∈ (defScope (memb (topS 12) 0)).names, x.2 ≠ .cell := by decide +kernel
theorem s1_NoName : (defScope (memb (topS 12) 0)).names.lookup ("self" : Str) = some .local := rfl
theorem s2_NoName : ∀ f ∈ (["name"] : List Str), (defScope (memb (topS 12) 0)).names.lookup f = some .local := by
  intro f hf
  simp only [List.mem_cons, List.not_mem_nil, or_false] at hf
  rcases hf with rfl <;> rfl
theorem s3_NoName : (defScope (memb (topS 12) 0)).names.lookup ("super" : Str) = some .globalImplicit := rfl
theorem s4_NoName : (defScope (memb (topS 12) 0)).names.lookup ("__class__" : Str) = some .free := rfl
theorem nd_NoName : (["name"] : List Str).Nodup := by decide +kernel
theorem nos_NoName : ∀ f ∈ (["name"] : List Str), (f == ("self" : Str)) = false ∧ (f == ("__debug__" : Str)) = false := by decide +kernel
theorem hA_NoName {cda cc : Addr} {kV doc pm : Value} {an : Option Addr} {ct : Value} : ∀ (x : Addr) (us : List Value), us.length = (["name"] : List Str).length → bindArgs (PySem.W.ksFn "__init__" "NoName.__init__" (defArgs (memb (topS 12) 0)) (defBody (memb (topS 12) 0)) (defScope (memb (topS 12) 0)) .none kV doc pm an (.ref cda) ct cc) ⟨.ref x :: us, []⟩ = (pure ((("self" : Str), Value.ref x) :: (["name"] : List Str).zip us) : Sem (List (Str × Value))) := fun x us hl => match us, hl with
  | [_], _ => rfl
theorem hK_NoName {cda cc : Addr} {kV doc pm : Value} {an : Option Addr} {ct : Value} : ∀ p ∈ ([(["name"], [0])] : List (List Str × List Nat)), ∀ (x : Addr) (ws : List Value), ws.length = p.1.length → bindArgs (PySem.W.ksFn "__init__" "NoName.__init__" (defArgs (memb (topS 12) 0)) (defBody (memb (topS 12) 0)) (defScope (memb (topS 12) 0)) .none kV doc pm an (.ref cda) ct cc) ⟨[.ref x], p.1.zip ws⟩ = (pure ((("self" : Str), Value.ref x) :: (["name"] : List Str).zip (kmix 0 p.1.length p.2 [] ws)) : Sem (List (Str × Value))) := by
  intro p hp x ws hl
  simp only [List.mem_cons, List.not_mem_nil, or_false] at hp
  rcases hp with rfl
  all_goals exact match ws, hl with
    | [_], _ => rfl
theorem he_NoName : supE msg_NoName (sPos (memb (topS 12) 0)) (knOf (memb (topS 12) 0)) := fun env => ⟨_, rfl⟩
theorem har_NoName : ∃ ar : Arg, ((defArgs (memb (topS 12) 0)).posonlyargs ++ (defArgs (memb (topS 12) 0)).args).head? = some ar ∧ ar.arg = "self" := ⟨_, rfl, rfl⟩
def msg_NotBuildable : Str := "no expression has this kind"
theorem eb_NotBuildable : defBody (memb (topS 6) 0) = inBL msg_NotBuildable ["kind"] (sPos (memb (topS 6) 0)) (knOf (memb (topS 6) 0)) (aPos (memb (topS 6) 0)) := rfl
theorem sk_NotBuildable : (defScope (memb (topS 6) 0)).kind = .function ∧ (defScope (memb (topS 6) 0)).isGenerator = false ∧ (defScope (memb (topS 6) 0)).isCoroutine = false := ⟨rfl, rfl, rfl⟩
theorem snc_NotBuildable : ∀ x ∈ (defScope (memb (topS 6) 0)).names, x.2 ≠ .cell := by decide +kernel
theorem s1_NotBuildable : (defScope (memb (topS 6) 0)).names.lookup ("self" : Str) = some .local := rfl
theorem s2_NotBuildable : ∀ f ∈ (["kind"] : List Str), (defScope (memb (topS 6) 0)).names.lookup f = some .local := by
  intro f hf
  simp only [List.mem_cons, List.not_mem_nil, or_false] at hf
  rcases hf with rfl <;> rfl
theorem s3_NotBuildable : (defScope (memb (topS 6) 0)).names.lookup ("super" : Str) = some .globalImplicit := rfl
theorem s4_NotBuildable : (defScope (memb (topS 6) 0)).names.lookup ("__class__" : Str) = some .free := rfl
theorem nd_NotBuildable : (["kind"] : List Str).Nodup := by decide +kernel
theorem nos_NotBuildable : ∀ f ∈ (["kind"] : List Str), (f == ("self" : Str)) = false ∧ (f == ("__debug__" : Str)) = false := by decide +kernel
theorem hA_NotBuildable {cda cc : Addr} {kV doc pm : Value} {an : Option Addr} {ct : Value} : ∀ (x : Addr) (us : List Value), us.length = (["kind"] : List Str).length → bindArgs (PySem.W.ksFn "__init__" "NotBuildable.__init__" (defArgs (memb (topS 6) 0)) (defBody (memb (topS 6) 0)) (defScope (memb (topS 6) 0)) .none kV doc pm an (.ref cda) ct cc) ⟨.ref x :: us, []⟩ = (pure ((("self" : Str), Value.ref x) :: (["kind"] : List Str).zip us) : Sem (List (Str × Value))) := fun x us hl => match us, hl with
  | [_], _ => rfl
theorem hK_NotBuildable {cda cc : Addr} {kV doc pm : Value} {an : Option Addr} {ct : Value} : ∀ p ∈ ([(["kind"], [0])] : List (List Str × List Nat)), ∀ (x : Addr) (ws : List Value), ws.length = p.1.length → bindArgs (PySem.W.ksFn "__init__" "NotBuildable.__init__" (defArgs (memb (topS 6) 0)) (defBody (memb (topS 6) 0)) (defScope (memb (topS 6) 0)) .none kV doc pm an (.ref cda) ct cc) ⟨[.ref x], p.1.zip ws⟩ = (pure ((("self" : Str), Value.ref x) :: (["kind"] : List Str).zip (kmix 0 p.1.length p.2 [] ws)) : Sem (List (Str × Value))) := by
  intro p hp x ws hl
  simp only [List.mem_cons, List.not_mem_nil, or_false] at hp
  rcases hp with rfl
  all_goals exact match ws, hl with
    | [_], _ => rfl
theorem he_NotBuildable : supE msg_NotBuildable (sPos (memb (topS 6) 0)) (knOf (memb (topS 6) 0)) := fun env => ⟨_, rfl⟩
theorem har_NotBuildable : ∃ ar : Arg, ((defArgs (memb (topS 6) 0)).posonlyargs ++ (defArgs (memb (topS 6) 0)).args).head? = some ar ∧ ar.arg = "self" := ⟨_, rfl, rfl⟩
def msg_NotUndeclared : Str := "the value is not an undeclared name of the gap"
theorem eb_NotUndeclared : defBody (memb (topS 8) 0) = inBL msg_NotUndeclared ["name"] (sPos (memb (topS 8) 0)) (knOf (memb (topS 8) 0)) (aPos (memb (topS 8) 0)) := rfl
theorem sk_NotUndeclared : (defScope (memb (topS 8) 0)).kind = .function ∧ (defScope (memb (topS 8) 0)).isGenerator = false ∧ (defScope (memb (topS 8) 0)).isCoroutine = false := ⟨rfl, rfl, rfl⟩
theorem snc_NotUndeclared : ∀ x ∈ (defScope (memb (topS 8) 0)).names, x.2 ≠ .cell := by decide +kernel
theorem s1_NotUndeclared : (defScope (memb (topS 8) 0)).names.lookup ("self" : Str) = some .local := rfl
theorem s2_NotUndeclared : ∀ f ∈ (["name"] : List Str), (defScope (memb (topS 8) 0)).names.lookup f = some .local := by
  intro f hf
  simp only [List.mem_cons, List.not_mem_nil, or_false] at hf
  rcases hf with rfl <;> rfl
theorem s3_NotUndeclared : (defScope (memb (topS 8) 0)).names.lookup ("super" : Str) = some .globalImplicit := rfl
theorem s4_NotUndeclared : (defScope (memb (topS 8) 0)).names.lookup ("__class__" : Str) = some .free := rfl
theorem nd_NotUndeclared : (["name"] : List Str).Nodup := by decide +kernel
theorem nos_NotUndeclared : ∀ f ∈ (["name"] : List Str), (f == ("self" : Str)) = false ∧ (f == ("__debug__" : Str)) = false := by decide +kernel
theorem hA_NotUndeclared {cda cc : Addr} {kV doc pm : Value} {an : Option Addr} {ct : Value} : ∀ (x : Addr) (us : List Value), us.length = (["name"] : List Str).length → bindArgs (PySem.W.ksFn "__init__" "NotUndeclared.__init__" (defArgs (memb (topS 8) 0)) (defBody (memb (topS 8) 0)) (defScope (memb (topS 8) 0)) .none kV doc pm an (.ref cda) ct cc) ⟨.ref x :: us, []⟩ = (pure ((("self" : Str), Value.ref x) :: (["name"] : List Str).zip us) : Sem (List (Str × Value))) := fun x us hl => match us, hl with
  | [_], _ => rfl
theorem hK_NotUndeclared {cda cc : Addr} {kV doc pm : Value} {an : Option Addr} {ct : Value} : ∀ p ∈ ([(["name"], [0])] : List (List Str × List Nat)), ∀ (x : Addr) (ws : List Value), ws.length = p.1.length → bindArgs (PySem.W.ksFn "__init__" "NotUndeclared.__init__" (defArgs (memb (topS 8) 0)) (defBody (memb (topS 8) 0)) (defScope (memb (topS 8) 0)) .none kV doc pm an (.ref cda) ct cc) ⟨[.ref x], p.1.zip ws⟩ = (pure ((("self" : Str), Value.ref x) :: (["name"] : List Str).zip (kmix 0 p.1.length p.2 [] ws)) : Sem (List (Str × Value))) := by
  intro p hp x ws hl
  simp only [List.mem_cons, List.not_mem_nil, or_false] at hp
  rcases hp with rfl
  all_goals exact match ws, hl with
    | [_], _ => rfl
theorem he_NotUndeclared : supE msg_NotUndeclared (sPos (memb (topS 8) 0)) (knOf (memb (topS 8) 0)) := fun env => ⟨_, rfl⟩
theorem har_NotUndeclared : ∃ ar : Arg, ((defArgs (memb (topS 8) 0)).posonlyargs ++ (defArgs (memb (topS 8) 0)).args).head? = some ar ∧ ar.arg = "self" := ⟨_, rfl, rfl⟩
def msg_Stuck : Str := "the gap would not be open"
theorem eb_Stuck : defBody (memb (topS 10) 0) = inBL msg_Stuck ["index"] (sPos (memb (topS 10) 0)) (knOf (memb (topS 10) 0)) (aPos (memb (topS 10) 0)) := rfl
theorem sk_Stuck : (defScope (memb (topS 10) 0)).kind = .function ∧ (defScope (memb (topS 10) 0)).isGenerator = false ∧ (defScope (memb (topS 10) 0)).isCoroutine = false := ⟨rfl, rfl, rfl⟩
theorem snc_Stuck : ∀ x ∈ (defScope (memb (topS 10) 0)).names, x.2 ≠ .cell := by decide +kernel
theorem s1_Stuck : (defScope (memb (topS 10) 0)).names.lookup ("self" : Str) = some .local := rfl
theorem s2_Stuck : ∀ f ∈ (["index"] : List Str), (defScope (memb (topS 10) 0)).names.lookup f = some .local := by
  intro f hf
  simp only [List.mem_cons, List.not_mem_nil, or_false] at hf
  rcases hf with rfl <;> rfl
theorem s3_Stuck : (defScope (memb (topS 10) 0)).names.lookup ("super" : Str) = some .globalImplicit := rfl
theorem s4_Stuck : (defScope (memb (topS 10) 0)).names.lookup ("__class__" : Str) = some .free := rfl
theorem nd_Stuck : (["index"] : List Str).Nodup := by decide +kernel
theorem nos_Stuck : ∀ f ∈ (["index"] : List Str), (f == ("self" : Str)) = false ∧ (f == ("__debug__" : Str)) = false := by decide +kernel
theorem hA_Stuck {cda cc : Addr} {kV doc pm : Value} {an : Option Addr} {ct : Value} : ∀ (x : Addr) (us : List Value), us.length = (["index"] : List Str).length → bindArgs (PySem.W.ksFn "__init__" "Stuck.__init__" (defArgs (memb (topS 10) 0)) (defBody (memb (topS 10) 0)) (defScope (memb (topS 10) 0)) .none kV doc pm an (.ref cda) ct cc) ⟨.ref x :: us, []⟩ = (pure ((("self" : Str), Value.ref x) :: (["index"] : List Str).zip us) : Sem (List (Str × Value))) := fun x us hl => match us, hl with
  | [_], _ => rfl
theorem hK_Stuck {cda cc : Addr} {kV doc pm : Value} {an : Option Addr} {ct : Value} : ∀ p ∈ ([(["index"], [0])] : List (List Str × List Nat)), ∀ (x : Addr) (ws : List Value), ws.length = p.1.length → bindArgs (PySem.W.ksFn "__init__" "Stuck.__init__" (defArgs (memb (topS 10) 0)) (defBody (memb (topS 10) 0)) (defScope (memb (topS 10) 0)) .none kV doc pm an (.ref cda) ct cc) ⟨[.ref x], p.1.zip ws⟩ = (pure ((("self" : Str), Value.ref x) :: (["index"] : List Str).zip (kmix 0 p.1.length p.2 [] ws)) : Sem (List (Str × Value))) := by
  intro p hp x ws hl
  simp only [List.mem_cons, List.not_mem_nil, or_false] at hp
  rcases hp with rfl
  all_goals exact match ws, hl with
    | [_], _ => rfl
theorem he_Stuck : supE msg_Stuck (sPos (memb (topS 10) 0)) (knOf (memb (topS 10) 0)) := fun env => ⟨_, rfl⟩
theorem har_Stuck : ∃ ar : Arg, ((defArgs (memb (topS 10) 0)).posonlyargs ++ (defArgs (memb (topS 10) 0)).args).head? = some ar ∧ ar.arg = "self" := ⟨_, rfl, rfl⟩
def msg_TooLong : Str := "there are more tokens than are wanted"
theorem eb_TooLong : defBody (memb (topS 9) 0) = inBL msg_TooLong ["length"] (sPos (memb (topS 9) 0)) (knOf (memb (topS 9) 0)) (aPos (memb (topS 9) 0)) := rfl
theorem sk_TooLong : (defScope (memb (topS 9) 0)).kind = .function ∧ (defScope (memb (topS 9) 0)).isGenerator = false ∧ (defScope (memb (topS 9) 0)).isCoroutine = false := ⟨rfl, rfl, rfl⟩
theorem snc_TooLong : ∀ x ∈ (defScope (memb (topS 9) 0)).names, x.2 ≠ .cell := by decide +kernel
theorem s1_TooLong : (defScope (memb (topS 9) 0)).names.lookup ("self" : Str) = some .local := rfl
theorem s2_TooLong : ∀ f ∈ (["length"] : List Str), (defScope (memb (topS 9) 0)).names.lookup f = some .local := by
  intro f hf
  simp only [List.mem_cons, List.not_mem_nil, or_false] at hf
  rcases hf with rfl <;> rfl
theorem s3_TooLong : (defScope (memb (topS 9) 0)).names.lookup ("super" : Str) = some .globalImplicit := rfl
theorem s4_TooLong : (defScope (memb (topS 9) 0)).names.lookup ("__class__" : Str) = some .free := rfl
theorem nd_TooLong : (["length"] : List Str).Nodup := by decide +kernel
theorem nos_TooLong : ∀ f ∈ (["length"] : List Str), (f == ("self" : Str)) = false ∧ (f == ("__debug__" : Str)) = false := by decide +kernel
theorem hA_TooLong {cda cc : Addr} {kV doc pm : Value} {an : Option Addr} {ct : Value} : ∀ (x : Addr) (us : List Value), us.length = (["length"] : List Str).length → bindArgs (PySem.W.ksFn "__init__" "TooLong.__init__" (defArgs (memb (topS 9) 0)) (defBody (memb (topS 9) 0)) (defScope (memb (topS 9) 0)) .none kV doc pm an (.ref cda) ct cc) ⟨.ref x :: us, []⟩ = (pure ((("self" : Str), Value.ref x) :: (["length"] : List Str).zip us) : Sem (List (Str × Value))) := fun x us hl => match us, hl with
  | [_], _ => rfl
theorem hK_TooLong {cda cc : Addr} {kV doc pm : Value} {an : Option Addr} {ct : Value} : ∀ p ∈ ([(["length"], [0])] : List (List Str × List Nat)), ∀ (x : Addr) (ws : List Value), ws.length = p.1.length → bindArgs (PySem.W.ksFn "__init__" "TooLong.__init__" (defArgs (memb (topS 9) 0)) (defBody (memb (topS 9) 0)) (defScope (memb (topS 9) 0)) .none kV doc pm an (.ref cda) ct cc) ⟨[.ref x], p.1.zip ws⟩ = (pure ((("self" : Str), Value.ref x) :: (["length"] : List Str).zip (kmix 0 p.1.length p.2 [] ws)) : Sem (List (Str × Value))) := by
  intro p hp x ws hl
  simp only [List.mem_cons, List.not_mem_nil, or_false] at hp
  rcases hp with rfl
  all_goals exact match ws, hl with
    | [_], _ => rfl
theorem he_TooLong : supE msg_TooLong (sPos (memb (topS 9) 0)) (knOf (memb (topS 9) 0)) := fun env => ⟨_, rfl⟩
theorem har_TooLong : ∃ ar : Arg, ((defArgs (memb (topS 9) 0)).posonlyargs ++ (defArgs (memb (topS 9) 0)).args).head? = some ar ∧ ar.arg = "self" := ⟨_, rfl, rfl⟩
theorem all_mk {l : PySem.W.OpenLaw} {w : World} {K : PySem.W.Frag} {h : Heap} {mg : Str → Option Value} {fa : Addr} (X : K.In h) (G : h.Ns mainGlobals mg) (hfa : mg "law" = some (.ref fa))
    {od0 an0 : Option Addr} {sl0 : Array (Option Value)} {oc0 kV0 dc0 pm0 cd0 ct0 : Value} {f0 : Addr}
    {od1 an1 : Option Addr} {sl1 : Array (Option Value)} {oc1 kV1 dc1 pm1 cd1 ct1 : Value} {f1 : Addr}
    {od2 an2 : Option Addr} {sl2 : Array (Option Value)} {oc2 kV2 dc2 pm2 cd2 ct2 : Value} {f2 : Addr}
    {od3 an3 : Option Addr} {sl3 : Array (Option Value)} {oc3 kV3 dc3 pm3 cd3 ct3 : Value} {f3 : Addr}
    {od4 an4 : Option Addr} {sl4 : Array (Option Value)} {oc4 kV4 dc4 pm4 cd4 ct4 : Value} {f4 : Addr}
    {od5 an5 : Option Addr} {sl5 : Array (Option Value)} {oc5 kV5 dc5 pm5 cd5 ct5 : Value} {f5 : Addr}
    {od6 an6 : Option Addr} {sl6 : Array (Option Value)} {oc6 kV6 dc6 pm6 cd6 ct6 : Value} {f6 : Addr}
    {od7 an7 : Option Addr} {sl7 : Array (Option Value)} {oc7 kV7 dc7 pm7 cd7 ct7 : Value} {f7 : Addr}
    {C_GapError : Addr}
    {C_BadLibrary : Addr}
    {C_Clash : Addr}
    {C_BadGoal : Addr}
    {C_BadToken : Addr}
    {C_NotBuildable : Addr}
    {C_NotOpen : Addr}
    {C_NotUndeclared : Addr}
    {C_TooLong : Addr}
    {C_Stuck : Addr}
    {C_NothingThere : Addr}
    {C_NoName : Addr}
    {C_InvalidText : Addr}
    {C_InvalidCommand : Addr}
    {C_NoGoal : Addr}
    {nm_BadLibrary q_BadLibrary file_BadLibrary : Str} {N_BadLibrary fI_BadLibrary cc_BadLibrary cda_BadLibrary : Addr} {bs_BadLibrary sub_BadLibrary : List Value} {sn_BadLibrary : List Str} {ab_BadLibrary : Bool} {col_BadLibrary : Option Bool} {dd_BadLibrary od_BadLibrary an_BadLibrary cld_BadLibrary cdd_BadLibrary : Option Addr} {k0_BadLibrary k1_BadLibrary k2_BadLibrary k3_BadLibrary k5_BadLibrary : Option Value} {oc_BadLibrary kV_BadLibrary doc_BadLibrary pm_BadLibrary ct_BadLibrary cl_BadLibrary ccl_BadLibrary : Value} {osl_BadLibrary csl_BadLibrary ccs_BadLibrary : Array (Option Value)} {vs_BadLibrary : Array Value} {tf_BadLibrary : Tok}
    {nm_Clash q_Clash file_Clash : Str} {N_Clash fI_Clash cc_Clash cda_Clash : Addr} {bs_Clash sub_Clash : List Value} {sn_Clash : List Str} {ab_Clash : Bool} {col_Clash : Option Bool} {dd_Clash od_Clash an_Clash cld_Clash cdd_Clash : Option Addr} {k0_Clash k1_Clash k2_Clash k3_Clash k5_Clash : Option Value} {oc_Clash kV_Clash doc_Clash pm_Clash ct_Clash cl_Clash ccl_Clash : Value} {osl_Clash csl_Clash ccs_Clash : Array (Option Value)} {vs_Clash : Array Value} {tf_Clash : Tok}
    {nm_BadGoal q_BadGoal file_BadGoal : Str} {N_BadGoal fI_BadGoal cc_BadGoal cda_BadGoal : Addr} {bs_BadGoal sub_BadGoal : List Value} {sn_BadGoal : List Str} {ab_BadGoal : Bool} {col_BadGoal : Option Bool} {dd_BadGoal od_BadGoal an_BadGoal cld_BadGoal cdd_BadGoal : Option Addr} {k0_BadGoal k1_BadGoal k2_BadGoal k3_BadGoal k5_BadGoal : Option Value} {oc_BadGoal kV_BadGoal doc_BadGoal pm_BadGoal ct_BadGoal cl_BadGoal ccl_BadGoal : Value} {osl_BadGoal csl_BadGoal ccs_BadGoal : Array (Option Value)} {vs_BadGoal : Array Value} {tf_BadGoal : Tok}
    {nm_BadToken q_BadToken file_BadToken : Str} {N_BadToken fI_BadToken cc_BadToken cda_BadToken : Addr} {bs_BadToken sub_BadToken : List Value} {sn_BadToken : List Str} {ab_BadToken : Bool} {col_BadToken : Option Bool} {dd_BadToken od_BadToken an_BadToken cld_BadToken cdd_BadToken : Option Addr} {k0_BadToken k1_BadToken k2_BadToken k3_BadToken k5_BadToken : Option Value} {oc_BadToken kV_BadToken doc_BadToken pm_BadToken ct_BadToken cl_BadToken ccl_BadToken : Value} {osl_BadToken csl_BadToken ccs_BadToken : Array (Option Value)} {vs_BadToken : Array Value} {tf_BadToken : Tok}
    {nm_NotBuildable q_NotBuildable file_NotBuildable : Str} {N_NotBuildable fI_NotBuildable cc_NotBuildable cda_NotBuildable : Addr} {bs_NotBuildable sub_NotBuildable : List Value} {sn_NotBuildable : List Str} {ab_NotBuildable : Bool} {col_NotBuildable : Option Bool} {dd_NotBuildable od_NotBuildable an_NotBuildable cld_NotBuildable cdd_NotBuildable : Option Addr} {k0_NotBuildable k1_NotBuildable k2_NotBuildable k3_NotBuildable k5_NotBuildable : Option Value} {oc_NotBuildable kV_NotBuildable doc_NotBuildable pm_NotBuildable ct_NotBuildable cl_NotBuildable ccl_NotBuildable : Value} {osl_NotBuildable csl_NotBuildable ccs_NotBuildable : Array (Option Value)} {vs_NotBuildable : Array Value} {tf_NotBuildable : Tok}
    {nm_NotUndeclared q_NotUndeclared file_NotUndeclared : Str} {N_NotUndeclared fI_NotUndeclared cc_NotUndeclared cda_NotUndeclared : Addr} {bs_NotUndeclared sub_NotUndeclared : List Value} {sn_NotUndeclared : List Str} {ab_NotUndeclared : Bool} {col_NotUndeclared : Option Bool} {dd_NotUndeclared od_NotUndeclared an_NotUndeclared cld_NotUndeclared cdd_NotUndeclared : Option Addr} {k0_NotUndeclared k1_NotUndeclared k2_NotUndeclared k3_NotUndeclared k5_NotUndeclared : Option Value} {oc_NotUndeclared kV_NotUndeclared doc_NotUndeclared pm_NotUndeclared ct_NotUndeclared cl_NotUndeclared ccl_NotUndeclared : Value} {osl_NotUndeclared csl_NotUndeclared ccs_NotUndeclared : Array (Option Value)} {vs_NotUndeclared : Array Value} {tf_NotUndeclared : Tok}
    {nm_TooLong q_TooLong file_TooLong : Str} {N_TooLong fI_TooLong cc_TooLong cda_TooLong : Addr} {bs_TooLong sub_TooLong : List Value} {sn_TooLong : List Str} {ab_TooLong : Bool} {col_TooLong : Option Bool} {dd_TooLong od_TooLong an_TooLong cld_TooLong cdd_TooLong : Option Addr} {k0_TooLong k1_TooLong k2_TooLong k3_TooLong k5_TooLong : Option Value} {oc_TooLong kV_TooLong doc_TooLong pm_TooLong ct_TooLong cl_TooLong ccl_TooLong : Value} {osl_TooLong csl_TooLong ccs_TooLong : Array (Option Value)} {vs_TooLong : Array Value} {tf_TooLong : Tok}
    {nm_Stuck q_Stuck file_Stuck : Str} {N_Stuck fI_Stuck cc_Stuck cda_Stuck : Addr} {bs_Stuck sub_Stuck : List Value} {sn_Stuck : List Str} {ab_Stuck : Bool} {col_Stuck : Option Bool} {dd_Stuck od_Stuck an_Stuck cld_Stuck cdd_Stuck : Option Addr} {k0_Stuck k1_Stuck k2_Stuck k3_Stuck k5_Stuck : Option Value} {oc_Stuck kV_Stuck doc_Stuck pm_Stuck ct_Stuck cl_Stuck ccl_Stuck : Value} {osl_Stuck csl_Stuck ccs_Stuck : Array (Option Value)} {vs_Stuck : Array Value} {tf_Stuck : Tok}
    {nm_NoName q_NoName file_NoName : Str} {N_NoName fI_NoName cc_NoName cda_NoName : Addr} {bs_NoName sub_NoName : List Value} {sn_NoName : List Str} {ab_NoName : Bool} {col_NoName : Option Bool} {dd_NoName od_NoName an_NoName cld_NoName cdd_NoName : Option Addr} {k0_NoName k1_NoName k2_NoName k3_NoName k5_NoName : Option Value} {oc_NoName kV_NoName doc_NoName pm_NoName ct_NoName cl_NoName ccl_NoName : Value} {osl_NoName csl_NoName ccs_NoName : Array (Option Value)} {vs_NoName : Array Value} {tf_NoName : Tok}
    {nm_InvalidText q_InvalidText file_InvalidText : Str} {N_InvalidText fI_InvalidText cc_InvalidText cda_InvalidText : Addr} {bs_InvalidText sub_InvalidText : List Value} {sn_InvalidText : List Str} {ab_InvalidText : Bool} {col_InvalidText : Option Bool} {dd_InvalidText od_InvalidText an_InvalidText cld_InvalidText cdd_InvalidText : Option Addr} {k0_InvalidText k1_InvalidText k2_InvalidText k3_InvalidText k5_InvalidText : Option Value} {oc_InvalidText kV_InvalidText doc_InvalidText pm_InvalidText ct_InvalidText cl_InvalidText ccl_InvalidText : Value} {osl_InvalidText csl_InvalidText ccs_InvalidText : Array (Option Value)} {vs_InvalidText : Array Value} {tf_InvalidText : Tok}
    {nm_InvalidCommand q_InvalidCommand file_InvalidCommand : Str} {N_InvalidCommand fI_InvalidCommand cc_InvalidCommand cda_InvalidCommand : Addr} {bs_InvalidCommand sub_InvalidCommand : List Value} {sn_InvalidCommand : List Str} {ab_InvalidCommand : Bool} {col_InvalidCommand : Option Bool} {dd_InvalidCommand od_InvalidCommand an_InvalidCommand cld_InvalidCommand cdd_InvalidCommand : Option Addr} {k0_InvalidCommand k1_InvalidCommand k2_InvalidCommand k3_InvalidCommand k5_InvalidCommand : Option Value} {oc_InvalidCommand kV_InvalidCommand doc_InvalidCommand pm_InvalidCommand ct_InvalidCommand cl_InvalidCommand ccl_InvalidCommand : Value} {osl_InvalidCommand csl_InvalidCommand ccs_InvalidCommand : Array (Option Value)} {vs_InvalidCommand : Array Value} {tf_InvalidCommand : Tok}
    (a0 : PySem.W.nsIn K mainGlobals "_law_hand" = some (some (.ref f0))) (l0 : K.lookup f0 = some ⟨oc0, od0, .func (PySem.W.fnOf "_law_hand" "_law_hand" (defArgs s_l_hand) (defBody s_l_hand) (defScope s_l_hand) .none kV0 dc0 pm0 an0 cd0 ct0), sl0⟩) (c0 : PySem.W.codeIn K cd0 "_law_hand" = true) (k0 : PySem.W.keepIn K (.ref f0) = true)
    (a1 : PySem.W.nsIn K mainGlobals "_law_draw" = some (some (.ref f1))) (l1 : K.lookup f1 = some ⟨oc1, od1, .func (PySem.W.fnOf "_law_draw" "_law_draw" (defArgs s_l_draw) (defBody s_l_draw) (defScope s_l_draw) .none kV1 dc1 pm1 an1 cd1 ct1), sl1⟩) (c1 : PySem.W.codeIn K cd1 "_law_draw" = true) (k1 : PySem.W.keepIn K (.ref f1) = true)
    (a2 : PySem.W.nsIn K mainGlobals "_law_with_one" = some (some (.ref f2))) (l2 : K.lookup f2 = some ⟨oc2, od2, .func (PySem.W.fnOf "_law_with_one" "_law_with_one" (defArgs s_l_with_one) (defBody s_l_with_one) (defScope s_l_with_one) .none kV2 dc2 pm2 an2 cd2 ct2), sl2⟩) (c2 : PySem.W.codeIn K cd2 "_law_with_one" = true) (k2 : PySem.W.keepIn K (.ref f2) = true)
    (a3 : PySem.W.nsIn K mainGlobals "_law_places" = some (some (.ref f3))) (l3 : K.lookup f3 = some ⟨oc3, od3, .func (PySem.W.fnOf "_law_places" "_law_places" (defArgs s_l_places) (defBody s_l_places) (defScope s_l_places) .none kV3 dc3 pm3 an3 cd3 ct3), sl3⟩) (c3 : PySem.W.codeIn K cd3 "_law_places" = true) (k3 : PySem.W.keepIn K (.ref f3) = true)
    (a4 : PySem.W.nsIn K mainGlobals "_law_value" = some (some (.ref f4))) (l4 : K.lookup f4 = some ⟨oc4, od4, .func (PySem.W.fnOf "_law_value" "_law_value" (defArgs s_l_value) (defBody s_l_value) (defScope s_l_value) .none kV4 dc4 pm4 an4 cd4 ct4), sl4⟩) (c4 : PySem.W.codeIn K cd4 "_law_value" = true) (k4 : PySem.W.keepIn K (.ref f4) = true)
    (a5 : PySem.W.nsIn K mainGlobals "_law_is_alone" = some (some (.ref f5))) (l5 : K.lookup f5 = some ⟨oc5, od5, .func (PySem.W.fnOf "_law_is_alone" "_law_is_alone" (defArgs s_l_is_alone) (defBody s_l_is_alone) (defScope s_l_is_alone) .none kV5 dc5 pm5 an5 cd5 ct5), sl5⟩) (c5 : PySem.W.codeIn K cd5 "_law_is_alone" = true) (k5 : PySem.W.keepIn K (.ref f5) = true)
    (a6 : PySem.W.nsIn K mainGlobals "_law_right" = some (some (.ref f6))) (l6 : K.lookup f6 = some ⟨oc6, od6, .func (PySem.W.fnOf "_law_right" "_law_right" (defArgs s_l_right) (defBody s_l_right) (defScope s_l_right) .none kV6 dc6 pm6 an6 cd6 ct6), sl6⟩) (c6 : PySem.W.codeIn K cd6 "_law_right" = true) (k6 : PySem.W.keepIn K (.ref f6) = true)
    (a7 : PySem.W.nsIn K mainGlobals "law" = some (some (.ref f7))) (l7 : K.lookup f7 = some ⟨oc7, od7, .func (PySem.W.fnOf "law" "law" (defArgs s_law) (defBody s_law) (defScope s_law) .none kV7 dc7 pm7 an7 cd7 ct7), sl7⟩) (c7 : PySem.W.codeIn K cd7 "law" = true) (k7 : PySem.W.keepIn K (.ref f7) = true)
    (m_ArithmeticError : PySem.W.nsIn K mainGlobals "ArithmeticError" = some none)
    (m_Exception : PySem.W.nsIn K mainGlobals "Exception" = some none)
    (m_LookupError : PySem.W.nsIn K mainGlobals "LookupError" = some none)
    (m_RuntimeError : PySem.W.nsIn K mainGlobals "RuntimeError" = some none)
    (m_TypeError : PySem.W.nsIn K mainGlobals "TypeError" = some none)
    (m_ValueError : PySem.W.nsIn K mainGlobals "ValueError" = some none)
    (m_enumerate : PySem.W.nsIn K mainGlobals "enumerate" = some none)
    (m_isinstance : PySem.W.nsIn K mainGlobals "isinstance" = some none)
    (m_len : PySem.W.nsIn K mainGlobals "len" = some none)
    (m_list : PySem.W.nsIn K mainGlobals "list" = some none)
    (m_range : PySem.W.nsIn K mainGlobals "range" = some none)
    (m_repr : PySem.W.nsIn K mainGlobals "repr" = some none)
    (m_tuple : PySem.W.nsIn K mainGlobals "tuple" = some none)
    (m_super : PySem.W.nsIn K mainGlobals "super" = some none) (opq : PySem.W.nsIn K cStatics "thirdparty.any" = some none) (topn : (l.prog.main.scope.names.lookup ("super" : Str)).isSome = false)
    (aC_GapError : PySem.W.nsIn K mainGlobals "GapError" = some (some (.ref C_GapError)))
    (aC_BadLibrary : PySem.W.nsIn K mainGlobals "BadLibrary" = some (some (.ref C_BadLibrary)))
    (aC_Clash : PySem.W.nsIn K mainGlobals "Clash" = some (some (.ref C_Clash)))
    (aC_BadGoal : PySem.W.nsIn K mainGlobals "BadGoal" = some (some (.ref C_BadGoal)))
    (aC_BadToken : PySem.W.nsIn K mainGlobals "BadToken" = some (some (.ref C_BadToken)))
    (aC_NotBuildable : PySem.W.nsIn K mainGlobals "NotBuildable" = some (some (.ref C_NotBuildable)))
    (aC_NotOpen : PySem.W.nsIn K mainGlobals "NotOpen" = some (some (.ref C_NotOpen)))
    (aC_NotUndeclared : PySem.W.nsIn K mainGlobals "NotUndeclared" = some (some (.ref C_NotUndeclared)))
    (aC_TooLong : PySem.W.nsIn K mainGlobals "TooLong" = some (some (.ref C_TooLong)))
    (aC_Stuck : PySem.W.nsIn K mainGlobals "Stuck" = some (some (.ref C_Stuck)))
    (aC_NothingThere : PySem.W.nsIn K mainGlobals "NothingThere" = some (some (.ref C_NothingThere)))
    (aC_NoName : PySem.W.nsIn K mainGlobals "NoName" = some (some (.ref C_NoName)))
    (aC_InvalidText : PySem.W.nsIn K mainGlobals "InvalidText" = some (some (.ref C_InvalidText)))
    (aC_InvalidCommand : PySem.W.nsIn K mainGlobals "InvalidCommand" = some (some (.ref C_InvalidCommand)))
    (aC_NoGoal : PySem.W.nsIn K mainGlobals "NoGoal" = some (some (.ref C_NoGoal)))
    (xw_GapError : PySem.W.excIn K C_GapError ESX.exTail "Exception.__new__" = true) (kC_GapError : PySem.W.keepIn K (.ref C_GapError) = true)
    (xL_BadLibrary : K.lookup C_BadLibrary = some (excClassObj nm_BadLibrary q_BadLibrary C_BadLibrary N_BadLibrary bs_BadLibrary (gTail C_GapError) true sn_BadLibrary sub_BadLibrary ab_BadLibrary col_BadLibrary dd_BadLibrary k0_BadLibrary k1_BadLibrary k2_BadLibrary k3_BadLibrary k5_BadLibrary "Exception.__new__")) (sa_BadLibrary : PySem.W.findIn K (.ref C_BadLibrary) "__setattr__" = some (some (.builtin "object.__setattr__"))) (nN_BadLibrary_0 : PySem.W.findIn K (.ref C_BadLibrary) "part" = some none)
    (iC_BadLibrary : PySem.W.findIn K (.ref C_BadLibrary) "__init__" = some (some (.ref fI_BadLibrary))) (tC_BadLibrary : PySem.W.typeIn K (.ref fI_BadLibrary) = some (.type "function")) (sup_BadLibrary : PySem.W.alongIn K "__init__" (gTail C_GapError) = some (some (.builtin "Exception.__init__")))
    (l1_BadLibrary : K.lookup fI_BadLibrary = some ⟨oc_BadLibrary, od_BadLibrary, .func (PySem.W.ksFn "__init__" "BadLibrary.__init__" (defArgs (memb (topS 2) 0)) (defBody (memb (topS 2) 0)) (defScope (memb (topS 2) 0)) .none kV_BadLibrary doc_BadLibrary pm_BadLibrary an_BadLibrary (.ref cda_BadLibrary) ct_BadLibrary cc_BadLibrary), osl_BadLibrary⟩) (c1_BadLibrary : PySem.W.codeIn K (.ref cda_BadLibrary) "BadLibrary.__init__" = true)
    (cel_BadLibrary : K.lookup cc_BadLibrary = some ⟨cl_BadLibrary, cld_BadLibrary, .cell (some (.ref C_BadLibrary)), csl_BadLibrary⟩) (cod_BadLibrary : K.lookup cda_BadLibrary = some ⟨ccl_BadLibrary, cdd_BadLibrary, .fields vs_BadLibrary, ccs_BadLibrary⟩) (hv_BadLibrary : vs_BadLibrary[2]? = some (.str file_BadLibrary tf_BadLibrary)) (hf_BadLibrary : ((l.prog.main.file : Str) == file_BadLibrary) = true)
    (kC_BadLibrary : PySem.W.keepIn K (.ref C_BadLibrary) = true) (eC_BadLibrary : PySem.W.subIn K (.ref C_BadLibrary) (.type "BaseException") = some true) (yC_BadLibrary : PySem.W.typeIn K (.ref C_BadLibrary) = some (.type "type")) (ga_BadLibrary : PySem.W.findIn K (.ref C_BadLibrary) "__getattribute__" = some (some (.builtin "BaseException.__getattribute__"))) (gg_BadLibrary : PySem.W.findIn K (.ref C_BadLibrary) "__getattr__" = some none) (hd_BadLibrary : PySem.W.hasDictIn K C_BadLibrary = true)
    (xL_Clash : K.lookup C_Clash = some (excClassObj nm_Clash q_Clash C_Clash N_Clash bs_Clash (gTail C_GapError) true sn_Clash sub_Clash ab_Clash col_Clash dd_Clash k0_Clash k1_Clash k2_Clash k3_Clash k5_Clash "Exception.__new__")) (sa_Clash : PySem.W.findIn K (.ref C_Clash) "__setattr__" = some (some (.builtin "object.__setattr__"))) (nN_Clash_0 : PySem.W.findIn K (.ref C_Clash) "one" = some none) (nN_Clash_1 : PySem.W.findIn K (.ref C_Clash) "other" = some none)
    (iC_Clash : PySem.W.findIn K (.ref C_Clash) "__init__" = some (some (.ref fI_Clash))) (tC_Clash : PySem.W.typeIn K (.ref fI_Clash) = some (.type "function")) (sup_Clash : PySem.W.alongIn K "__init__" (gTail C_GapError) = some (some (.builtin "Exception.__init__")))
    (l1_Clash : K.lookup fI_Clash = some ⟨oc_Clash, od_Clash, .func (PySem.W.ksFn "__init__" "Clash.__init__" (defArgs (memb (topS 3) 0)) (defBody (memb (topS 3) 0)) (defScope (memb (topS 3) 0)) .none kV_Clash doc_Clash pm_Clash an_Clash (.ref cda_Clash) ct_Clash cc_Clash), osl_Clash⟩) (c1_Clash : PySem.W.codeIn K (.ref cda_Clash) "Clash.__init__" = true)
    (cel_Clash : K.lookup cc_Clash = some ⟨cl_Clash, cld_Clash, .cell (some (.ref C_Clash)), csl_Clash⟩) (cod_Clash : K.lookup cda_Clash = some ⟨ccl_Clash, cdd_Clash, .fields vs_Clash, ccs_Clash⟩) (hv_Clash : vs_Clash[2]? = some (.str file_Clash tf_Clash)) (hf_Clash : ((l.prog.main.file : Str) == file_Clash) = true)
    (kC_Clash : PySem.W.keepIn K (.ref C_Clash) = true) (eC_Clash : PySem.W.subIn K (.ref C_Clash) (.type "BaseException") = some true) (yC_Clash : PySem.W.typeIn K (.ref C_Clash) = some (.type "type")) (ga_Clash : PySem.W.findIn K (.ref C_Clash) "__getattribute__" = some (some (.builtin "BaseException.__getattribute__"))) (gg_Clash : PySem.W.findIn K (.ref C_Clash) "__getattr__" = some none) (hd_Clash : PySem.W.hasDictIn K C_Clash = true)
    (xL_BadGoal : K.lookup C_BadGoal = some (excClassObj nm_BadGoal q_BadGoal C_BadGoal N_BadGoal bs_BadGoal (gTail C_GapError) true sn_BadGoal sub_BadGoal ab_BadGoal col_BadGoal dd_BadGoal k0_BadGoal k1_BadGoal k2_BadGoal k3_BadGoal k5_BadGoal "Exception.__new__")) (sa_BadGoal : PySem.W.findIn K (.ref C_BadGoal) "__setattr__" = some (some (.builtin "object.__setattr__"))) (nN_BadGoal_0 : PySem.W.findIn K (.ref C_BadGoal) "part" = some none)
    (iC_BadGoal : PySem.W.findIn K (.ref C_BadGoal) "__init__" = some (some (.ref fI_BadGoal))) (tC_BadGoal : PySem.W.typeIn K (.ref fI_BadGoal) = some (.type "function")) (sup_BadGoal : PySem.W.alongIn K "__init__" (gTail C_GapError) = some (some (.builtin "Exception.__init__")))
    (l1_BadGoal : K.lookup fI_BadGoal = some ⟨oc_BadGoal, od_BadGoal, .func (PySem.W.ksFn "__init__" "BadGoal.__init__" (defArgs (memb (topS 4) 0)) (defBody (memb (topS 4) 0)) (defScope (memb (topS 4) 0)) .none kV_BadGoal doc_BadGoal pm_BadGoal an_BadGoal (.ref cda_BadGoal) ct_BadGoal cc_BadGoal), osl_BadGoal⟩) (c1_BadGoal : PySem.W.codeIn K (.ref cda_BadGoal) "BadGoal.__init__" = true)
    (cel_BadGoal : K.lookup cc_BadGoal = some ⟨cl_BadGoal, cld_BadGoal, .cell (some (.ref C_BadGoal)), csl_BadGoal⟩) (cod_BadGoal : K.lookup cda_BadGoal = some ⟨ccl_BadGoal, cdd_BadGoal, .fields vs_BadGoal, ccs_BadGoal⟩) (hv_BadGoal : vs_BadGoal[2]? = some (.str file_BadGoal tf_BadGoal)) (hf_BadGoal : ((l.prog.main.file : Str) == file_BadGoal) = true)
    (kC_BadGoal : PySem.W.keepIn K (.ref C_BadGoal) = true) (eC_BadGoal : PySem.W.subIn K (.ref C_BadGoal) (.type "BaseException") = some true) (yC_BadGoal : PySem.W.typeIn K (.ref C_BadGoal) = some (.type "type")) (ga_BadGoal : PySem.W.findIn K (.ref C_BadGoal) "__getattribute__" = some (some (.builtin "BaseException.__getattribute__"))) (gg_BadGoal : PySem.W.findIn K (.ref C_BadGoal) "__getattr__" = some none) (hd_BadGoal : PySem.W.hasDictIn K C_BadGoal = true)
    (xL_BadToken : K.lookup C_BadToken = some (excClassObj nm_BadToken q_BadToken C_BadToken N_BadToken bs_BadToken (gTail C_GapError) true sn_BadToken sub_BadToken ab_BadToken col_BadToken dd_BadToken k0_BadToken k1_BadToken k2_BadToken k3_BadToken k5_BadToken "Exception.__new__")) (sa_BadToken : PySem.W.findIn K (.ref C_BadToken) "__setattr__" = some (some (.builtin "object.__setattr__"))) (nN_BadToken_0 : PySem.W.findIn K (.ref C_BadToken) "token" = some none)
    (iC_BadToken : PySem.W.findIn K (.ref C_BadToken) "__init__" = some (some (.ref fI_BadToken))) (tC_BadToken : PySem.W.typeIn K (.ref fI_BadToken) = some (.type "function")) (sup_BadToken : PySem.W.alongIn K "__init__" (gTail C_GapError) = some (some (.builtin "Exception.__init__")))
    (l1_BadToken : K.lookup fI_BadToken = some ⟨oc_BadToken, od_BadToken, .func (PySem.W.ksFn "__init__" "BadToken.__init__" (defArgs (memb (topS 5) 0)) (defBody (memb (topS 5) 0)) (defScope (memb (topS 5) 0)) .none kV_BadToken doc_BadToken pm_BadToken an_BadToken (.ref cda_BadToken) ct_BadToken cc_BadToken), osl_BadToken⟩) (c1_BadToken : PySem.W.codeIn K (.ref cda_BadToken) "BadToken.__init__" = true)
    (cel_BadToken : K.lookup cc_BadToken = some ⟨cl_BadToken, cld_BadToken, .cell (some (.ref C_BadToken)), csl_BadToken⟩) (cod_BadToken : K.lookup cda_BadToken = some ⟨ccl_BadToken, cdd_BadToken, .fields vs_BadToken, ccs_BadToken⟩) (hv_BadToken : vs_BadToken[2]? = some (.str file_BadToken tf_BadToken)) (hf_BadToken : ((l.prog.main.file : Str) == file_BadToken) = true)
    (kC_BadToken : PySem.W.keepIn K (.ref C_BadToken) = true) (eC_BadToken : PySem.W.subIn K (.ref C_BadToken) (.type "BaseException") = some true) (yC_BadToken : PySem.W.typeIn K (.ref C_BadToken) = some (.type "type")) (ga_BadToken : PySem.W.findIn K (.ref C_BadToken) "__getattribute__" = some (some (.builtin "BaseException.__getattribute__"))) (gg_BadToken : PySem.W.findIn K (.ref C_BadToken) "__getattr__" = some none) (hd_BadToken : PySem.W.hasDictIn K C_BadToken = true)
    (xL_NotBuildable : K.lookup C_NotBuildable = some (excClassObj nm_NotBuildable q_NotBuildable C_NotBuildable N_NotBuildable bs_NotBuildable (gTail C_GapError) true sn_NotBuildable sub_NotBuildable ab_NotBuildable col_NotBuildable dd_NotBuildable k0_NotBuildable k1_NotBuildable k2_NotBuildable k3_NotBuildable k5_NotBuildable "Exception.__new__")) (sa_NotBuildable : PySem.W.findIn K (.ref C_NotBuildable) "__setattr__" = some (some (.builtin "object.__setattr__"))) (nN_NotBuildable_0 : PySem.W.findIn K (.ref C_NotBuildable) "kind" = some none)
    (iC_NotBuildable : PySem.W.findIn K (.ref C_NotBuildable) "__init__" = some (some (.ref fI_NotBuildable))) (tC_NotBuildable : PySem.W.typeIn K (.ref fI_NotBuildable) = some (.type "function")) (sup_NotBuildable : PySem.W.alongIn K "__init__" (gTail C_GapError) = some (some (.builtin "Exception.__init__")))
    (l1_NotBuildable : K.lookup fI_NotBuildable = some ⟨oc_NotBuildable, od_NotBuildable, .func (PySem.W.ksFn "__init__" "NotBuildable.__init__" (defArgs (memb (topS 6) 0)) (defBody (memb (topS 6) 0)) (defScope (memb (topS 6) 0)) .none kV_NotBuildable doc_NotBuildable pm_NotBuildable an_NotBuildable (.ref cda_NotBuildable) ct_NotBuildable cc_NotBuildable), osl_NotBuildable⟩) (c1_NotBuildable : PySem.W.codeIn K (.ref cda_NotBuildable) "NotBuildable.__init__" = true)
    (cel_NotBuildable : K.lookup cc_NotBuildable = some ⟨cl_NotBuildable, cld_NotBuildable, .cell (some (.ref C_NotBuildable)), csl_NotBuildable⟩) (cod_NotBuildable : K.lookup cda_NotBuildable = some ⟨ccl_NotBuildable, cdd_NotBuildable, .fields vs_NotBuildable, ccs_NotBuildable⟩) (hv_NotBuildable : vs_NotBuildable[2]? = some (.str file_NotBuildable tf_NotBuildable)) (hf_NotBuildable : ((l.prog.main.file : Str) == file_NotBuildable) = true)
    (kC_NotBuildable : PySem.W.keepIn K (.ref C_NotBuildable) = true) (eC_NotBuildable : PySem.W.subIn K (.ref C_NotBuildable) (.type "BaseException") = some true) (yC_NotBuildable : PySem.W.typeIn K (.ref C_NotBuildable) = some (.type "type")) (ga_NotBuildable : PySem.W.findIn K (.ref C_NotBuildable) "__getattribute__" = some (some (.builtin "BaseException.__getattribute__"))) (gg_NotBuildable : PySem.W.findIn K (.ref C_NotBuildable) "__getattr__" = some none) (hd_NotBuildable : PySem.W.hasDictIn K C_NotBuildable = true)
    (xw_NotOpen : PySem.W.excIn K C_NotOpen ESX.exTail "Exception.__new__" = true) (kC_NotOpen : PySem.W.keepIn K (.ref C_NotOpen) = true)
    (xL_NotUndeclared : K.lookup C_NotUndeclared = some (excClassObj nm_NotUndeclared q_NotUndeclared C_NotUndeclared N_NotUndeclared bs_NotUndeclared (gTail C_GapError) true sn_NotUndeclared sub_NotUndeclared ab_NotUndeclared col_NotUndeclared dd_NotUndeclared k0_NotUndeclared k1_NotUndeclared k2_NotUndeclared k3_NotUndeclared k5_NotUndeclared "Exception.__new__")) (sa_NotUndeclared : PySem.W.findIn K (.ref C_NotUndeclared) "__setattr__" = some (some (.builtin "object.__setattr__"))) (nN_NotUndeclared_0 : PySem.W.findIn K (.ref C_NotUndeclared) "name" = some none)
    (iC_NotUndeclared : PySem.W.findIn K (.ref C_NotUndeclared) "__init__" = some (some (.ref fI_NotUndeclared))) (tC_NotUndeclared : PySem.W.typeIn K (.ref fI_NotUndeclared) = some (.type "function")) (sup_NotUndeclared : PySem.W.alongIn K "__init__" (gTail C_GapError) = some (some (.builtin "Exception.__init__")))
    (l1_NotUndeclared : K.lookup fI_NotUndeclared = some ⟨oc_NotUndeclared, od_NotUndeclared, .func (PySem.W.ksFn "__init__" "NotUndeclared.__init__" (defArgs (memb (topS 8) 0)) (defBody (memb (topS 8) 0)) (defScope (memb (topS 8) 0)) .none kV_NotUndeclared doc_NotUndeclared pm_NotUndeclared an_NotUndeclared (.ref cda_NotUndeclared) ct_NotUndeclared cc_NotUndeclared), osl_NotUndeclared⟩) (c1_NotUndeclared : PySem.W.codeIn K (.ref cda_NotUndeclared) "NotUndeclared.__init__" = true)
    (cel_NotUndeclared : K.lookup cc_NotUndeclared = some ⟨cl_NotUndeclared, cld_NotUndeclared, .cell (some (.ref C_NotUndeclared)), csl_NotUndeclared⟩) (cod_NotUndeclared : K.lookup cda_NotUndeclared = some ⟨ccl_NotUndeclared, cdd_NotUndeclared, .fields vs_NotUndeclared, ccs_NotUndeclared⟩) (hv_NotUndeclared : vs_NotUndeclared[2]? = some (.str file_NotUndeclared tf_NotUndeclared)) (hf_NotUndeclared : ((l.prog.main.file : Str) == file_NotUndeclared) = true)
    (kC_NotUndeclared : PySem.W.keepIn K (.ref C_NotUndeclared) = true) (eC_NotUndeclared : PySem.W.subIn K (.ref C_NotUndeclared) (.type "BaseException") = some true) (yC_NotUndeclared : PySem.W.typeIn K (.ref C_NotUndeclared) = some (.type "type")) (ga_NotUndeclared : PySem.W.findIn K (.ref C_NotUndeclared) "__getattribute__" = some (some (.builtin "BaseException.__getattribute__"))) (gg_NotUndeclared : PySem.W.findIn K (.ref C_NotUndeclared) "__getattr__" = some none) (hd_NotUndeclared : PySem.W.hasDictIn K C_NotUndeclared = true)
    (xL_TooLong : K.lookup C_TooLong = some (excClassObj nm_TooLong q_TooLong C_TooLong N_TooLong bs_TooLong (gTail C_GapError) true sn_TooLong sub_TooLong ab_TooLong col_TooLong dd_TooLong k0_TooLong k1_TooLong k2_TooLong k3_TooLong k5_TooLong "Exception.__new__")) (sa_TooLong : PySem.W.findIn K (.ref C_TooLong) "__setattr__" = some (some (.builtin "object.__setattr__"))) (nN_TooLong_0 : PySem.W.findIn K (.ref C_TooLong) "length" = some none)
    (iC_TooLong : PySem.W.findIn K (.ref C_TooLong) "__init__" = some (some (.ref fI_TooLong))) (tC_TooLong : PySem.W.typeIn K (.ref fI_TooLong) = some (.type "function")) (sup_TooLong : PySem.W.alongIn K "__init__" (gTail C_GapError) = some (some (.builtin "Exception.__init__")))
    (l1_TooLong : K.lookup fI_TooLong = some ⟨oc_TooLong, od_TooLong, .func (PySem.W.ksFn "__init__" "TooLong.__init__" (defArgs (memb (topS 9) 0)) (defBody (memb (topS 9) 0)) (defScope (memb (topS 9) 0)) .none kV_TooLong doc_TooLong pm_TooLong an_TooLong (.ref cda_TooLong) ct_TooLong cc_TooLong), osl_TooLong⟩) (c1_TooLong : PySem.W.codeIn K (.ref cda_TooLong) "TooLong.__init__" = true)
    (cel_TooLong : K.lookup cc_TooLong = some ⟨cl_TooLong, cld_TooLong, .cell (some (.ref C_TooLong)), csl_TooLong⟩) (cod_TooLong : K.lookup cda_TooLong = some ⟨ccl_TooLong, cdd_TooLong, .fields vs_TooLong, ccs_TooLong⟩) (hv_TooLong : vs_TooLong[2]? = some (.str file_TooLong tf_TooLong)) (hf_TooLong : ((l.prog.main.file : Str) == file_TooLong) = true)
    (kC_TooLong : PySem.W.keepIn K (.ref C_TooLong) = true) (eC_TooLong : PySem.W.subIn K (.ref C_TooLong) (.type "BaseException") = some true) (yC_TooLong : PySem.W.typeIn K (.ref C_TooLong) = some (.type "type")) (ga_TooLong : PySem.W.findIn K (.ref C_TooLong) "__getattribute__" = some (some (.builtin "BaseException.__getattribute__"))) (gg_TooLong : PySem.W.findIn K (.ref C_TooLong) "__getattr__" = some none) (hd_TooLong : PySem.W.hasDictIn K C_TooLong = true)
    (xL_Stuck : K.lookup C_Stuck = some (excClassObj nm_Stuck q_Stuck C_Stuck N_Stuck bs_Stuck (gTail C_GapError) true sn_Stuck sub_Stuck ab_Stuck col_Stuck dd_Stuck k0_Stuck k1_Stuck k2_Stuck k3_Stuck k5_Stuck "Exception.__new__")) (sa_Stuck : PySem.W.findIn K (.ref C_Stuck) "__setattr__" = some (some (.builtin "object.__setattr__"))) (nN_Stuck_0 : PySem.W.findIn K (.ref C_Stuck) "index" = some none)
    (iC_Stuck : PySem.W.findIn K (.ref C_Stuck) "__init__" = some (some (.ref fI_Stuck))) (tC_Stuck : PySem.W.typeIn K (.ref fI_Stuck) = some (.type "function")) (sup_Stuck : PySem.W.alongIn K "__init__" (gTail C_GapError) = some (some (.builtin "Exception.__init__")))
    (l1_Stuck : K.lookup fI_Stuck = some ⟨oc_Stuck, od_Stuck, .func (PySem.W.ksFn "__init__" "Stuck.__init__" (defArgs (memb (topS 10) 0)) (defBody (memb (topS 10) 0)) (defScope (memb (topS 10) 0)) .none kV_Stuck doc_Stuck pm_Stuck an_Stuck (.ref cda_Stuck) ct_Stuck cc_Stuck), osl_Stuck⟩) (c1_Stuck : PySem.W.codeIn K (.ref cda_Stuck) "Stuck.__init__" = true)
    (cel_Stuck : K.lookup cc_Stuck = some ⟨cl_Stuck, cld_Stuck, .cell (some (.ref C_Stuck)), csl_Stuck⟩) (cod_Stuck : K.lookup cda_Stuck = some ⟨ccl_Stuck, cdd_Stuck, .fields vs_Stuck, ccs_Stuck⟩) (hv_Stuck : vs_Stuck[2]? = some (.str file_Stuck tf_Stuck)) (hf_Stuck : ((l.prog.main.file : Str) == file_Stuck) = true)
    (kC_Stuck : PySem.W.keepIn K (.ref C_Stuck) = true) (eC_Stuck : PySem.W.subIn K (.ref C_Stuck) (.type "BaseException") = some true) (yC_Stuck : PySem.W.typeIn K (.ref C_Stuck) = some (.type "type")) (ga_Stuck : PySem.W.findIn K (.ref C_Stuck) "__getattribute__" = some (some (.builtin "BaseException.__getattribute__"))) (gg_Stuck : PySem.W.findIn K (.ref C_Stuck) "__getattr__" = some none) (hd_Stuck : PySem.W.hasDictIn K C_Stuck = true)
    (xw_NothingThere : PySem.W.excIn K C_NothingThere ESX.exTail "Exception.__new__" = true) (kC_NothingThere : PySem.W.keepIn K (.ref C_NothingThere) = true)
    (xL_NoName : K.lookup C_NoName = some (excClassObj nm_NoName q_NoName C_NoName N_NoName bs_NoName (gTail C_GapError) true sn_NoName sub_NoName ab_NoName col_NoName dd_NoName k0_NoName k1_NoName k2_NoName k3_NoName k5_NoName "Exception.__new__")) (sa_NoName : PySem.W.findIn K (.ref C_NoName) "__setattr__" = some (some (.builtin "object.__setattr__"))) (nN_NoName_0 : PySem.W.findIn K (.ref C_NoName) "name" = some none)
    (iC_NoName : PySem.W.findIn K (.ref C_NoName) "__init__" = some (some (.ref fI_NoName))) (tC_NoName : PySem.W.typeIn K (.ref fI_NoName) = some (.type "function")) (sup_NoName : PySem.W.alongIn K "__init__" (gTail C_GapError) = some (some (.builtin "Exception.__init__")))
    (l1_NoName : K.lookup fI_NoName = some ⟨oc_NoName, od_NoName, .func (PySem.W.ksFn "__init__" "NoName.__init__" (defArgs (memb (topS 12) 0)) (defBody (memb (topS 12) 0)) (defScope (memb (topS 12) 0)) .none kV_NoName doc_NoName pm_NoName an_NoName (.ref cda_NoName) ct_NoName cc_NoName), osl_NoName⟩) (c1_NoName : PySem.W.codeIn K (.ref cda_NoName) "NoName.__init__" = true)
    (cel_NoName : K.lookup cc_NoName = some ⟨cl_NoName, cld_NoName, .cell (some (.ref C_NoName)), csl_NoName⟩) (cod_NoName : K.lookup cda_NoName = some ⟨ccl_NoName, cdd_NoName, .fields vs_NoName, ccs_NoName⟩) (hv_NoName : vs_NoName[2]? = some (.str file_NoName tf_NoName)) (hf_NoName : ((l.prog.main.file : Str) == file_NoName) = true)
    (kC_NoName : PySem.W.keepIn K (.ref C_NoName) = true) (eC_NoName : PySem.W.subIn K (.ref C_NoName) (.type "BaseException") = some true) (yC_NoName : PySem.W.typeIn K (.ref C_NoName) = some (.type "type")) (ga_NoName : PySem.W.findIn K (.ref C_NoName) "__getattribute__" = some (some (.builtin "BaseException.__getattribute__"))) (gg_NoName : PySem.W.findIn K (.ref C_NoName) "__getattr__" = some none) (hd_NoName : PySem.W.hasDictIn K C_NoName = true)
    (xL_InvalidText : K.lookup C_InvalidText = some (excClassObj nm_InvalidText q_InvalidText C_InvalidText N_InvalidText bs_InvalidText (gTail C_GapError) true sn_InvalidText sub_InvalidText ab_InvalidText col_InvalidText dd_InvalidText k0_InvalidText k1_InvalidText k2_InvalidText k3_InvalidText k5_InvalidText "Exception.__new__")) (sa_InvalidText : PySem.W.findIn K (.ref C_InvalidText) "__setattr__" = some (some (.builtin "object.__setattr__"))) (nN_InvalidText_0 : PySem.W.findIn K (.ref C_InvalidText) "place" = some none)
    (iC_InvalidText : PySem.W.findIn K (.ref C_InvalidText) "__init__" = some (some (.ref fI_InvalidText))) (tC_InvalidText : PySem.W.typeIn K (.ref fI_InvalidText) = some (.type "function")) (sup_InvalidText : PySem.W.alongIn K "__init__" (gTail C_GapError) = some (some (.builtin "Exception.__init__")))
    (l1_InvalidText : K.lookup fI_InvalidText = some ⟨oc_InvalidText, od_InvalidText, .func (PySem.W.ksFn "__init__" "InvalidText.__init__" (defArgs (memb (topS 13) 0)) (defBody (memb (topS 13) 0)) (defScope (memb (topS 13) 0)) .none kV_InvalidText doc_InvalidText pm_InvalidText an_InvalidText (.ref cda_InvalidText) ct_InvalidText cc_InvalidText), osl_InvalidText⟩) (c1_InvalidText : PySem.W.codeIn K (.ref cda_InvalidText) "InvalidText.__init__" = true)
    (cel_InvalidText : K.lookup cc_InvalidText = some ⟨cl_InvalidText, cld_InvalidText, .cell (some (.ref C_InvalidText)), csl_InvalidText⟩) (cod_InvalidText : K.lookup cda_InvalidText = some ⟨ccl_InvalidText, cdd_InvalidText, .fields vs_InvalidText, ccs_InvalidText⟩) (hv_InvalidText : vs_InvalidText[2]? = some (.str file_InvalidText tf_InvalidText)) (hf_InvalidText : ((l.prog.main.file : Str) == file_InvalidText) = true)
    (kC_InvalidText : PySem.W.keepIn K (.ref C_InvalidText) = true) (eC_InvalidText : PySem.W.subIn K (.ref C_InvalidText) (.type "BaseException") = some true) (yC_InvalidText : PySem.W.typeIn K (.ref C_InvalidText) = some (.type "type")) (ga_InvalidText : PySem.W.findIn K (.ref C_InvalidText) "__getattribute__" = some (some (.builtin "BaseException.__getattribute__"))) (gg_InvalidText : PySem.W.findIn K (.ref C_InvalidText) "__getattr__" = some none) (hd_InvalidText : PySem.W.hasDictIn K C_InvalidText = true)
    (xL_InvalidCommand : K.lookup C_InvalidCommand = some (excClassObj nm_InvalidCommand q_InvalidCommand C_InvalidCommand N_InvalidCommand bs_InvalidCommand (gTail C_GapError) true sn_InvalidCommand sub_InvalidCommand ab_InvalidCommand col_InvalidCommand dd_InvalidCommand k0_InvalidCommand k1_InvalidCommand k2_InvalidCommand k3_InvalidCommand k5_InvalidCommand "Exception.__new__")) (sa_InvalidCommand : PySem.W.findIn K (.ref C_InvalidCommand) "__setattr__" = some (some (.builtin "object.__setattr__"))) (nN_InvalidCommand_0 : PySem.W.findIn K (.ref C_InvalidCommand) "line" = some none)
    (iC_InvalidCommand : PySem.W.findIn K (.ref C_InvalidCommand) "__init__" = some (some (.ref fI_InvalidCommand))) (tC_InvalidCommand : PySem.W.typeIn K (.ref fI_InvalidCommand) = some (.type "function")) (sup_InvalidCommand : PySem.W.alongIn K "__init__" (gTail C_GapError) = some (some (.builtin "Exception.__init__")))
    (l1_InvalidCommand : K.lookup fI_InvalidCommand = some ⟨oc_InvalidCommand, od_InvalidCommand, .func (PySem.W.ksFn "__init__" "InvalidCommand.__init__" (defArgs (memb (topS 14) 0)) (defBody (memb (topS 14) 0)) (defScope (memb (topS 14) 0)) .none kV_InvalidCommand doc_InvalidCommand pm_InvalidCommand an_InvalidCommand (.ref cda_InvalidCommand) ct_InvalidCommand cc_InvalidCommand), osl_InvalidCommand⟩) (c1_InvalidCommand : PySem.W.codeIn K (.ref cda_InvalidCommand) "InvalidCommand.__init__" = true)
    (cel_InvalidCommand : K.lookup cc_InvalidCommand = some ⟨cl_InvalidCommand, cld_InvalidCommand, .cell (some (.ref C_InvalidCommand)), csl_InvalidCommand⟩) (cod_InvalidCommand : K.lookup cda_InvalidCommand = some ⟨ccl_InvalidCommand, cdd_InvalidCommand, .fields vs_InvalidCommand, ccs_InvalidCommand⟩) (hv_InvalidCommand : vs_InvalidCommand[2]? = some (.str file_InvalidCommand tf_InvalidCommand)) (hf_InvalidCommand : ((l.prog.main.file : Str) == file_InvalidCommand) = true)
    (kC_InvalidCommand : PySem.W.keepIn K (.ref C_InvalidCommand) = true) (eC_InvalidCommand : PySem.W.subIn K (.ref C_InvalidCommand) (.type "BaseException") = some true) (yC_InvalidCommand : PySem.W.typeIn K (.ref C_InvalidCommand) = some (.type "type")) (ga_InvalidCommand : PySem.W.findIn K (.ref C_InvalidCommand) "__getattribute__" = some (some (.builtin "BaseException.__getattribute__"))) (gg_InvalidCommand : PySem.W.findIn K (.ref C_InvalidCommand) "__getattr__" = some none) (hd_InvalidCommand : PySem.W.hasDictIn K C_InvalidCommand = true)
    (xw_NoGoal : PySem.W.excIn K C_NoGoal ESX.exTail "Exception.__new__" = true) (kC_NoGoal : PySem.W.keepIn K (.ref C_NoGoal) = true)
    (ocn : PySem.W.specialIn K (.builtin "object.__class__") "__get__" = some (some (.builtin "getset_descriptor.__get__"))) (oct : PySem.W.takesIn K (.builtin "object.__class__") = some true)
    (zg_GapError : PySem.W.findIn K (.ref C_GapError) "__getattribute__" = some (some (.builtin "BaseException.__getattribute__"))) (zk_GapError : PySem.W.findIn K (.ref C_GapError) "__getattr__" = some none) (zs_GapError : PySem.W.subIn K (.ref C_GapError) (.type "BaseException") = some true) (zd_GapError : PySem.W.hasDictIn K C_GapError = true) (za_GapError : PySem.W.findIn K (.ref C_GapError) "__class__" = some (some (.builtin "object.__class__"))) (zm_GapError : PySem.W.mroIn K C_GapError (.type "object") = some true)
    (zg_BadLibrary : PySem.W.findIn K (.ref C_BadLibrary) "__getattribute__" = some (some (.builtin "BaseException.__getattribute__"))) (zk_BadLibrary : PySem.W.findIn K (.ref C_BadLibrary) "__getattr__" = some none) (zs_BadLibrary : PySem.W.subIn K (.ref C_BadLibrary) (.type "BaseException") = some true) (zd_BadLibrary : PySem.W.hasDictIn K C_BadLibrary = true) (za_BadLibrary : PySem.W.findIn K (.ref C_BadLibrary) "__class__" = some (some (.builtin "object.__class__"))) (zm_BadLibrary : PySem.W.mroIn K C_BadLibrary (.type "object") = some true)
    (zg_Clash : PySem.W.findIn K (.ref C_Clash) "__getattribute__" = some (some (.builtin "BaseException.__getattribute__"))) (zk_Clash : PySem.W.findIn K (.ref C_Clash) "__getattr__" = some none) (zs_Clash : PySem.W.subIn K (.ref C_Clash) (.type "BaseException") = some true) (zd_Clash : PySem.W.hasDictIn K C_Clash = true) (za_Clash : PySem.W.findIn K (.ref C_Clash) "__class__" = some (some (.builtin "object.__class__"))) (zm_Clash : PySem.W.mroIn K C_Clash (.type "object") = some true)
    (zg_BadGoal : PySem.W.findIn K (.ref C_BadGoal) "__getattribute__" = some (some (.builtin "BaseException.__getattribute__"))) (zk_BadGoal : PySem.W.findIn K (.ref C_BadGoal) "__getattr__" = some none) (zs_BadGoal : PySem.W.subIn K (.ref C_BadGoal) (.type "BaseException") = some true) (zd_BadGoal : PySem.W.hasDictIn K C_BadGoal = true) (za_BadGoal : PySem.W.findIn K (.ref C_BadGoal) "__class__" = some (some (.builtin "object.__class__"))) (zm_BadGoal : PySem.W.mroIn K C_BadGoal (.type "object") = some true)
    (zg_BadToken : PySem.W.findIn K (.ref C_BadToken) "__getattribute__" = some (some (.builtin "BaseException.__getattribute__"))) (zk_BadToken : PySem.W.findIn K (.ref C_BadToken) "__getattr__" = some none) (zs_BadToken : PySem.W.subIn K (.ref C_BadToken) (.type "BaseException") = some true) (zd_BadToken : PySem.W.hasDictIn K C_BadToken = true) (za_BadToken : PySem.W.findIn K (.ref C_BadToken) "__class__" = some (some (.builtin "object.__class__"))) (zm_BadToken : PySem.W.mroIn K C_BadToken (.type "object") = some true)
    (zg_NotBuildable : PySem.W.findIn K (.ref C_NotBuildable) "__getattribute__" = some (some (.builtin "BaseException.__getattribute__"))) (zk_NotBuildable : PySem.W.findIn K (.ref C_NotBuildable) "__getattr__" = some none) (zs_NotBuildable : PySem.W.subIn K (.ref C_NotBuildable) (.type "BaseException") = some true) (zd_NotBuildable : PySem.W.hasDictIn K C_NotBuildable = true) (za_NotBuildable : PySem.W.findIn K (.ref C_NotBuildable) "__class__" = some (some (.builtin "object.__class__"))) (zm_NotBuildable : PySem.W.mroIn K C_NotBuildable (.type "object") = some true)
    (zg_NotOpen : PySem.W.findIn K (.ref C_NotOpen) "__getattribute__" = some (some (.builtin "BaseException.__getattribute__"))) (zk_NotOpen : PySem.W.findIn K (.ref C_NotOpen) "__getattr__" = some none) (zs_NotOpen : PySem.W.subIn K (.ref C_NotOpen) (.type "BaseException") = some true) (zd_NotOpen : PySem.W.hasDictIn K C_NotOpen = true) (za_NotOpen : PySem.W.findIn K (.ref C_NotOpen) "__class__" = some (some (.builtin "object.__class__"))) (zm_NotOpen : PySem.W.mroIn K C_NotOpen (.type "object") = some true)
    (zg_NotUndeclared : PySem.W.findIn K (.ref C_NotUndeclared) "__getattribute__" = some (some (.builtin "BaseException.__getattribute__"))) (zk_NotUndeclared : PySem.W.findIn K (.ref C_NotUndeclared) "__getattr__" = some none) (zs_NotUndeclared : PySem.W.subIn K (.ref C_NotUndeclared) (.type "BaseException") = some true) (zd_NotUndeclared : PySem.W.hasDictIn K C_NotUndeclared = true) (za_NotUndeclared : PySem.W.findIn K (.ref C_NotUndeclared) "__class__" = some (some (.builtin "object.__class__"))) (zm_NotUndeclared : PySem.W.mroIn K C_NotUndeclared (.type "object") = some true)
    (zg_TooLong : PySem.W.findIn K (.ref C_TooLong) "__getattribute__" = some (some (.builtin "BaseException.__getattribute__"))) (zk_TooLong : PySem.W.findIn K (.ref C_TooLong) "__getattr__" = some none) (zs_TooLong : PySem.W.subIn K (.ref C_TooLong) (.type "BaseException") = some true) (zd_TooLong : PySem.W.hasDictIn K C_TooLong = true) (za_TooLong : PySem.W.findIn K (.ref C_TooLong) "__class__" = some (some (.builtin "object.__class__"))) (zm_TooLong : PySem.W.mroIn K C_TooLong (.type "object") = some true)
    (zg_Stuck : PySem.W.findIn K (.ref C_Stuck) "__getattribute__" = some (some (.builtin "BaseException.__getattribute__"))) (zk_Stuck : PySem.W.findIn K (.ref C_Stuck) "__getattr__" = some none) (zs_Stuck : PySem.W.subIn K (.ref C_Stuck) (.type "BaseException") = some true) (zd_Stuck : PySem.W.hasDictIn K C_Stuck = true) (za_Stuck : PySem.W.findIn K (.ref C_Stuck) "__class__" = some (some (.builtin "object.__class__"))) (zm_Stuck : PySem.W.mroIn K C_Stuck (.type "object") = some true)
    (zg_NothingThere : PySem.W.findIn K (.ref C_NothingThere) "__getattribute__" = some (some (.builtin "BaseException.__getattribute__"))) (zk_NothingThere : PySem.W.findIn K (.ref C_NothingThere) "__getattr__" = some none) (zs_NothingThere : PySem.W.subIn K (.ref C_NothingThere) (.type "BaseException") = some true) (zd_NothingThere : PySem.W.hasDictIn K C_NothingThere = true) (za_NothingThere : PySem.W.findIn K (.ref C_NothingThere) "__class__" = some (some (.builtin "object.__class__"))) (zm_NothingThere : PySem.W.mroIn K C_NothingThere (.type "object") = some true)
    (zg_NoName : PySem.W.findIn K (.ref C_NoName) "__getattribute__" = some (some (.builtin "BaseException.__getattribute__"))) (zk_NoName : PySem.W.findIn K (.ref C_NoName) "__getattr__" = some none) (zs_NoName : PySem.W.subIn K (.ref C_NoName) (.type "BaseException") = some true) (zd_NoName : PySem.W.hasDictIn K C_NoName = true) (za_NoName : PySem.W.findIn K (.ref C_NoName) "__class__" = some (some (.builtin "object.__class__"))) (zm_NoName : PySem.W.mroIn K C_NoName (.type "object") = some true)
    (zg_InvalidText : PySem.W.findIn K (.ref C_InvalidText) "__getattribute__" = some (some (.builtin "BaseException.__getattribute__"))) (zk_InvalidText : PySem.W.findIn K (.ref C_InvalidText) "__getattr__" = some none) (zs_InvalidText : PySem.W.subIn K (.ref C_InvalidText) (.type "BaseException") = some true) (zd_InvalidText : PySem.W.hasDictIn K C_InvalidText = true) (za_InvalidText : PySem.W.findIn K (.ref C_InvalidText) "__class__" = some (some (.builtin "object.__class__"))) (zm_InvalidText : PySem.W.mroIn K C_InvalidText (.type "object") = some true)
    (zg_InvalidCommand : PySem.W.findIn K (.ref C_InvalidCommand) "__getattribute__" = some (some (.builtin "BaseException.__getattribute__"))) (zk_InvalidCommand : PySem.W.findIn K (.ref C_InvalidCommand) "__getattr__" = some none) (zs_InvalidCommand : PySem.W.subIn K (.ref C_InvalidCommand) (.type "BaseException") = some true) (zd_InvalidCommand : PySem.W.hasDictIn K C_InvalidCommand = true) (za_InvalidCommand : PySem.W.findIn K (.ref C_InvalidCommand) "__class__" = some (some (.builtin "object.__class__"))) (zm_InvalidCommand : PySem.W.mroIn K C_InvalidCommand (.type "object") = some true)
    (zg_NoGoal : PySem.W.findIn K (.ref C_NoGoal) "__getattribute__" = some (some (.builtin "BaseException.__getattribute__"))) (zk_NoGoal : PySem.W.findIn K (.ref C_NoGoal) "__getattr__" = some none) (zs_NoGoal : PySem.W.subIn K (.ref C_NoGoal) (.type "BaseException") = some true) (zd_NoGoal : PySem.W.hasDictIn K C_NoGoal = true) (za_NoGoal : PySem.W.findIn K (.ref C_NoGoal) "__class__" = some (some (.builtin "object.__class__"))) (zm_NoGoal : PySem.W.mroIn K C_NoGoal (.type "object") = some true)
    (kt_GapError_BadGoal : PySem.W.kitOne K (.ref C_GapError) (.ref C_BadGoal) = some (subN "GapError" "BadGoal"))
    (kt_BadLibrary_BadGoal : PySem.W.kitOne K (.ref C_BadLibrary) (.ref C_BadGoal) = some (subN "BadLibrary" "BadGoal"))
    (kt_Clash_BadGoal : PySem.W.kitOne K (.ref C_Clash) (.ref C_BadGoal) = some (subN "Clash" "BadGoal"))
    (kt_BadGoal_BadGoal : PySem.W.kitOne K (.ref C_BadGoal) (.ref C_BadGoal) = some (subN "BadGoal" "BadGoal"))
    (kt_BadToken_BadGoal : PySem.W.kitOne K (.ref C_BadToken) (.ref C_BadGoal) = some (subN "BadToken" "BadGoal"))
    (kt_NotBuildable_BadGoal : PySem.W.kitOne K (.ref C_NotBuildable) (.ref C_BadGoal) = some (subN "NotBuildable" "BadGoal"))
    (kt_NotOpen_BadGoal : PySem.W.kitOne K (.ref C_NotOpen) (.ref C_BadGoal) = some (subN "NotOpen" "BadGoal"))
    (kt_NotUndeclared_BadGoal : PySem.W.kitOne K (.ref C_NotUndeclared) (.ref C_BadGoal) = some (subN "NotUndeclared" "BadGoal"))
    (kt_TooLong_BadGoal : PySem.W.kitOne K (.ref C_TooLong) (.ref C_BadGoal) = some (subN "TooLong" "BadGoal"))
    (kt_Stuck_BadGoal : PySem.W.kitOne K (.ref C_Stuck) (.ref C_BadGoal) = some (subN "Stuck" "BadGoal"))
    (kt_NothingThere_BadGoal : PySem.W.kitOne K (.ref C_NothingThere) (.ref C_BadGoal) = some (subN "NothingThere" "BadGoal"))
    (kt_NoName_BadGoal : PySem.W.kitOne K (.ref C_NoName) (.ref C_BadGoal) = some (subN "NoName" "BadGoal"))
    (kt_InvalidText_BadGoal : PySem.W.kitOne K (.ref C_InvalidText) (.ref C_BadGoal) = some (subN "InvalidText" "BadGoal"))
    (kt_InvalidCommand_BadGoal : PySem.W.kitOne K (.ref C_InvalidCommand) (.ref C_BadGoal) = some (subN "InvalidCommand" "BadGoal"))
    (kt_NoGoal_BadGoal : PySem.W.kitOne K (.ref C_NoGoal) (.ref C_BadGoal) = some (subN "NoGoal" "BadGoal"))
    (kt_GapError_BadLibrary : PySem.W.kitOne K (.ref C_GapError) (.ref C_BadLibrary) = some (subN "GapError" "BadLibrary"))
    (kt_BadLibrary_BadLibrary : PySem.W.kitOne K (.ref C_BadLibrary) (.ref C_BadLibrary) = some (subN "BadLibrary" "BadLibrary"))
    (kt_Clash_BadLibrary : PySem.W.kitOne K (.ref C_Clash) (.ref C_BadLibrary) = some (subN "Clash" "BadLibrary"))
    (kt_BadGoal_BadLibrary : PySem.W.kitOne K (.ref C_BadGoal) (.ref C_BadLibrary) = some (subN "BadGoal" "BadLibrary"))
    (kt_BadToken_BadLibrary : PySem.W.kitOne K (.ref C_BadToken) (.ref C_BadLibrary) = some (subN "BadToken" "BadLibrary"))
    (kt_NotBuildable_BadLibrary : PySem.W.kitOne K (.ref C_NotBuildable) (.ref C_BadLibrary) = some (subN "NotBuildable" "BadLibrary"))
    (kt_NotOpen_BadLibrary : PySem.W.kitOne K (.ref C_NotOpen) (.ref C_BadLibrary) = some (subN "NotOpen" "BadLibrary"))
    (kt_NotUndeclared_BadLibrary : PySem.W.kitOne K (.ref C_NotUndeclared) (.ref C_BadLibrary) = some (subN "NotUndeclared" "BadLibrary"))
    (kt_TooLong_BadLibrary : PySem.W.kitOne K (.ref C_TooLong) (.ref C_BadLibrary) = some (subN "TooLong" "BadLibrary"))
    (kt_Stuck_BadLibrary : PySem.W.kitOne K (.ref C_Stuck) (.ref C_BadLibrary) = some (subN "Stuck" "BadLibrary"))
    (kt_NothingThere_BadLibrary : PySem.W.kitOne K (.ref C_NothingThere) (.ref C_BadLibrary) = some (subN "NothingThere" "BadLibrary"))
    (kt_NoName_BadLibrary : PySem.W.kitOne K (.ref C_NoName) (.ref C_BadLibrary) = some (subN "NoName" "BadLibrary"))
    (kt_InvalidText_BadLibrary : PySem.W.kitOne K (.ref C_InvalidText) (.ref C_BadLibrary) = some (subN "InvalidText" "BadLibrary"))
    (kt_InvalidCommand_BadLibrary : PySem.W.kitOne K (.ref C_InvalidCommand) (.ref C_BadLibrary) = some (subN "InvalidCommand" "BadLibrary"))
    (kt_NoGoal_BadLibrary : PySem.W.kitOne K (.ref C_NoGoal) (.ref C_BadLibrary) = some (subN "NoGoal" "BadLibrary"))
    (kt_GapError_BadToken : PySem.W.kitOne K (.ref C_GapError) (.ref C_BadToken) = some (subN "GapError" "BadToken"))
    (kt_BadLibrary_BadToken : PySem.W.kitOne K (.ref C_BadLibrary) (.ref C_BadToken) = some (subN "BadLibrary" "BadToken"))
    (kt_Clash_BadToken : PySem.W.kitOne K (.ref C_Clash) (.ref C_BadToken) = some (subN "Clash" "BadToken"))
    (kt_BadGoal_BadToken : PySem.W.kitOne K (.ref C_BadGoal) (.ref C_BadToken) = some (subN "BadGoal" "BadToken"))
    (kt_BadToken_BadToken : PySem.W.kitOne K (.ref C_BadToken) (.ref C_BadToken) = some (subN "BadToken" "BadToken"))
    (kt_NotBuildable_BadToken : PySem.W.kitOne K (.ref C_NotBuildable) (.ref C_BadToken) = some (subN "NotBuildable" "BadToken"))
    (kt_NotOpen_BadToken : PySem.W.kitOne K (.ref C_NotOpen) (.ref C_BadToken) = some (subN "NotOpen" "BadToken"))
    (kt_NotUndeclared_BadToken : PySem.W.kitOne K (.ref C_NotUndeclared) (.ref C_BadToken) = some (subN "NotUndeclared" "BadToken"))
    (kt_TooLong_BadToken : PySem.W.kitOne K (.ref C_TooLong) (.ref C_BadToken) = some (subN "TooLong" "BadToken"))
    (kt_Stuck_BadToken : PySem.W.kitOne K (.ref C_Stuck) (.ref C_BadToken) = some (subN "Stuck" "BadToken"))
    (kt_NothingThere_BadToken : PySem.W.kitOne K (.ref C_NothingThere) (.ref C_BadToken) = some (subN "NothingThere" "BadToken"))
    (kt_NoName_BadToken : PySem.W.kitOne K (.ref C_NoName) (.ref C_BadToken) = some (subN "NoName" "BadToken"))
    (kt_InvalidText_BadToken : PySem.W.kitOne K (.ref C_InvalidText) (.ref C_BadToken) = some (subN "InvalidText" "BadToken"))
    (kt_InvalidCommand_BadToken : PySem.W.kitOne K (.ref C_InvalidCommand) (.ref C_BadToken) = some (subN "InvalidCommand" "BadToken"))
    (kt_NoGoal_BadToken : PySem.W.kitOne K (.ref C_NoGoal) (.ref C_BadToken) = some (subN "NoGoal" "BadToken"))
    (kt_GapError_Clash : PySem.W.kitOne K (.ref C_GapError) (.ref C_Clash) = some (subN "GapError" "Clash"))
    (kt_BadLibrary_Clash : PySem.W.kitOne K (.ref C_BadLibrary) (.ref C_Clash) = some (subN "BadLibrary" "Clash"))
    (kt_Clash_Clash : PySem.W.kitOne K (.ref C_Clash) (.ref C_Clash) = some (subN "Clash" "Clash"))
    (kt_BadGoal_Clash : PySem.W.kitOne K (.ref C_BadGoal) (.ref C_Clash) = some (subN "BadGoal" "Clash"))
    (kt_BadToken_Clash : PySem.W.kitOne K (.ref C_BadToken) (.ref C_Clash) = some (subN "BadToken" "Clash"))
    (kt_NotBuildable_Clash : PySem.W.kitOne K (.ref C_NotBuildable) (.ref C_Clash) = some (subN "NotBuildable" "Clash"))
    (kt_NotOpen_Clash : PySem.W.kitOne K (.ref C_NotOpen) (.ref C_Clash) = some (subN "NotOpen" "Clash"))
    (kt_NotUndeclared_Clash : PySem.W.kitOne K (.ref C_NotUndeclared) (.ref C_Clash) = some (subN "NotUndeclared" "Clash"))
    (kt_TooLong_Clash : PySem.W.kitOne K (.ref C_TooLong) (.ref C_Clash) = some (subN "TooLong" "Clash"))
    (kt_Stuck_Clash : PySem.W.kitOne K (.ref C_Stuck) (.ref C_Clash) = some (subN "Stuck" "Clash"))
    (kt_NothingThere_Clash : PySem.W.kitOne K (.ref C_NothingThere) (.ref C_Clash) = some (subN "NothingThere" "Clash"))
    (kt_NoName_Clash : PySem.W.kitOne K (.ref C_NoName) (.ref C_Clash) = some (subN "NoName" "Clash"))
    (kt_InvalidText_Clash : PySem.W.kitOne K (.ref C_InvalidText) (.ref C_Clash) = some (subN "InvalidText" "Clash"))
    (kt_InvalidCommand_Clash : PySem.W.kitOne K (.ref C_InvalidCommand) (.ref C_Clash) = some (subN "InvalidCommand" "Clash"))
    (kt_NoGoal_Clash : PySem.W.kitOne K (.ref C_NoGoal) (.ref C_Clash) = some (subN "NoGoal" "Clash"))
    (kt_GapError_GapError : PySem.W.kitOne K (.ref C_GapError) (.ref C_GapError) = some (subN "GapError" "GapError"))
    (kt_BadLibrary_GapError : PySem.W.kitOne K (.ref C_BadLibrary) (.ref C_GapError) = some (subN "BadLibrary" "GapError"))
    (kt_Clash_GapError : PySem.W.kitOne K (.ref C_Clash) (.ref C_GapError) = some (subN "Clash" "GapError"))
    (kt_BadGoal_GapError : PySem.W.kitOne K (.ref C_BadGoal) (.ref C_GapError) = some (subN "BadGoal" "GapError"))
    (kt_BadToken_GapError : PySem.W.kitOne K (.ref C_BadToken) (.ref C_GapError) = some (subN "BadToken" "GapError"))
    (kt_NotBuildable_GapError : PySem.W.kitOne K (.ref C_NotBuildable) (.ref C_GapError) = some (subN "NotBuildable" "GapError"))
    (kt_NotOpen_GapError : PySem.W.kitOne K (.ref C_NotOpen) (.ref C_GapError) = some (subN "NotOpen" "GapError"))
    (kt_NotUndeclared_GapError : PySem.W.kitOne K (.ref C_NotUndeclared) (.ref C_GapError) = some (subN "NotUndeclared" "GapError"))
    (kt_TooLong_GapError : PySem.W.kitOne K (.ref C_TooLong) (.ref C_GapError) = some (subN "TooLong" "GapError"))
    (kt_Stuck_GapError : PySem.W.kitOne K (.ref C_Stuck) (.ref C_GapError) = some (subN "Stuck" "GapError"))
    (kt_NothingThere_GapError : PySem.W.kitOne K (.ref C_NothingThere) (.ref C_GapError) = some (subN "NothingThere" "GapError"))
    (kt_NoName_GapError : PySem.W.kitOne K (.ref C_NoName) (.ref C_GapError) = some (subN "NoName" "GapError"))
    (kt_InvalidText_GapError : PySem.W.kitOne K (.ref C_InvalidText) (.ref C_GapError) = some (subN "InvalidText" "GapError"))
    (kt_InvalidCommand_GapError : PySem.W.kitOne K (.ref C_InvalidCommand) (.ref C_GapError) = some (subN "InvalidCommand" "GapError"))
    (kt_NoGoal_GapError : PySem.W.kitOne K (.ref C_NoGoal) (.ref C_GapError) = some (subN "NoGoal" "GapError"))
    (kt_GapError_InvalidCommand : PySem.W.kitOne K (.ref C_GapError) (.ref C_InvalidCommand) = some (subN "GapError" "InvalidCommand"))
    (kt_BadLibrary_InvalidCommand : PySem.W.kitOne K (.ref C_BadLibrary) (.ref C_InvalidCommand) = some (subN "BadLibrary" "InvalidCommand"))
    (kt_Clash_InvalidCommand : PySem.W.kitOne K (.ref C_Clash) (.ref C_InvalidCommand) = some (subN "Clash" "InvalidCommand"))
    (kt_BadGoal_InvalidCommand : PySem.W.kitOne K (.ref C_BadGoal) (.ref C_InvalidCommand) = some (subN "BadGoal" "InvalidCommand"))
    (kt_BadToken_InvalidCommand : PySem.W.kitOne K (.ref C_BadToken) (.ref C_InvalidCommand) = some (subN "BadToken" "InvalidCommand"))
    (kt_NotBuildable_InvalidCommand : PySem.W.kitOne K (.ref C_NotBuildable) (.ref C_InvalidCommand) = some (subN "NotBuildable" "InvalidCommand"))
    (kt_NotOpen_InvalidCommand : PySem.W.kitOne K (.ref C_NotOpen) (.ref C_InvalidCommand) = some (subN "NotOpen" "InvalidCommand"))
    (kt_NotUndeclared_InvalidCommand : PySem.W.kitOne K (.ref C_NotUndeclared) (.ref C_InvalidCommand) = some (subN "NotUndeclared" "InvalidCommand"))
    (kt_TooLong_InvalidCommand : PySem.W.kitOne K (.ref C_TooLong) (.ref C_InvalidCommand) = some (subN "TooLong" "InvalidCommand"))
    (kt_Stuck_InvalidCommand : PySem.W.kitOne K (.ref C_Stuck) (.ref C_InvalidCommand) = some (subN "Stuck" "InvalidCommand"))
    (kt_NothingThere_InvalidCommand : PySem.W.kitOne K (.ref C_NothingThere) (.ref C_InvalidCommand) = some (subN "NothingThere" "InvalidCommand"))
    (kt_NoName_InvalidCommand : PySem.W.kitOne K (.ref C_NoName) (.ref C_InvalidCommand) = some (subN "NoName" "InvalidCommand"))
    (kt_InvalidText_InvalidCommand : PySem.W.kitOne K (.ref C_InvalidText) (.ref C_InvalidCommand) = some (subN "InvalidText" "InvalidCommand"))
    (kt_InvalidCommand_InvalidCommand : PySem.W.kitOne K (.ref C_InvalidCommand) (.ref C_InvalidCommand) = some (subN "InvalidCommand" "InvalidCommand"))
    (kt_NoGoal_InvalidCommand : PySem.W.kitOne K (.ref C_NoGoal) (.ref C_InvalidCommand) = some (subN "NoGoal" "InvalidCommand"))
    (kt_GapError_InvalidText : PySem.W.kitOne K (.ref C_GapError) (.ref C_InvalidText) = some (subN "GapError" "InvalidText"))
    (kt_BadLibrary_InvalidText : PySem.W.kitOne K (.ref C_BadLibrary) (.ref C_InvalidText) = some (subN "BadLibrary" "InvalidText"))
    (kt_Clash_InvalidText : PySem.W.kitOne K (.ref C_Clash) (.ref C_InvalidText) = some (subN "Clash" "InvalidText"))
    (kt_BadGoal_InvalidText : PySem.W.kitOne K (.ref C_BadGoal) (.ref C_InvalidText) = some (subN "BadGoal" "InvalidText"))
    (kt_BadToken_InvalidText : PySem.W.kitOne K (.ref C_BadToken) (.ref C_InvalidText) = some (subN "BadToken" "InvalidText"))
    (kt_NotBuildable_InvalidText : PySem.W.kitOne K (.ref C_NotBuildable) (.ref C_InvalidText) = some (subN "NotBuildable" "InvalidText"))
    (kt_NotOpen_InvalidText : PySem.W.kitOne K (.ref C_NotOpen) (.ref C_InvalidText) = some (subN "NotOpen" "InvalidText"))
    (kt_NotUndeclared_InvalidText : PySem.W.kitOne K (.ref C_NotUndeclared) (.ref C_InvalidText) = some (subN "NotUndeclared" "InvalidText"))
    (kt_TooLong_InvalidText : PySem.W.kitOne K (.ref C_TooLong) (.ref C_InvalidText) = some (subN "TooLong" "InvalidText"))
    (kt_Stuck_InvalidText : PySem.W.kitOne K (.ref C_Stuck) (.ref C_InvalidText) = some (subN "Stuck" "InvalidText"))
    (kt_NothingThere_InvalidText : PySem.W.kitOne K (.ref C_NothingThere) (.ref C_InvalidText) = some (subN "NothingThere" "InvalidText"))
    (kt_NoName_InvalidText : PySem.W.kitOne K (.ref C_NoName) (.ref C_InvalidText) = some (subN "NoName" "InvalidText"))
    (kt_InvalidText_InvalidText : PySem.W.kitOne K (.ref C_InvalidText) (.ref C_InvalidText) = some (subN "InvalidText" "InvalidText"))
    (kt_InvalidCommand_InvalidText : PySem.W.kitOne K (.ref C_InvalidCommand) (.ref C_InvalidText) = some (subN "InvalidCommand" "InvalidText"))
    (kt_NoGoal_InvalidText : PySem.W.kitOne K (.ref C_NoGoal) (.ref C_InvalidText) = some (subN "NoGoal" "InvalidText"))
    (kt_GapError_NoGoal : PySem.W.kitOne K (.ref C_GapError) (.ref C_NoGoal) = some (subN "GapError" "NoGoal"))
    (kt_BadLibrary_NoGoal : PySem.W.kitOne K (.ref C_BadLibrary) (.ref C_NoGoal) = some (subN "BadLibrary" "NoGoal"))
    (kt_Clash_NoGoal : PySem.W.kitOne K (.ref C_Clash) (.ref C_NoGoal) = some (subN "Clash" "NoGoal"))
    (kt_BadGoal_NoGoal : PySem.W.kitOne K (.ref C_BadGoal) (.ref C_NoGoal) = some (subN "BadGoal" "NoGoal"))
    (kt_BadToken_NoGoal : PySem.W.kitOne K (.ref C_BadToken) (.ref C_NoGoal) = some (subN "BadToken" "NoGoal"))
    (kt_NotBuildable_NoGoal : PySem.W.kitOne K (.ref C_NotBuildable) (.ref C_NoGoal) = some (subN "NotBuildable" "NoGoal"))
    (kt_NotOpen_NoGoal : PySem.W.kitOne K (.ref C_NotOpen) (.ref C_NoGoal) = some (subN "NotOpen" "NoGoal"))
    (kt_NotUndeclared_NoGoal : PySem.W.kitOne K (.ref C_NotUndeclared) (.ref C_NoGoal) = some (subN "NotUndeclared" "NoGoal"))
    (kt_TooLong_NoGoal : PySem.W.kitOne K (.ref C_TooLong) (.ref C_NoGoal) = some (subN "TooLong" "NoGoal"))
    (kt_Stuck_NoGoal : PySem.W.kitOne K (.ref C_Stuck) (.ref C_NoGoal) = some (subN "Stuck" "NoGoal"))
    (kt_NothingThere_NoGoal : PySem.W.kitOne K (.ref C_NothingThere) (.ref C_NoGoal) = some (subN "NothingThere" "NoGoal"))
    (kt_NoName_NoGoal : PySem.W.kitOne K (.ref C_NoName) (.ref C_NoGoal) = some (subN "NoName" "NoGoal"))
    (kt_InvalidText_NoGoal : PySem.W.kitOne K (.ref C_InvalidText) (.ref C_NoGoal) = some (subN "InvalidText" "NoGoal"))
    (kt_InvalidCommand_NoGoal : PySem.W.kitOne K (.ref C_InvalidCommand) (.ref C_NoGoal) = some (subN "InvalidCommand" "NoGoal"))
    (kt_NoGoal_NoGoal : PySem.W.kitOne K (.ref C_NoGoal) (.ref C_NoGoal) = some (subN "NoGoal" "NoGoal"))
    (kt_GapError_NoName : PySem.W.kitOne K (.ref C_GapError) (.ref C_NoName) = some (subN "GapError" "NoName"))
    (kt_BadLibrary_NoName : PySem.W.kitOne K (.ref C_BadLibrary) (.ref C_NoName) = some (subN "BadLibrary" "NoName"))
    (kt_Clash_NoName : PySem.W.kitOne K (.ref C_Clash) (.ref C_NoName) = some (subN "Clash" "NoName"))
    (kt_BadGoal_NoName : PySem.W.kitOne K (.ref C_BadGoal) (.ref C_NoName) = some (subN "BadGoal" "NoName"))
    (kt_BadToken_NoName : PySem.W.kitOne K (.ref C_BadToken) (.ref C_NoName) = some (subN "BadToken" "NoName"))
    (kt_NotBuildable_NoName : PySem.W.kitOne K (.ref C_NotBuildable) (.ref C_NoName) = some (subN "NotBuildable" "NoName"))
    (kt_NotOpen_NoName : PySem.W.kitOne K (.ref C_NotOpen) (.ref C_NoName) = some (subN "NotOpen" "NoName"))
    (kt_NotUndeclared_NoName : PySem.W.kitOne K (.ref C_NotUndeclared) (.ref C_NoName) = some (subN "NotUndeclared" "NoName"))
    (kt_TooLong_NoName : PySem.W.kitOne K (.ref C_TooLong) (.ref C_NoName) = some (subN "TooLong" "NoName"))
    (kt_Stuck_NoName : PySem.W.kitOne K (.ref C_Stuck) (.ref C_NoName) = some (subN "Stuck" "NoName"))
    (kt_NothingThere_NoName : PySem.W.kitOne K (.ref C_NothingThere) (.ref C_NoName) = some (subN "NothingThere" "NoName"))
    (kt_NoName_NoName : PySem.W.kitOne K (.ref C_NoName) (.ref C_NoName) = some (subN "NoName" "NoName"))
    (kt_InvalidText_NoName : PySem.W.kitOne K (.ref C_InvalidText) (.ref C_NoName) = some (subN "InvalidText" "NoName"))
    (kt_InvalidCommand_NoName : PySem.W.kitOne K (.ref C_InvalidCommand) (.ref C_NoName) = some (subN "InvalidCommand" "NoName"))
    (kt_NoGoal_NoName : PySem.W.kitOne K (.ref C_NoGoal) (.ref C_NoName) = some (subN "NoGoal" "NoName"))
    (kt_GapError_NotBuildable : PySem.W.kitOne K (.ref C_GapError) (.ref C_NotBuildable) = some (subN "GapError" "NotBuildable"))
    (kt_BadLibrary_NotBuildable : PySem.W.kitOne K (.ref C_BadLibrary) (.ref C_NotBuildable) = some (subN "BadLibrary" "NotBuildable"))
    (kt_Clash_NotBuildable : PySem.W.kitOne K (.ref C_Clash) (.ref C_NotBuildable) = some (subN "Clash" "NotBuildable"))
    (kt_BadGoal_NotBuildable : PySem.W.kitOne K (.ref C_BadGoal) (.ref C_NotBuildable) = some (subN "BadGoal" "NotBuildable"))
    (kt_BadToken_NotBuildable : PySem.W.kitOne K (.ref C_BadToken) (.ref C_NotBuildable) = some (subN "BadToken" "NotBuildable"))
    (kt_NotBuildable_NotBuildable : PySem.W.kitOne K (.ref C_NotBuildable) (.ref C_NotBuildable) = some (subN "NotBuildable" "NotBuildable"))
    (kt_NotOpen_NotBuildable : PySem.W.kitOne K (.ref C_NotOpen) (.ref C_NotBuildable) = some (subN "NotOpen" "NotBuildable"))
    (kt_NotUndeclared_NotBuildable : PySem.W.kitOne K (.ref C_NotUndeclared) (.ref C_NotBuildable) = some (subN "NotUndeclared" "NotBuildable"))
    (kt_TooLong_NotBuildable : PySem.W.kitOne K (.ref C_TooLong) (.ref C_NotBuildable) = some (subN "TooLong" "NotBuildable"))
    (kt_Stuck_NotBuildable : PySem.W.kitOne K (.ref C_Stuck) (.ref C_NotBuildable) = some (subN "Stuck" "NotBuildable"))
    (kt_NothingThere_NotBuildable : PySem.W.kitOne K (.ref C_NothingThere) (.ref C_NotBuildable) = some (subN "NothingThere" "NotBuildable"))
    (kt_NoName_NotBuildable : PySem.W.kitOne K (.ref C_NoName) (.ref C_NotBuildable) = some (subN "NoName" "NotBuildable"))
    (kt_InvalidText_NotBuildable : PySem.W.kitOne K (.ref C_InvalidText) (.ref C_NotBuildable) = some (subN "InvalidText" "NotBuildable"))
    (kt_InvalidCommand_NotBuildable : PySem.W.kitOne K (.ref C_InvalidCommand) (.ref C_NotBuildable) = some (subN "InvalidCommand" "NotBuildable"))
    (kt_NoGoal_NotBuildable : PySem.W.kitOne K (.ref C_NoGoal) (.ref C_NotBuildable) = some (subN "NoGoal" "NotBuildable"))
    (kt_GapError_NotOpen : PySem.W.kitOne K (.ref C_GapError) (.ref C_NotOpen) = some (subN "GapError" "NotOpen"))
    (kt_BadLibrary_NotOpen : PySem.W.kitOne K (.ref C_BadLibrary) (.ref C_NotOpen) = some (subN "BadLibrary" "NotOpen"))
    (kt_Clash_NotOpen : PySem.W.kitOne K (.ref C_Clash) (.ref C_NotOpen) = some (subN "Clash" "NotOpen"))
    (kt_BadGoal_NotOpen : PySem.W.kitOne K (.ref C_BadGoal) (.ref C_NotOpen) = some (subN "BadGoal" "NotOpen"))
    (kt_BadToken_NotOpen : PySem.W.kitOne K (.ref C_BadToken) (.ref C_NotOpen) = some (subN "BadToken" "NotOpen"))
    (kt_NotBuildable_NotOpen : PySem.W.kitOne K (.ref C_NotBuildable) (.ref C_NotOpen) = some (subN "NotBuildable" "NotOpen"))
    (kt_NotOpen_NotOpen : PySem.W.kitOne K (.ref C_NotOpen) (.ref C_NotOpen) = some (subN "NotOpen" "NotOpen"))
    (kt_NotUndeclared_NotOpen : PySem.W.kitOne K (.ref C_NotUndeclared) (.ref C_NotOpen) = some (subN "NotUndeclared" "NotOpen"))
    (kt_TooLong_NotOpen : PySem.W.kitOne K (.ref C_TooLong) (.ref C_NotOpen) = some (subN "TooLong" "NotOpen"))
    (kt_Stuck_NotOpen : PySem.W.kitOne K (.ref C_Stuck) (.ref C_NotOpen) = some (subN "Stuck" "NotOpen"))
    (kt_NothingThere_NotOpen : PySem.W.kitOne K (.ref C_NothingThere) (.ref C_NotOpen) = some (subN "NothingThere" "NotOpen"))
    (kt_NoName_NotOpen : PySem.W.kitOne K (.ref C_NoName) (.ref C_NotOpen) = some (subN "NoName" "NotOpen"))
    (kt_InvalidText_NotOpen : PySem.W.kitOne K (.ref C_InvalidText) (.ref C_NotOpen) = some (subN "InvalidText" "NotOpen"))
    (kt_InvalidCommand_NotOpen : PySem.W.kitOne K (.ref C_InvalidCommand) (.ref C_NotOpen) = some (subN "InvalidCommand" "NotOpen"))
    (kt_NoGoal_NotOpen : PySem.W.kitOne K (.ref C_NoGoal) (.ref C_NotOpen) = some (subN "NoGoal" "NotOpen"))
    (kt_GapError_NotUndeclared : PySem.W.kitOne K (.ref C_GapError) (.ref C_NotUndeclared) = some (subN "GapError" "NotUndeclared"))
    (kt_BadLibrary_NotUndeclared : PySem.W.kitOne K (.ref C_BadLibrary) (.ref C_NotUndeclared) = some (subN "BadLibrary" "NotUndeclared"))
    (kt_Clash_NotUndeclared : PySem.W.kitOne K (.ref C_Clash) (.ref C_NotUndeclared) = some (subN "Clash" "NotUndeclared"))
    (kt_BadGoal_NotUndeclared : PySem.W.kitOne K (.ref C_BadGoal) (.ref C_NotUndeclared) = some (subN "BadGoal" "NotUndeclared"))
    (kt_BadToken_NotUndeclared : PySem.W.kitOne K (.ref C_BadToken) (.ref C_NotUndeclared) = some (subN "BadToken" "NotUndeclared"))
    (kt_NotBuildable_NotUndeclared : PySem.W.kitOne K (.ref C_NotBuildable) (.ref C_NotUndeclared) = some (subN "NotBuildable" "NotUndeclared"))
    (kt_NotOpen_NotUndeclared : PySem.W.kitOne K (.ref C_NotOpen) (.ref C_NotUndeclared) = some (subN "NotOpen" "NotUndeclared"))
    (kt_NotUndeclared_NotUndeclared : PySem.W.kitOne K (.ref C_NotUndeclared) (.ref C_NotUndeclared) = some (subN "NotUndeclared" "NotUndeclared"))
    (kt_TooLong_NotUndeclared : PySem.W.kitOne K (.ref C_TooLong) (.ref C_NotUndeclared) = some (subN "TooLong" "NotUndeclared"))
    (kt_Stuck_NotUndeclared : PySem.W.kitOne K (.ref C_Stuck) (.ref C_NotUndeclared) = some (subN "Stuck" "NotUndeclared"))
    (kt_NothingThere_NotUndeclared : PySem.W.kitOne K (.ref C_NothingThere) (.ref C_NotUndeclared) = some (subN "NothingThere" "NotUndeclared"))
    (kt_NoName_NotUndeclared : PySem.W.kitOne K (.ref C_NoName) (.ref C_NotUndeclared) = some (subN "NoName" "NotUndeclared"))
    (kt_InvalidText_NotUndeclared : PySem.W.kitOne K (.ref C_InvalidText) (.ref C_NotUndeclared) = some (subN "InvalidText" "NotUndeclared"))
    (kt_InvalidCommand_NotUndeclared : PySem.W.kitOne K (.ref C_InvalidCommand) (.ref C_NotUndeclared) = some (subN "InvalidCommand" "NotUndeclared"))
    (kt_NoGoal_NotUndeclared : PySem.W.kitOne K (.ref C_NoGoal) (.ref C_NotUndeclared) = some (subN "NoGoal" "NotUndeclared"))
    (kt_GapError_NothingThere : PySem.W.kitOne K (.ref C_GapError) (.ref C_NothingThere) = some (subN "GapError" "NothingThere"))
    (kt_BadLibrary_NothingThere : PySem.W.kitOne K (.ref C_BadLibrary) (.ref C_NothingThere) = some (subN "BadLibrary" "NothingThere"))
    (kt_Clash_NothingThere : PySem.W.kitOne K (.ref C_Clash) (.ref C_NothingThere) = some (subN "Clash" "NothingThere"))
    (kt_BadGoal_NothingThere : PySem.W.kitOne K (.ref C_BadGoal) (.ref C_NothingThere) = some (subN "BadGoal" "NothingThere"))
    (kt_BadToken_NothingThere : PySem.W.kitOne K (.ref C_BadToken) (.ref C_NothingThere) = some (subN "BadToken" "NothingThere"))
    (kt_NotBuildable_NothingThere : PySem.W.kitOne K (.ref C_NotBuildable) (.ref C_NothingThere) = some (subN "NotBuildable" "NothingThere"))
    (kt_NotOpen_NothingThere : PySem.W.kitOne K (.ref C_NotOpen) (.ref C_NothingThere) = some (subN "NotOpen" "NothingThere"))
    (kt_NotUndeclared_NothingThere : PySem.W.kitOne K (.ref C_NotUndeclared) (.ref C_NothingThere) = some (subN "NotUndeclared" "NothingThere"))
    (kt_TooLong_NothingThere : PySem.W.kitOne K (.ref C_TooLong) (.ref C_NothingThere) = some (subN "TooLong" "NothingThere"))
    (kt_Stuck_NothingThere : PySem.W.kitOne K (.ref C_Stuck) (.ref C_NothingThere) = some (subN "Stuck" "NothingThere"))
    (kt_NothingThere_NothingThere : PySem.W.kitOne K (.ref C_NothingThere) (.ref C_NothingThere) = some (subN "NothingThere" "NothingThere"))
    (kt_NoName_NothingThere : PySem.W.kitOne K (.ref C_NoName) (.ref C_NothingThere) = some (subN "NoName" "NothingThere"))
    (kt_InvalidText_NothingThere : PySem.W.kitOne K (.ref C_InvalidText) (.ref C_NothingThere) = some (subN "InvalidText" "NothingThere"))
    (kt_InvalidCommand_NothingThere : PySem.W.kitOne K (.ref C_InvalidCommand) (.ref C_NothingThere) = some (subN "InvalidCommand" "NothingThere"))
    (kt_NoGoal_NothingThere : PySem.W.kitOne K (.ref C_NoGoal) (.ref C_NothingThere) = some (subN "NoGoal" "NothingThere"))
    (kt_GapError_Stuck : PySem.W.kitOne K (.ref C_GapError) (.ref C_Stuck) = some (subN "GapError" "Stuck"))
    (kt_BadLibrary_Stuck : PySem.W.kitOne K (.ref C_BadLibrary) (.ref C_Stuck) = some (subN "BadLibrary" "Stuck"))
    (kt_Clash_Stuck : PySem.W.kitOne K (.ref C_Clash) (.ref C_Stuck) = some (subN "Clash" "Stuck"))
    (kt_BadGoal_Stuck : PySem.W.kitOne K (.ref C_BadGoal) (.ref C_Stuck) = some (subN "BadGoal" "Stuck"))
    (kt_BadToken_Stuck : PySem.W.kitOne K (.ref C_BadToken) (.ref C_Stuck) = some (subN "BadToken" "Stuck"))
    (kt_NotBuildable_Stuck : PySem.W.kitOne K (.ref C_NotBuildable) (.ref C_Stuck) = some (subN "NotBuildable" "Stuck"))
    (kt_NotOpen_Stuck : PySem.W.kitOne K (.ref C_NotOpen) (.ref C_Stuck) = some (subN "NotOpen" "Stuck"))
    (kt_NotUndeclared_Stuck : PySem.W.kitOne K (.ref C_NotUndeclared) (.ref C_Stuck) = some (subN "NotUndeclared" "Stuck"))
    (kt_TooLong_Stuck : PySem.W.kitOne K (.ref C_TooLong) (.ref C_Stuck) = some (subN "TooLong" "Stuck"))
    (kt_Stuck_Stuck : PySem.W.kitOne K (.ref C_Stuck) (.ref C_Stuck) = some (subN "Stuck" "Stuck"))
    (kt_NothingThere_Stuck : PySem.W.kitOne K (.ref C_NothingThere) (.ref C_Stuck) = some (subN "NothingThere" "Stuck"))
    (kt_NoName_Stuck : PySem.W.kitOne K (.ref C_NoName) (.ref C_Stuck) = some (subN "NoName" "Stuck"))
    (kt_InvalidText_Stuck : PySem.W.kitOne K (.ref C_InvalidText) (.ref C_Stuck) = some (subN "InvalidText" "Stuck"))
    (kt_InvalidCommand_Stuck : PySem.W.kitOne K (.ref C_InvalidCommand) (.ref C_Stuck) = some (subN "InvalidCommand" "Stuck"))
    (kt_NoGoal_Stuck : PySem.W.kitOne K (.ref C_NoGoal) (.ref C_Stuck) = some (subN "NoGoal" "Stuck"))
    (kt_GapError_TooLong : PySem.W.kitOne K (.ref C_GapError) (.ref C_TooLong) = some (subN "GapError" "TooLong"))
    (kt_BadLibrary_TooLong : PySem.W.kitOne K (.ref C_BadLibrary) (.ref C_TooLong) = some (subN "BadLibrary" "TooLong"))
    (kt_Clash_TooLong : PySem.W.kitOne K (.ref C_Clash) (.ref C_TooLong) = some (subN "Clash" "TooLong"))
    (kt_BadGoal_TooLong : PySem.W.kitOne K (.ref C_BadGoal) (.ref C_TooLong) = some (subN "BadGoal" "TooLong"))
    (kt_BadToken_TooLong : PySem.W.kitOne K (.ref C_BadToken) (.ref C_TooLong) = some (subN "BadToken" "TooLong"))
    (kt_NotBuildable_TooLong : PySem.W.kitOne K (.ref C_NotBuildable) (.ref C_TooLong) = some (subN "NotBuildable" "TooLong"))
    (kt_NotOpen_TooLong : PySem.W.kitOne K (.ref C_NotOpen) (.ref C_TooLong) = some (subN "NotOpen" "TooLong"))
    (kt_NotUndeclared_TooLong : PySem.W.kitOne K (.ref C_NotUndeclared) (.ref C_TooLong) = some (subN "NotUndeclared" "TooLong"))
    (kt_TooLong_TooLong : PySem.W.kitOne K (.ref C_TooLong) (.ref C_TooLong) = some (subN "TooLong" "TooLong"))
    (kt_Stuck_TooLong : PySem.W.kitOne K (.ref C_Stuck) (.ref C_TooLong) = some (subN "Stuck" "TooLong"))
    (kt_NothingThere_TooLong : PySem.W.kitOne K (.ref C_NothingThere) (.ref C_TooLong) = some (subN "NothingThere" "TooLong"))
    (kt_NoName_TooLong : PySem.W.kitOne K (.ref C_NoName) (.ref C_TooLong) = some (subN "NoName" "TooLong"))
    (kt_InvalidText_TooLong : PySem.W.kitOne K (.ref C_InvalidText) (.ref C_TooLong) = some (subN "InvalidText" "TooLong"))
    (kt_InvalidCommand_TooLong : PySem.W.kitOne K (.ref C_InvalidCommand) (.ref C_TooLong) = some (subN "InvalidCommand" "TooLong"))
    (kt_NoGoal_TooLong : PySem.W.kitOne K (.ref C_NoGoal) (.ref C_TooLong) = some (subN "NoGoal" "TooLong"))
    (kb_GapError_Exception : PySem.W.kitOne K (.ref C_GapError) (.type "Exception") = some (subN "GapError" "Exception"))
    (kb_BadLibrary_Exception : PySem.W.kitOne K (.ref C_BadLibrary) (.type "Exception") = some (subN "BadLibrary" "Exception"))
    (kb_Clash_Exception : PySem.W.kitOne K (.ref C_Clash) (.type "Exception") = some (subN "Clash" "Exception"))
    (kb_BadGoal_Exception : PySem.W.kitOne K (.ref C_BadGoal) (.type "Exception") = some (subN "BadGoal" "Exception"))
    (kb_BadToken_Exception : PySem.W.kitOne K (.ref C_BadToken) (.type "Exception") = some (subN "BadToken" "Exception"))
    (kb_NotBuildable_Exception : PySem.W.kitOne K (.ref C_NotBuildable) (.type "Exception") = some (subN "NotBuildable" "Exception"))
    (kb_NotOpen_Exception : PySem.W.kitOne K (.ref C_NotOpen) (.type "Exception") = some (subN "NotOpen" "Exception"))
    (kb_NotUndeclared_Exception : PySem.W.kitOne K (.ref C_NotUndeclared) (.type "Exception") = some (subN "NotUndeclared" "Exception"))
    (kb_TooLong_Exception : PySem.W.kitOne K (.ref C_TooLong) (.type "Exception") = some (subN "TooLong" "Exception"))
    (kb_Stuck_Exception : PySem.W.kitOne K (.ref C_Stuck) (.type "Exception") = some (subN "Stuck" "Exception"))
    (kb_NothingThere_Exception : PySem.W.kitOne K (.ref C_NothingThere) (.type "Exception") = some (subN "NothingThere" "Exception"))
    (kb_NoName_Exception : PySem.W.kitOne K (.ref C_NoName) (.type "Exception") = some (subN "NoName" "Exception"))
    (kb_InvalidText_Exception : PySem.W.kitOne K (.ref C_InvalidText) (.type "Exception") = some (subN "InvalidText" "Exception"))
    (kb_InvalidCommand_Exception : PySem.W.kitOne K (.ref C_InvalidCommand) (.type "Exception") = some (subN "InvalidCommand" "Exception"))
    (kb_NoGoal_Exception : PySem.W.kitOne K (.ref C_NoGoal) (.type "Exception") = some (subN "NoGoal" "Exception"))
    (ku_GapError_0 : PySem.W.kitAny K (.ref C_GapError) ((["ArithmeticError", "LookupError", "RuntimeError", "TypeError", "ValueError"] : List String).map Value.type) = some false)
    (ku_BadLibrary_0 : PySem.W.kitAny K (.ref C_BadLibrary) ((["ArithmeticError", "LookupError", "RuntimeError", "TypeError", "ValueError"] : List String).map Value.type) = some false)
    (ku_Clash_0 : PySem.W.kitAny K (.ref C_Clash) ((["ArithmeticError", "LookupError", "RuntimeError", "TypeError", "ValueError"] : List String).map Value.type) = some false)
    (ku_BadGoal_0 : PySem.W.kitAny K (.ref C_BadGoal) ((["ArithmeticError", "LookupError", "RuntimeError", "TypeError", "ValueError"] : List String).map Value.type) = some false)
    (ku_BadToken_0 : PySem.W.kitAny K (.ref C_BadToken) ((["ArithmeticError", "LookupError", "RuntimeError", "TypeError", "ValueError"] : List String).map Value.type) = some false)
    (ku_NotBuildable_0 : PySem.W.kitAny K (.ref C_NotBuildable) ((["ArithmeticError", "LookupError", "RuntimeError", "TypeError", "ValueError"] : List String).map Value.type) = some false)
    (ku_NotOpen_0 : PySem.W.kitAny K (.ref C_NotOpen) ((["ArithmeticError", "LookupError", "RuntimeError", "TypeError", "ValueError"] : List String).map Value.type) = some false)
    (ku_NotUndeclared_0 : PySem.W.kitAny K (.ref C_NotUndeclared) ((["ArithmeticError", "LookupError", "RuntimeError", "TypeError", "ValueError"] : List String).map Value.type) = some false)
    (ku_TooLong_0 : PySem.W.kitAny K (.ref C_TooLong) ((["ArithmeticError", "LookupError", "RuntimeError", "TypeError", "ValueError"] : List String).map Value.type) = some false)
    (ku_Stuck_0 : PySem.W.kitAny K (.ref C_Stuck) ((["ArithmeticError", "LookupError", "RuntimeError", "TypeError", "ValueError"] : List String).map Value.type) = some false)
    (ku_NothingThere_0 : PySem.W.kitAny K (.ref C_NothingThere) ((["ArithmeticError", "LookupError", "RuntimeError", "TypeError", "ValueError"] : List String).map Value.type) = some false)
    (ku_NoName_0 : PySem.W.kitAny K (.ref C_NoName) ((["ArithmeticError", "LookupError", "RuntimeError", "TypeError", "ValueError"] : List String).map Value.type) = some false)
    (ku_InvalidText_0 : PySem.W.kitAny K (.ref C_InvalidText) ((["ArithmeticError", "LookupError", "RuntimeError", "TypeError", "ValueError"] : List String).map Value.type) = some false)
    (ku_InvalidCommand_0 : PySem.W.kitAny K (.ref C_InvalidCommand) ((["ArithmeticError", "LookupError", "RuntimeError", "TypeError", "ValueError"] : List String).map Value.type) = some false)
    (ku_NoGoal_0 : PySem.W.kitAny K (.ref C_NoGoal) ((["ArithmeticError", "LookupError", "RuntimeError", "TypeError", "ValueError"] : List String).map Value.type) = some false)
    : ∃ fd : FuncData, (∀ (s : Shared) (u : Value), BindsTo s fd ⟨[u], []⟩ [("_law_script", u)]) ∧ ∀ base : Heap, K.In base → base.Ns mainGlobals mg → FnG l.prog w K mg base CX0 4 fa fd ["_law_script"] (SpD K 1 R_law) := by
  have e := hfa.symm.trans (PySem.W.mg_of X G a7)
  cases e
  have F0 := fun_mk (st := s_l_hand) l0 c0 k0
  have b0 := F0.binds (ps := ["_law_script"]) fun _ _ _ _ _ _ us hl => match us, hl with | [_], _ => rfl
  have F1 := fun_mk (st := s_l_draw) l1 c1 k1
  have b1 := F1.binds (ps := ["_law_hand_here", "_law_many"]) fun _ _ _ _ _ _ us hl => match us, hl with | [_, _], _ => rfl
  have F2 := fun_mk (st := s_l_with_one) l2 c2 k2
  have b2 := F2.binds (ps := ["_law_it"]) fun _ _ _ _ _ _ us hl => match us, hl with | [_], _ => rfl
  have F3 := fun_mk (st := s_l_places) l3 c3 k3
  have b3 := F3.binds (ps := ["_law_odd"]) fun _ _ _ _ _ _ us hl => match us, hl with | [_], _ => rfl
  have F4 := fun_mk (st := s_l_value) l4 c4 k4
  have b4 := F4.binds (ps := ["_law_hand_here", "_law_script"]) fun _ _ _ _ _ _ us hl => match us, hl with | [_, _], _ => rfl
  have F5 := fun_mk (st := s_l_is_alone) l5 c5 k5
  have b5 := F5.binds (ps := ["_law_odd", "_law_places_here"]) fun _ _ _ _ _ _ us hl => match us, hl with | [_, _], _ => rfl
  have F6 := fun_mk (st := s_l_right) l6 c6 k6
  have b6 := F6.binds (ps := ["_law_it", "_law_that"]) fun _ _ _ _ _ _ us hl => match us, hl with | [_, _], _ => rfl
  have F7 := fun_mk (st := s_law) l7 c7 k7
  have b7 := F7.binds (ps := ["_law_script"]) fun _ _ _ _ _ _ us hl => match us, hl with | [_], _ => rfl
  refine ⟨PySem.W.fnOf "law" "law" (defArgs s_law) (defBody s_law) (defScope s_law) .none kV7 dc7 pm7 an7 cd7 ct7, fun s v => .of_eq rfl, fun base _ _ => ?_⟩
  have n_ArithmeticError := PySem.W.mg_none_of X G m_ArithmeticError
  have n_Exception := PySem.W.mg_none_of X G m_Exception
  have n_LookupError := PySem.W.mg_none_of X G m_LookupError
  have n_RuntimeError := PySem.W.mg_none_of X G m_RuntimeError
  have n_TypeError := PySem.W.mg_none_of X G m_TypeError
  have n_ValueError := PySem.W.mg_none_of X G m_ValueError
  have n_enumerate := PySem.W.mg_none_of X G m_enumerate
  have n_isinstance := PySem.W.mg_none_of X G m_isinstance
  have n_len := PySem.W.mg_none_of X G m_len
  have n_list := PySem.W.mg_none_of X G m_list
  have n_range := PySem.W.mg_none_of X G m_range
  have n_repr := PySem.W.mg_none_of X G m_repr
  have n_tuple := PySem.W.mg_none_of X G m_tuple
  have n_super := PySem.W.mg_none_of X G m_super
  have V_BadGoal : ErrV l.prog K mg "BadGoal" ["part"] [(["part"], [0])] C_BadGoal := ⟨⟨msg_BadGoal, C_GapError, fI_BadGoal, cc_BadGoal, cda_BadGoal, _, errTxtL_mk (s := (memb (topS 4) 0)) xL_BadGoal sa_BadGoal (fun f hf => by
    simp only [List.mem_cons, List.not_mem_nil, or_false] at hf
    rcases hf with rfl
    · exact nN_BadGoal_0) iC_BadGoal tC_BadGoal sup_BadGoal opq l1_BadGoal c1_BadGoal cel_BadGoal cod_BadGoal hv_BadGoal hf_BadGoal topn eb_BadGoal nd_BadGoal (by simp) (by decide) nos_BadGoal sk_BadGoal snc_BadGoal s1_BadGoal s2_BadGoal s3_BadGoal s4_BadGoal he_BadGoal har_BadGoal, hA_BadGoal, hK_BadGoal⟩, aC_BadGoal, PySem.W.mg_of X G aC_BadGoal, kC_BadGoal, ⟨ga_BadGoal, gg_BadGoal, eC_BadGoal, hd_BadGoal⟩, n_super⟩
  have V_BadLibrary : ErrV l.prog K mg "BadLibrary" ["part"] [(["part"], [0])] C_BadLibrary := ⟨⟨msg_BadLibrary, C_GapError, fI_BadLibrary, cc_BadLibrary, cda_BadLibrary, _, errTxtL_mk (s := (memb (topS 2) 0)) xL_BadLibrary sa_BadLibrary (fun f hf => by
    simp only [List.mem_cons, List.not_mem_nil, or_false] at hf
    rcases hf with rfl
    · exact nN_BadLibrary_0) iC_BadLibrary tC_BadLibrary sup_BadLibrary opq l1_BadLibrary c1_BadLibrary cel_BadLibrary cod_BadLibrary hv_BadLibrary hf_BadLibrary topn eb_BadLibrary nd_BadLibrary (by simp) (by decide) nos_BadLibrary sk_BadLibrary snc_BadLibrary s1_BadLibrary s2_BadLibrary s3_BadLibrary s4_BadLibrary he_BadLibrary har_BadLibrary, hA_BadLibrary, hK_BadLibrary⟩, aC_BadLibrary, PySem.W.mg_of X G aC_BadLibrary, kC_BadLibrary, ⟨ga_BadLibrary, gg_BadLibrary, eC_BadLibrary, hd_BadLibrary⟩, n_super⟩
  have V_BadToken : ErrV l.prog K mg "BadToken" ["token"] [(["token"], [0])] C_BadToken := ⟨⟨msg_BadToken, C_GapError, fI_BadToken, cc_BadToken, cda_BadToken, _, errTxtL_mk (s := (memb (topS 5) 0)) xL_BadToken sa_BadToken (fun f hf => by
    simp only [List.mem_cons, List.not_mem_nil, or_false] at hf
    rcases hf with rfl
    · exact nN_BadToken_0) iC_BadToken tC_BadToken sup_BadToken opq l1_BadToken c1_BadToken cel_BadToken cod_BadToken hv_BadToken hf_BadToken topn eb_BadToken nd_BadToken (by simp) (by decide) nos_BadToken sk_BadToken snc_BadToken s1_BadToken s2_BadToken s3_BadToken s4_BadToken he_BadToken har_BadToken, hA_BadToken, hK_BadToken⟩, aC_BadToken, PySem.W.mg_of X G aC_BadToken, kC_BadToken, ⟨ga_BadToken, gg_BadToken, eC_BadToken, hd_BadToken⟩, n_super⟩
  have V_Clash : ErrV l.prog K mg "Clash" ["one", "other"] [(["one", "other"], [0, 1]), (["other", "one"], [1, 0])] C_Clash := ⟨⟨msg_Clash, C_GapError, fI_Clash, cc_Clash, cda_Clash, _, errTxtL_mk (s := (memb (topS 3) 0)) xL_Clash sa_Clash (fun f hf => by
    simp only [List.mem_cons, List.not_mem_nil, or_false] at hf
    rcases hf with rfl | rfl
    · exact nN_Clash_0
    · exact nN_Clash_1) iC_Clash tC_Clash sup_Clash opq l1_Clash c1_Clash cel_Clash cod_Clash hv_Clash hf_Clash topn eb_Clash nd_Clash (by simp) (by decide) nos_Clash sk_Clash snc_Clash s1_Clash s2_Clash s3_Clash s4_Clash he_Clash har_Clash, hA_Clash, hK_Clash⟩, aC_Clash, PySem.W.mg_of X G aC_Clash, kC_Clash, ⟨ga_Clash, gg_Clash, eC_Clash, hd_Clash⟩, n_super⟩
  have V_InvalidCommand : ErrV l.prog K mg "InvalidCommand" ["line"] [(["line"], [0])] C_InvalidCommand := ⟨⟨msg_InvalidCommand, C_GapError, fI_InvalidCommand, cc_InvalidCommand, cda_InvalidCommand, _, errTxtL_mk (s := (memb (topS 14) 0)) xL_InvalidCommand sa_InvalidCommand (fun f hf => by
    simp only [List.mem_cons, List.not_mem_nil, or_false] at hf
    rcases hf with rfl
    · exact nN_InvalidCommand_0) iC_InvalidCommand tC_InvalidCommand sup_InvalidCommand opq l1_InvalidCommand c1_InvalidCommand cel_InvalidCommand cod_InvalidCommand hv_InvalidCommand hf_InvalidCommand topn eb_InvalidCommand nd_InvalidCommand (by simp) (by decide) nos_InvalidCommand sk_InvalidCommand snc_InvalidCommand s1_InvalidCommand s2_InvalidCommand s3_InvalidCommand s4_InvalidCommand he_InvalidCommand har_InvalidCommand, hA_InvalidCommand, hK_InvalidCommand⟩, aC_InvalidCommand, PySem.W.mg_of X G aC_InvalidCommand, kC_InvalidCommand, ⟨ga_InvalidCommand, gg_InvalidCommand, eC_InvalidCommand, hd_InvalidCommand⟩, n_super⟩
  have V_InvalidText : ErrV l.prog K mg "InvalidText" ["place"] [(["place"], [0])] C_InvalidText := ⟨⟨msg_InvalidText, C_GapError, fI_InvalidText, cc_InvalidText, cda_InvalidText, _, errTxtL_mk (s := (memb (topS 13) 0)) xL_InvalidText sa_InvalidText (fun f hf => by
    simp only [List.mem_cons, List.not_mem_nil, or_false] at hf
    rcases hf with rfl
    · exact nN_InvalidText_0) iC_InvalidText tC_InvalidText sup_InvalidText opq l1_InvalidText c1_InvalidText cel_InvalidText cod_InvalidText hv_InvalidText hf_InvalidText topn eb_InvalidText nd_InvalidText (by simp) (by decide) nos_InvalidText sk_InvalidText snc_InvalidText s1_InvalidText s2_InvalidText s3_InvalidText s4_InvalidText he_InvalidText har_InvalidText, hA_InvalidText, hK_InvalidText⟩, aC_InvalidText, PySem.W.mg_of X G aC_InvalidText, kC_InvalidText, ⟨ga_InvalidText, gg_InvalidText, eC_InvalidText, hd_InvalidText⟩, n_super⟩
  have V_NoName : ErrV l.prog K mg "NoName" ["name"] [(["name"], [0])] C_NoName := ⟨⟨msg_NoName, C_GapError, fI_NoName, cc_NoName, cda_NoName, _, errTxtL_mk (s := (memb (topS 12) 0)) xL_NoName sa_NoName (fun f hf => by
    simp only [List.mem_cons, List.not_mem_nil, or_false] at hf
    rcases hf with rfl
    · exact nN_NoName_0) iC_NoName tC_NoName sup_NoName opq l1_NoName c1_NoName cel_NoName cod_NoName hv_NoName hf_NoName topn eb_NoName nd_NoName (by simp) (by decide) nos_NoName sk_NoName snc_NoName s1_NoName s2_NoName s3_NoName s4_NoName he_NoName har_NoName, hA_NoName, hK_NoName⟩, aC_NoName, PySem.W.mg_of X G aC_NoName, kC_NoName, ⟨ga_NoName, gg_NoName, eC_NoName, hd_NoName⟩, n_super⟩
  have V_NotBuildable : ErrV l.prog K mg "NotBuildable" ["kind"] [(["kind"], [0])] C_NotBuildable := ⟨⟨msg_NotBuildable, C_GapError, fI_NotBuildable, cc_NotBuildable, cda_NotBuildable, _, errTxtL_mk (s := (memb (topS 6) 0)) xL_NotBuildable sa_NotBuildable (fun f hf => by
    simp only [List.mem_cons, List.not_mem_nil, or_false] at hf
    rcases hf with rfl
    · exact nN_NotBuildable_0) iC_NotBuildable tC_NotBuildable sup_NotBuildable opq l1_NotBuildable c1_NotBuildable cel_NotBuildable cod_NotBuildable hv_NotBuildable hf_NotBuildable topn eb_NotBuildable nd_NotBuildable (by simp) (by decide) nos_NotBuildable sk_NotBuildable snc_NotBuildable s1_NotBuildable s2_NotBuildable s3_NotBuildable s4_NotBuildable he_NotBuildable har_NotBuildable, hA_NotBuildable, hK_NotBuildable⟩, aC_NotBuildable, PySem.W.mg_of X G aC_NotBuildable, kC_NotBuildable, ⟨ga_NotBuildable, gg_NotBuildable, eC_NotBuildable, hd_NotBuildable⟩, n_super⟩
  have V_NotUndeclared : ErrV l.prog K mg "NotUndeclared" ["name"] [(["name"], [0])] C_NotUndeclared := ⟨⟨msg_NotUndeclared, C_GapError, fI_NotUndeclared, cc_NotUndeclared, cda_NotUndeclared, _, errTxtL_mk (s := (memb (topS 8) 0)) xL_NotUndeclared sa_NotUndeclared (fun f hf => by
    simp only [List.mem_cons, List.not_mem_nil, or_false] at hf
    rcases hf with rfl
    · exact nN_NotUndeclared_0) iC_NotUndeclared tC_NotUndeclared sup_NotUndeclared opq l1_NotUndeclared c1_NotUndeclared cel_NotUndeclared cod_NotUndeclared hv_NotUndeclared hf_NotUndeclared topn eb_NotUndeclared nd_NotUndeclared (by simp) (by decide) nos_NotUndeclared sk_NotUndeclared snc_NotUndeclared s1_NotUndeclared s2_NotUndeclared s3_NotUndeclared s4_NotUndeclared he_NotUndeclared har_NotUndeclared, hA_NotUndeclared, hK_NotUndeclared⟩, aC_NotUndeclared, PySem.W.mg_of X G aC_NotUndeclared, kC_NotUndeclared, ⟨ga_NotUndeclared, gg_NotUndeclared, eC_NotUndeclared, hd_NotUndeclared⟩, n_super⟩
  have V_Stuck : ErrV l.prog K mg "Stuck" ["index"] [(["index"], [0])] C_Stuck := ⟨⟨msg_Stuck, C_GapError, fI_Stuck, cc_Stuck, cda_Stuck, _, errTxtL_mk (s := (memb (topS 10) 0)) xL_Stuck sa_Stuck (fun f hf => by
    simp only [List.mem_cons, List.not_mem_nil, or_false] at hf
    rcases hf with rfl
    · exact nN_Stuck_0) iC_Stuck tC_Stuck sup_Stuck opq l1_Stuck c1_Stuck cel_Stuck cod_Stuck hv_Stuck hf_Stuck topn eb_Stuck nd_Stuck (by simp) (by decide) nos_Stuck sk_Stuck snc_Stuck s1_Stuck s2_Stuck s3_Stuck s4_Stuck he_Stuck har_Stuck, hA_Stuck, hK_Stuck⟩, aC_Stuck, PySem.W.mg_of X G aC_Stuck, kC_Stuck, ⟨ga_Stuck, gg_Stuck, eC_Stuck, hd_Stuck⟩, n_super⟩
  have V_TooLong : ErrV l.prog K mg "TooLong" ["length"] [(["length"], [0])] C_TooLong := ⟨⟨msg_TooLong, C_GapError, fI_TooLong, cc_TooLong, cda_TooLong, _, errTxtL_mk (s := (memb (topS 9) 0)) xL_TooLong sa_TooLong (fun f hf => by
    simp only [List.mem_cons, List.not_mem_nil, or_false] at hf
    rcases hf with rfl
    · exact nN_TooLong_0) iC_TooLong tC_TooLong sup_TooLong opq l1_TooLong c1_TooLong cel_TooLong cod_TooLong hv_TooLong hf_TooLong topn eb_TooLong nd_TooLong (by simp) (by decide) nos_TooLong sk_TooLong snc_TooLong s1_TooLong s2_TooLong s3_TooLong s4_TooLong he_TooLong har_TooLong, hA_TooLong, hK_TooLong⟩, aC_TooLong, PySem.W.mg_of X G aC_TooLong, kC_TooLong, ⟨ga_TooLong, gg_TooLong, eC_TooLong, hd_TooLong⟩, n_super⟩
  have W_GapError : ErrV0 K mg "GapError" C_GapError := ⟨xw_GapError, aC_GapError, PySem.W.mg_of X G aC_GapError, kC_GapError⟩
  have W_NoGoal : ErrV0 K mg "NoGoal" C_NoGoal := ⟨xw_NoGoal, aC_NoGoal, PySem.W.mg_of X G aC_NoGoal, kC_NoGoal⟩
  have W_NotOpen : ErrV0 K mg "NotOpen" C_NotOpen := ⟨xw_NotOpen, aC_NotOpen, PySem.W.mg_of X G aC_NotOpen, kC_NotOpen⟩
  have W_NothingThere : ErrV0 K mg "NothingThere" C_NothingThere := ⟨xw_NothingThere, aC_NothingThere, PySem.W.mg_of X G aC_NothingThere, kC_NothingThere⟩
  have I_BadGoal : IsxH K ["GapError", "BadLibrary", "Clash", "BadGoal", "BadToken", "NotBuildable", "NotOpen", "NotUndeclared", "TooLong", "Stuck", "NothingThere", "NoName", "InvalidText", "InvalidCommand", "NoGoal"] "BadGoal" C_BadGoal := isx_of aC_BadGoal fun n hn => by
    simp only [List.mem_cons, List.not_mem_nil, or_false] at hn
    rcases hn with rfl | rfl | rfl | rfl | rfl | rfl | rfl | rfl | rfl | rfl | rfl | rfl | rfl | rfl | rfl
    · exact ⟨C_GapError, aC_GapError, ⟨zg_GapError, zk_GapError, zs_GapError, zd_GapError, za_GapError, ocn, oct, zm_GapError⟩, kt_GapError_BadGoal⟩
    · exact ⟨C_BadLibrary, aC_BadLibrary, ⟨zg_BadLibrary, zk_BadLibrary, zs_BadLibrary, zd_BadLibrary, za_BadLibrary, ocn, oct, zm_BadLibrary⟩, kt_BadLibrary_BadGoal⟩
    · exact ⟨C_Clash, aC_Clash, ⟨zg_Clash, zk_Clash, zs_Clash, zd_Clash, za_Clash, ocn, oct, zm_Clash⟩, kt_Clash_BadGoal⟩
    · exact ⟨C_BadGoal, aC_BadGoal, ⟨zg_BadGoal, zk_BadGoal, zs_BadGoal, zd_BadGoal, za_BadGoal, ocn, oct, zm_BadGoal⟩, kt_BadGoal_BadGoal⟩
    · exact ⟨C_BadToken, aC_BadToken, ⟨zg_BadToken, zk_BadToken, zs_BadToken, zd_BadToken, za_BadToken, ocn, oct, zm_BadToken⟩, kt_BadToken_BadGoal⟩
    · exact ⟨C_NotBuildable, aC_NotBuildable, ⟨zg_NotBuildable, zk_NotBuildable, zs_NotBuildable, zd_NotBuildable, za_NotBuildable, ocn, oct, zm_NotBuildable⟩, kt_NotBuildable_BadGoal⟩
    · exact ⟨C_NotOpen, aC_NotOpen, ⟨zg_NotOpen, zk_NotOpen, zs_NotOpen, zd_NotOpen, za_NotOpen, ocn, oct, zm_NotOpen⟩, kt_NotOpen_BadGoal⟩
    · exact ⟨C_NotUndeclared, aC_NotUndeclared, ⟨zg_NotUndeclared, zk_NotUndeclared, zs_NotUndeclared, zd_NotUndeclared, za_NotUndeclared, ocn, oct, zm_NotUndeclared⟩, kt_NotUndeclared_BadGoal⟩
    · exact ⟨C_TooLong, aC_TooLong, ⟨zg_TooLong, zk_TooLong, zs_TooLong, zd_TooLong, za_TooLong, ocn, oct, zm_TooLong⟩, kt_TooLong_BadGoal⟩
    · exact ⟨C_Stuck, aC_Stuck, ⟨zg_Stuck, zk_Stuck, zs_Stuck, zd_Stuck, za_Stuck, ocn, oct, zm_Stuck⟩, kt_Stuck_BadGoal⟩
    · exact ⟨C_NothingThere, aC_NothingThere, ⟨zg_NothingThere, zk_NothingThere, zs_NothingThere, zd_NothingThere, za_NothingThere, ocn, oct, zm_NothingThere⟩, kt_NothingThere_BadGoal⟩
    · exact ⟨C_NoName, aC_NoName, ⟨zg_NoName, zk_NoName, zs_NoName, zd_NoName, za_NoName, ocn, oct, zm_NoName⟩, kt_NoName_BadGoal⟩
    · exact ⟨C_InvalidText, aC_InvalidText, ⟨zg_InvalidText, zk_InvalidText, zs_InvalidText, zd_InvalidText, za_InvalidText, ocn, oct, zm_InvalidText⟩, kt_InvalidText_BadGoal⟩
    · exact ⟨C_InvalidCommand, aC_InvalidCommand, ⟨zg_InvalidCommand, zk_InvalidCommand, zs_InvalidCommand, zd_InvalidCommand, za_InvalidCommand, ocn, oct, zm_InvalidCommand⟩, kt_InvalidCommand_BadGoal⟩
    · exact ⟨C_NoGoal, aC_NoGoal, ⟨zg_NoGoal, zk_NoGoal, zs_NoGoal, zd_NoGoal, za_NoGoal, ocn, oct, zm_NoGoal⟩, kt_NoGoal_BadGoal⟩
  have I_BadLibrary : IsxH K ["GapError", "BadLibrary", "Clash", "BadGoal", "BadToken", "NotBuildable", "NotOpen", "NotUndeclared", "TooLong", "Stuck", "NothingThere", "NoName", "InvalidText", "InvalidCommand", "NoGoal"] "BadLibrary" C_BadLibrary := isx_of aC_BadLibrary fun n hn => by
    simp only [List.mem_cons, List.not_mem_nil, or_false] at hn
    rcases hn with rfl | rfl | rfl | rfl | rfl | rfl | rfl | rfl | rfl | rfl | rfl | rfl | rfl | rfl | rfl
    · exact ⟨C_GapError, aC_GapError, ⟨zg_GapError, zk_GapError, zs_GapError, zd_GapError, za_GapError, ocn, oct, zm_GapError⟩, kt_GapError_BadLibrary⟩
    · exact ⟨C_BadLibrary, aC_BadLibrary, ⟨zg_BadLibrary, zk_BadLibrary, zs_BadLibrary, zd_BadLibrary, za_BadLibrary, ocn, oct, zm_BadLibrary⟩, kt_BadLibrary_BadLibrary⟩
    · exact ⟨C_Clash, aC_Clash, ⟨zg_Clash, zk_Clash, zs_Clash, zd_Clash, za_Clash, ocn, oct, zm_Clash⟩, kt_Clash_BadLibrary⟩
    · exact ⟨C_BadGoal, aC_BadGoal, ⟨zg_BadGoal, zk_BadGoal, zs_BadGoal, zd_BadGoal, za_BadGoal, ocn, oct, zm_BadGoal⟩, kt_BadGoal_BadLibrary⟩
    · exact ⟨C_BadToken, aC_BadToken, ⟨zg_BadToken, zk_BadToken, zs_BadToken, zd_BadToken, za_BadToken, ocn, oct, zm_BadToken⟩, kt_BadToken_BadLibrary⟩
    · exact ⟨C_NotBuildable, aC_NotBuildable, ⟨zg_NotBuildable, zk_NotBuildable, zs_NotBuildable, zd_NotBuildable, za_NotBuildable, ocn, oct, zm_NotBuildable⟩, kt_NotBuildable_BadLibrary⟩
    · exact ⟨C_NotOpen, aC_NotOpen, ⟨zg_NotOpen, zk_NotOpen, zs_NotOpen, zd_NotOpen, za_NotOpen, ocn, oct, zm_NotOpen⟩, kt_NotOpen_BadLibrary⟩
    · exact ⟨C_NotUndeclared, aC_NotUndeclared, ⟨zg_NotUndeclared, zk_NotUndeclared, zs_NotUndeclared, zd_NotUndeclared, za_NotUndeclared, ocn, oct, zm_NotUndeclared⟩, kt_NotUndeclared_BadLibrary⟩
    · exact ⟨C_TooLong, aC_TooLong, ⟨zg_TooLong, zk_TooLong, zs_TooLong, zd_TooLong, za_TooLong, ocn, oct, zm_TooLong⟩, kt_TooLong_BadLibrary⟩
    · exact ⟨C_Stuck, aC_Stuck, ⟨zg_Stuck, zk_Stuck, zs_Stuck, zd_Stuck, za_Stuck, ocn, oct, zm_Stuck⟩, kt_Stuck_BadLibrary⟩
    · exact ⟨C_NothingThere, aC_NothingThere, ⟨zg_NothingThere, zk_NothingThere, zs_NothingThere, zd_NothingThere, za_NothingThere, ocn, oct, zm_NothingThere⟩, kt_NothingThere_BadLibrary⟩
    · exact ⟨C_NoName, aC_NoName, ⟨zg_NoName, zk_NoName, zs_NoName, zd_NoName, za_NoName, ocn, oct, zm_NoName⟩, kt_NoName_BadLibrary⟩
    · exact ⟨C_InvalidText, aC_InvalidText, ⟨zg_InvalidText, zk_InvalidText, zs_InvalidText, zd_InvalidText, za_InvalidText, ocn, oct, zm_InvalidText⟩, kt_InvalidText_BadLibrary⟩
    · exact ⟨C_InvalidCommand, aC_InvalidCommand, ⟨zg_InvalidCommand, zk_InvalidCommand, zs_InvalidCommand, zd_InvalidCommand, za_InvalidCommand, ocn, oct, zm_InvalidCommand⟩, kt_InvalidCommand_BadLibrary⟩
    · exact ⟨C_NoGoal, aC_NoGoal, ⟨zg_NoGoal, zk_NoGoal, zs_NoGoal, zd_NoGoal, za_NoGoal, ocn, oct, zm_NoGoal⟩, kt_NoGoal_BadLibrary⟩
  have I_BadToken : IsxH K ["GapError", "BadLibrary", "Clash", "BadGoal", "BadToken", "NotBuildable", "NotOpen", "NotUndeclared", "TooLong", "Stuck", "NothingThere", "NoName", "InvalidText", "InvalidCommand", "NoGoal"] "BadToken" C_BadToken := isx_of aC_BadToken fun n hn => by
    simp only [List.mem_cons, List.not_mem_nil, or_false] at hn
    rcases hn with rfl | rfl | rfl | rfl | rfl | rfl | rfl | rfl | rfl | rfl | rfl | rfl | rfl | rfl | rfl
    · exact ⟨C_GapError, aC_GapError, ⟨zg_GapError, zk_GapError, zs_GapError, zd_GapError, za_GapError, ocn, oct, zm_GapError⟩, kt_GapError_BadToken⟩
    · exact ⟨C_BadLibrary, aC_BadLibrary, ⟨zg_BadLibrary, zk_BadLibrary, zs_BadLibrary, zd_BadLibrary, za_BadLibrary, ocn, oct, zm_BadLibrary⟩, kt_BadLibrary_BadToken⟩
    · exact ⟨C_Clash, aC_Clash, ⟨zg_Clash, zk_Clash, zs_Clash, zd_Clash, za_Clash, ocn, oct, zm_Clash⟩, kt_Clash_BadToken⟩
    · exact ⟨C_BadGoal, aC_BadGoal, ⟨zg_BadGoal, zk_BadGoal, zs_BadGoal, zd_BadGoal, za_BadGoal, ocn, oct, zm_BadGoal⟩, kt_BadGoal_BadToken⟩
    · exact ⟨C_BadToken, aC_BadToken, ⟨zg_BadToken, zk_BadToken, zs_BadToken, zd_BadToken, za_BadToken, ocn, oct, zm_BadToken⟩, kt_BadToken_BadToken⟩
    · exact ⟨C_NotBuildable, aC_NotBuildable, ⟨zg_NotBuildable, zk_NotBuildable, zs_NotBuildable, zd_NotBuildable, za_NotBuildable, ocn, oct, zm_NotBuildable⟩, kt_NotBuildable_BadToken⟩
    · exact ⟨C_NotOpen, aC_NotOpen, ⟨zg_NotOpen, zk_NotOpen, zs_NotOpen, zd_NotOpen, za_NotOpen, ocn, oct, zm_NotOpen⟩, kt_NotOpen_BadToken⟩
    · exact ⟨C_NotUndeclared, aC_NotUndeclared, ⟨zg_NotUndeclared, zk_NotUndeclared, zs_NotUndeclared, zd_NotUndeclared, za_NotUndeclared, ocn, oct, zm_NotUndeclared⟩, kt_NotUndeclared_BadToken⟩
    · exact ⟨C_TooLong, aC_TooLong, ⟨zg_TooLong, zk_TooLong, zs_TooLong, zd_TooLong, za_TooLong, ocn, oct, zm_TooLong⟩, kt_TooLong_BadToken⟩
    · exact ⟨C_Stuck, aC_Stuck, ⟨zg_Stuck, zk_Stuck, zs_Stuck, zd_Stuck, za_Stuck, ocn, oct, zm_Stuck⟩, kt_Stuck_BadToken⟩
    · exact ⟨C_NothingThere, aC_NothingThere, ⟨zg_NothingThere, zk_NothingThere, zs_NothingThere, zd_NothingThere, za_NothingThere, ocn, oct, zm_NothingThere⟩, kt_NothingThere_BadToken⟩
    · exact ⟨C_NoName, aC_NoName, ⟨zg_NoName, zk_NoName, zs_NoName, zd_NoName, za_NoName, ocn, oct, zm_NoName⟩, kt_NoName_BadToken⟩
    · exact ⟨C_InvalidText, aC_InvalidText, ⟨zg_InvalidText, zk_InvalidText, zs_InvalidText, zd_InvalidText, za_InvalidText, ocn, oct, zm_InvalidText⟩, kt_InvalidText_BadToken⟩
    · exact ⟨C_InvalidCommand, aC_InvalidCommand, ⟨zg_InvalidCommand, zk_InvalidCommand, zs_InvalidCommand, zd_InvalidCommand, za_InvalidCommand, ocn, oct, zm_InvalidCommand⟩, kt_InvalidCommand_BadToken⟩
    · exact ⟨C_NoGoal, aC_NoGoal, ⟨zg_NoGoal, zk_NoGoal, zs_NoGoal, zd_NoGoal, za_NoGoal, ocn, oct, zm_NoGoal⟩, kt_NoGoal_BadToken⟩
  have I_Clash : IsxH K ["GapError", "BadLibrary", "Clash", "BadGoal", "BadToken", "NotBuildable", "NotOpen", "NotUndeclared", "TooLong", "Stuck", "NothingThere", "NoName", "InvalidText", "InvalidCommand", "NoGoal"] "Clash" C_Clash := isx_of aC_Clash fun n hn => by
    simp only [List.mem_cons, List.not_mem_nil, or_false] at hn
    rcases hn with rfl | rfl | rfl | rfl | rfl | rfl | rfl | rfl | rfl | rfl | rfl | rfl | rfl | rfl | rfl
    · exact ⟨C_GapError, aC_GapError, ⟨zg_GapError, zk_GapError, zs_GapError, zd_GapError, za_GapError, ocn, oct, zm_GapError⟩, kt_GapError_Clash⟩
    · exact ⟨C_BadLibrary, aC_BadLibrary, ⟨zg_BadLibrary, zk_BadLibrary, zs_BadLibrary, zd_BadLibrary, za_BadLibrary, ocn, oct, zm_BadLibrary⟩, kt_BadLibrary_Clash⟩
    · exact ⟨C_Clash, aC_Clash, ⟨zg_Clash, zk_Clash, zs_Clash, zd_Clash, za_Clash, ocn, oct, zm_Clash⟩, kt_Clash_Clash⟩
    · exact ⟨C_BadGoal, aC_BadGoal, ⟨zg_BadGoal, zk_BadGoal, zs_BadGoal, zd_BadGoal, za_BadGoal, ocn, oct, zm_BadGoal⟩, kt_BadGoal_Clash⟩
    · exact ⟨C_BadToken, aC_BadToken, ⟨zg_BadToken, zk_BadToken, zs_BadToken, zd_BadToken, za_BadToken, ocn, oct, zm_BadToken⟩, kt_BadToken_Clash⟩
    · exact ⟨C_NotBuildable, aC_NotBuildable, ⟨zg_NotBuildable, zk_NotBuildable, zs_NotBuildable, zd_NotBuildable, za_NotBuildable, ocn, oct, zm_NotBuildable⟩, kt_NotBuildable_Clash⟩
    · exact ⟨C_NotOpen, aC_NotOpen, ⟨zg_NotOpen, zk_NotOpen, zs_NotOpen, zd_NotOpen, za_NotOpen, ocn, oct, zm_NotOpen⟩, kt_NotOpen_Clash⟩
    · exact ⟨C_NotUndeclared, aC_NotUndeclared, ⟨zg_NotUndeclared, zk_NotUndeclared, zs_NotUndeclared, zd_NotUndeclared, za_NotUndeclared, ocn, oct, zm_NotUndeclared⟩, kt_NotUndeclared_Clash⟩
    · exact ⟨C_TooLong, aC_TooLong, ⟨zg_TooLong, zk_TooLong, zs_TooLong, zd_TooLong, za_TooLong, ocn, oct, zm_TooLong⟩, kt_TooLong_Clash⟩
    · exact ⟨C_Stuck, aC_Stuck, ⟨zg_Stuck, zk_Stuck, zs_Stuck, zd_Stuck, za_Stuck, ocn, oct, zm_Stuck⟩, kt_Stuck_Clash⟩
    · exact ⟨C_NothingThere, aC_NothingThere, ⟨zg_NothingThere, zk_NothingThere, zs_NothingThere, zd_NothingThere, za_NothingThere, ocn, oct, zm_NothingThere⟩, kt_NothingThere_Clash⟩
    · exact ⟨C_NoName, aC_NoName, ⟨zg_NoName, zk_NoName, zs_NoName, zd_NoName, za_NoName, ocn, oct, zm_NoName⟩, kt_NoName_Clash⟩
    · exact ⟨C_InvalidText, aC_InvalidText, ⟨zg_InvalidText, zk_InvalidText, zs_InvalidText, zd_InvalidText, za_InvalidText, ocn, oct, zm_InvalidText⟩, kt_InvalidText_Clash⟩
    · exact ⟨C_InvalidCommand, aC_InvalidCommand, ⟨zg_InvalidCommand, zk_InvalidCommand, zs_InvalidCommand, zd_InvalidCommand, za_InvalidCommand, ocn, oct, zm_InvalidCommand⟩, kt_InvalidCommand_Clash⟩
    · exact ⟨C_NoGoal, aC_NoGoal, ⟨zg_NoGoal, zk_NoGoal, zs_NoGoal, zd_NoGoal, za_NoGoal, ocn, oct, zm_NoGoal⟩, kt_NoGoal_Clash⟩
  have I_GapError : IsxH K ["GapError", "BadLibrary", "Clash", "BadGoal", "BadToken", "NotBuildable", "NotOpen", "NotUndeclared", "TooLong", "Stuck", "NothingThere", "NoName", "InvalidText", "InvalidCommand", "NoGoal"] "GapError" C_GapError := isx_of aC_GapError fun n hn => by
    simp only [List.mem_cons, List.not_mem_nil, or_false] at hn
    rcases hn with rfl | rfl | rfl | rfl | rfl | rfl | rfl | rfl | rfl | rfl | rfl | rfl | rfl | rfl | rfl
    · exact ⟨C_GapError, aC_GapError, ⟨zg_GapError, zk_GapError, zs_GapError, zd_GapError, za_GapError, ocn, oct, zm_GapError⟩, kt_GapError_GapError⟩
    · exact ⟨C_BadLibrary, aC_BadLibrary, ⟨zg_BadLibrary, zk_BadLibrary, zs_BadLibrary, zd_BadLibrary, za_BadLibrary, ocn, oct, zm_BadLibrary⟩, kt_BadLibrary_GapError⟩
    · exact ⟨C_Clash, aC_Clash, ⟨zg_Clash, zk_Clash, zs_Clash, zd_Clash, za_Clash, ocn, oct, zm_Clash⟩, kt_Clash_GapError⟩
    · exact ⟨C_BadGoal, aC_BadGoal, ⟨zg_BadGoal, zk_BadGoal, zs_BadGoal, zd_BadGoal, za_BadGoal, ocn, oct, zm_BadGoal⟩, kt_BadGoal_GapError⟩
    · exact ⟨C_BadToken, aC_BadToken, ⟨zg_BadToken, zk_BadToken, zs_BadToken, zd_BadToken, za_BadToken, ocn, oct, zm_BadToken⟩, kt_BadToken_GapError⟩
    · exact ⟨C_NotBuildable, aC_NotBuildable, ⟨zg_NotBuildable, zk_NotBuildable, zs_NotBuildable, zd_NotBuildable, za_NotBuildable, ocn, oct, zm_NotBuildable⟩, kt_NotBuildable_GapError⟩
    · exact ⟨C_NotOpen, aC_NotOpen, ⟨zg_NotOpen, zk_NotOpen, zs_NotOpen, zd_NotOpen, za_NotOpen, ocn, oct, zm_NotOpen⟩, kt_NotOpen_GapError⟩
    · exact ⟨C_NotUndeclared, aC_NotUndeclared, ⟨zg_NotUndeclared, zk_NotUndeclared, zs_NotUndeclared, zd_NotUndeclared, za_NotUndeclared, ocn, oct, zm_NotUndeclared⟩, kt_NotUndeclared_GapError⟩
    · exact ⟨C_TooLong, aC_TooLong, ⟨zg_TooLong, zk_TooLong, zs_TooLong, zd_TooLong, za_TooLong, ocn, oct, zm_TooLong⟩, kt_TooLong_GapError⟩
    · exact ⟨C_Stuck, aC_Stuck, ⟨zg_Stuck, zk_Stuck, zs_Stuck, zd_Stuck, za_Stuck, ocn, oct, zm_Stuck⟩, kt_Stuck_GapError⟩
    · exact ⟨C_NothingThere, aC_NothingThere, ⟨zg_NothingThere, zk_NothingThere, zs_NothingThere, zd_NothingThere, za_NothingThere, ocn, oct, zm_NothingThere⟩, kt_NothingThere_GapError⟩
    · exact ⟨C_NoName, aC_NoName, ⟨zg_NoName, zk_NoName, zs_NoName, zd_NoName, za_NoName, ocn, oct, zm_NoName⟩, kt_NoName_GapError⟩
    · exact ⟨C_InvalidText, aC_InvalidText, ⟨zg_InvalidText, zk_InvalidText, zs_InvalidText, zd_InvalidText, za_InvalidText, ocn, oct, zm_InvalidText⟩, kt_InvalidText_GapError⟩
    · exact ⟨C_InvalidCommand, aC_InvalidCommand, ⟨zg_InvalidCommand, zk_InvalidCommand, zs_InvalidCommand, zd_InvalidCommand, za_InvalidCommand, ocn, oct, zm_InvalidCommand⟩, kt_InvalidCommand_GapError⟩
    · exact ⟨C_NoGoal, aC_NoGoal, ⟨zg_NoGoal, zk_NoGoal, zs_NoGoal, zd_NoGoal, za_NoGoal, ocn, oct, zm_NoGoal⟩, kt_NoGoal_GapError⟩
  have I_InvalidCommand : IsxH K ["GapError", "BadLibrary", "Clash", "BadGoal", "BadToken", "NotBuildable", "NotOpen", "NotUndeclared", "TooLong", "Stuck", "NothingThere", "NoName", "InvalidText", "InvalidCommand", "NoGoal"] "InvalidCommand" C_InvalidCommand := isx_of aC_InvalidCommand fun n hn => by
    simp only [List.mem_cons, List.not_mem_nil, or_false] at hn
    rcases hn with rfl | rfl | rfl | rfl | rfl | rfl | rfl | rfl | rfl | rfl | rfl | rfl | rfl | rfl | rfl
    · exact ⟨C_GapError, aC_GapError, ⟨zg_GapError, zk_GapError, zs_GapError, zd_GapError, za_GapError, ocn, oct, zm_GapError⟩, kt_GapError_InvalidCommand⟩
    · exact ⟨C_BadLibrary, aC_BadLibrary, ⟨zg_BadLibrary, zk_BadLibrary, zs_BadLibrary, zd_BadLibrary, za_BadLibrary, ocn, oct, zm_BadLibrary⟩, kt_BadLibrary_InvalidCommand⟩
    · exact ⟨C_Clash, aC_Clash, ⟨zg_Clash, zk_Clash, zs_Clash, zd_Clash, za_Clash, ocn, oct, zm_Clash⟩, kt_Clash_InvalidCommand⟩
    · exact ⟨C_BadGoal, aC_BadGoal, ⟨zg_BadGoal, zk_BadGoal, zs_BadGoal, zd_BadGoal, za_BadGoal, ocn, oct, zm_BadGoal⟩, kt_BadGoal_InvalidCommand⟩
    · exact ⟨C_BadToken, aC_BadToken, ⟨zg_BadToken, zk_BadToken, zs_BadToken, zd_BadToken, za_BadToken, ocn, oct, zm_BadToken⟩, kt_BadToken_InvalidCommand⟩
    · exact ⟨C_NotBuildable, aC_NotBuildable, ⟨zg_NotBuildable, zk_NotBuildable, zs_NotBuildable, zd_NotBuildable, za_NotBuildable, ocn, oct, zm_NotBuildable⟩, kt_NotBuildable_InvalidCommand⟩
    · exact ⟨C_NotOpen, aC_NotOpen, ⟨zg_NotOpen, zk_NotOpen, zs_NotOpen, zd_NotOpen, za_NotOpen, ocn, oct, zm_NotOpen⟩, kt_NotOpen_InvalidCommand⟩
    · exact ⟨C_NotUndeclared, aC_NotUndeclared, ⟨zg_NotUndeclared, zk_NotUndeclared, zs_NotUndeclared, zd_NotUndeclared, za_NotUndeclared, ocn, oct, zm_NotUndeclared⟩, kt_NotUndeclared_InvalidCommand⟩
    · exact ⟨C_TooLong, aC_TooLong, ⟨zg_TooLong, zk_TooLong, zs_TooLong, zd_TooLong, za_TooLong, ocn, oct, zm_TooLong⟩, kt_TooLong_InvalidCommand⟩
    · exact ⟨C_Stuck, aC_Stuck, ⟨zg_Stuck, zk_Stuck, zs_Stuck, zd_Stuck, za_Stuck, ocn, oct, zm_Stuck⟩, kt_Stuck_InvalidCommand⟩
    · exact ⟨C_NothingThere, aC_NothingThere, ⟨zg_NothingThere, zk_NothingThere, zs_NothingThere, zd_NothingThere, za_NothingThere, ocn, oct, zm_NothingThere⟩, kt_NothingThere_InvalidCommand⟩
    · exact ⟨C_NoName, aC_NoName, ⟨zg_NoName, zk_NoName, zs_NoName, zd_NoName, za_NoName, ocn, oct, zm_NoName⟩, kt_NoName_InvalidCommand⟩
    · exact ⟨C_InvalidText, aC_InvalidText, ⟨zg_InvalidText, zk_InvalidText, zs_InvalidText, zd_InvalidText, za_InvalidText, ocn, oct, zm_InvalidText⟩, kt_InvalidText_InvalidCommand⟩
    · exact ⟨C_InvalidCommand, aC_InvalidCommand, ⟨zg_InvalidCommand, zk_InvalidCommand, zs_InvalidCommand, zd_InvalidCommand, za_InvalidCommand, ocn, oct, zm_InvalidCommand⟩, kt_InvalidCommand_InvalidCommand⟩
    · exact ⟨C_NoGoal, aC_NoGoal, ⟨zg_NoGoal, zk_NoGoal, zs_NoGoal, zd_NoGoal, za_NoGoal, ocn, oct, zm_NoGoal⟩, kt_NoGoal_InvalidCommand⟩
  have I_InvalidText : IsxH K ["GapError", "BadLibrary", "Clash", "BadGoal", "BadToken", "NotBuildable", "NotOpen", "NotUndeclared", "TooLong", "Stuck", "NothingThere", "NoName", "InvalidText", "InvalidCommand", "NoGoal"] "InvalidText" C_InvalidText := isx_of aC_InvalidText fun n hn => by
    simp only [List.mem_cons, List.not_mem_nil, or_false] at hn
    rcases hn with rfl | rfl | rfl | rfl | rfl | rfl | rfl | rfl | rfl | rfl | rfl | rfl | rfl | rfl | rfl
    · exact ⟨C_GapError, aC_GapError, ⟨zg_GapError, zk_GapError, zs_GapError, zd_GapError, za_GapError, ocn, oct, zm_GapError⟩, kt_GapError_InvalidText⟩
    · exact ⟨C_BadLibrary, aC_BadLibrary, ⟨zg_BadLibrary, zk_BadLibrary, zs_BadLibrary, zd_BadLibrary, za_BadLibrary, ocn, oct, zm_BadLibrary⟩, kt_BadLibrary_InvalidText⟩
    · exact ⟨C_Clash, aC_Clash, ⟨zg_Clash, zk_Clash, zs_Clash, zd_Clash, za_Clash, ocn, oct, zm_Clash⟩, kt_Clash_InvalidText⟩
    · exact ⟨C_BadGoal, aC_BadGoal, ⟨zg_BadGoal, zk_BadGoal, zs_BadGoal, zd_BadGoal, za_BadGoal, ocn, oct, zm_BadGoal⟩, kt_BadGoal_InvalidText⟩
    · exact ⟨C_BadToken, aC_BadToken, ⟨zg_BadToken, zk_BadToken, zs_BadToken, zd_BadToken, za_BadToken, ocn, oct, zm_BadToken⟩, kt_BadToken_InvalidText⟩
    · exact ⟨C_NotBuildable, aC_NotBuildable, ⟨zg_NotBuildable, zk_NotBuildable, zs_NotBuildable, zd_NotBuildable, za_NotBuildable, ocn, oct, zm_NotBuildable⟩, kt_NotBuildable_InvalidText⟩
    · exact ⟨C_NotOpen, aC_NotOpen, ⟨zg_NotOpen, zk_NotOpen, zs_NotOpen, zd_NotOpen, za_NotOpen, ocn, oct, zm_NotOpen⟩, kt_NotOpen_InvalidText⟩
    · exact ⟨C_NotUndeclared, aC_NotUndeclared, ⟨zg_NotUndeclared, zk_NotUndeclared, zs_NotUndeclared, zd_NotUndeclared, za_NotUndeclared, ocn, oct, zm_NotUndeclared⟩, kt_NotUndeclared_InvalidText⟩
    · exact ⟨C_TooLong, aC_TooLong, ⟨zg_TooLong, zk_TooLong, zs_TooLong, zd_TooLong, za_TooLong, ocn, oct, zm_TooLong⟩, kt_TooLong_InvalidText⟩
    · exact ⟨C_Stuck, aC_Stuck, ⟨zg_Stuck, zk_Stuck, zs_Stuck, zd_Stuck, za_Stuck, ocn, oct, zm_Stuck⟩, kt_Stuck_InvalidText⟩
    · exact ⟨C_NothingThere, aC_NothingThere, ⟨zg_NothingThere, zk_NothingThere, zs_NothingThere, zd_NothingThere, za_NothingThere, ocn, oct, zm_NothingThere⟩, kt_NothingThere_InvalidText⟩
    · exact ⟨C_NoName, aC_NoName, ⟨zg_NoName, zk_NoName, zs_NoName, zd_NoName, za_NoName, ocn, oct, zm_NoName⟩, kt_NoName_InvalidText⟩
    · exact ⟨C_InvalidText, aC_InvalidText, ⟨zg_InvalidText, zk_InvalidText, zs_InvalidText, zd_InvalidText, za_InvalidText, ocn, oct, zm_InvalidText⟩, kt_InvalidText_InvalidText⟩
    · exact ⟨C_InvalidCommand, aC_InvalidCommand, ⟨zg_InvalidCommand, zk_InvalidCommand, zs_InvalidCommand, zd_InvalidCommand, za_InvalidCommand, ocn, oct, zm_InvalidCommand⟩, kt_InvalidCommand_InvalidText⟩
    · exact ⟨C_NoGoal, aC_NoGoal, ⟨zg_NoGoal, zk_NoGoal, zs_NoGoal, zd_NoGoal, za_NoGoal, ocn, oct, zm_NoGoal⟩, kt_NoGoal_InvalidText⟩
  have I_NoGoal : IsxH K ["GapError", "BadLibrary", "Clash", "BadGoal", "BadToken", "NotBuildable", "NotOpen", "NotUndeclared", "TooLong", "Stuck", "NothingThere", "NoName", "InvalidText", "InvalidCommand", "NoGoal"] "NoGoal" C_NoGoal := isx_of aC_NoGoal fun n hn => by
    simp only [List.mem_cons, List.not_mem_nil, or_false] at hn
    rcases hn with rfl | rfl | rfl | rfl | rfl | rfl | rfl | rfl | rfl | rfl | rfl | rfl | rfl | rfl | rfl
    · exact ⟨C_GapError, aC_GapError, ⟨zg_GapError, zk_GapError, zs_GapError, zd_GapError, za_GapError, ocn, oct, zm_GapError⟩, kt_GapError_NoGoal⟩
    · exact ⟨C_BadLibrary, aC_BadLibrary, ⟨zg_BadLibrary, zk_BadLibrary, zs_BadLibrary, zd_BadLibrary, za_BadLibrary, ocn, oct, zm_BadLibrary⟩, kt_BadLibrary_NoGoal⟩
    · exact ⟨C_Clash, aC_Clash, ⟨zg_Clash, zk_Clash, zs_Clash, zd_Clash, za_Clash, ocn, oct, zm_Clash⟩, kt_Clash_NoGoal⟩
    · exact ⟨C_BadGoal, aC_BadGoal, ⟨zg_BadGoal, zk_BadGoal, zs_BadGoal, zd_BadGoal, za_BadGoal, ocn, oct, zm_BadGoal⟩, kt_BadGoal_NoGoal⟩
    · exact ⟨C_BadToken, aC_BadToken, ⟨zg_BadToken, zk_BadToken, zs_BadToken, zd_BadToken, za_BadToken, ocn, oct, zm_BadToken⟩, kt_BadToken_NoGoal⟩
    · exact ⟨C_NotBuildable, aC_NotBuildable, ⟨zg_NotBuildable, zk_NotBuildable, zs_NotBuildable, zd_NotBuildable, za_NotBuildable, ocn, oct, zm_NotBuildable⟩, kt_NotBuildable_NoGoal⟩
    · exact ⟨C_NotOpen, aC_NotOpen, ⟨zg_NotOpen, zk_NotOpen, zs_NotOpen, zd_NotOpen, za_NotOpen, ocn, oct, zm_NotOpen⟩, kt_NotOpen_NoGoal⟩
    · exact ⟨C_NotUndeclared, aC_NotUndeclared, ⟨zg_NotUndeclared, zk_NotUndeclared, zs_NotUndeclared, zd_NotUndeclared, za_NotUndeclared, ocn, oct, zm_NotUndeclared⟩, kt_NotUndeclared_NoGoal⟩
    · exact ⟨C_TooLong, aC_TooLong, ⟨zg_TooLong, zk_TooLong, zs_TooLong, zd_TooLong, za_TooLong, ocn, oct, zm_TooLong⟩, kt_TooLong_NoGoal⟩
    · exact ⟨C_Stuck, aC_Stuck, ⟨zg_Stuck, zk_Stuck, zs_Stuck, zd_Stuck, za_Stuck, ocn, oct, zm_Stuck⟩, kt_Stuck_NoGoal⟩
    · exact ⟨C_NothingThere, aC_NothingThere, ⟨zg_NothingThere, zk_NothingThere, zs_NothingThere, zd_NothingThere, za_NothingThere, ocn, oct, zm_NothingThere⟩, kt_NothingThere_NoGoal⟩
    · exact ⟨C_NoName, aC_NoName, ⟨zg_NoName, zk_NoName, zs_NoName, zd_NoName, za_NoName, ocn, oct, zm_NoName⟩, kt_NoName_NoGoal⟩
    · exact ⟨C_InvalidText, aC_InvalidText, ⟨zg_InvalidText, zk_InvalidText, zs_InvalidText, zd_InvalidText, za_InvalidText, ocn, oct, zm_InvalidText⟩, kt_InvalidText_NoGoal⟩
    · exact ⟨C_InvalidCommand, aC_InvalidCommand, ⟨zg_InvalidCommand, zk_InvalidCommand, zs_InvalidCommand, zd_InvalidCommand, za_InvalidCommand, ocn, oct, zm_InvalidCommand⟩, kt_InvalidCommand_NoGoal⟩
    · exact ⟨C_NoGoal, aC_NoGoal, ⟨zg_NoGoal, zk_NoGoal, zs_NoGoal, zd_NoGoal, za_NoGoal, ocn, oct, zm_NoGoal⟩, kt_NoGoal_NoGoal⟩
  have I_NoName : IsxH K ["GapError", "BadLibrary", "Clash", "BadGoal", "BadToken", "NotBuildable", "NotOpen", "NotUndeclared", "TooLong", "Stuck", "NothingThere", "NoName", "InvalidText", "InvalidCommand", "NoGoal"] "NoName" C_NoName := isx_of aC_NoName fun n hn => by
    simp only [List.mem_cons, List.not_mem_nil, or_false] at hn
    rcases hn with rfl | rfl | rfl | rfl | rfl | rfl | rfl | rfl | rfl | rfl | rfl | rfl | rfl | rfl | rfl
    · exact ⟨C_GapError, aC_GapError, ⟨zg_GapError, zk_GapError, zs_GapError, zd_GapError, za_GapError, ocn, oct, zm_GapError⟩, kt_GapError_NoName⟩
    · exact ⟨C_BadLibrary, aC_BadLibrary, ⟨zg_BadLibrary, zk_BadLibrary, zs_BadLibrary, zd_BadLibrary, za_BadLibrary, ocn, oct, zm_BadLibrary⟩, kt_BadLibrary_NoName⟩
    · exact ⟨C_Clash, aC_Clash, ⟨zg_Clash, zk_Clash, zs_Clash, zd_Clash, za_Clash, ocn, oct, zm_Clash⟩, kt_Clash_NoName⟩
    · exact ⟨C_BadGoal, aC_BadGoal, ⟨zg_BadGoal, zk_BadGoal, zs_BadGoal, zd_BadGoal, za_BadGoal, ocn, oct, zm_BadGoal⟩, kt_BadGoal_NoName⟩
    · exact ⟨C_BadToken, aC_BadToken, ⟨zg_BadToken, zk_BadToken, zs_BadToken, zd_BadToken, za_BadToken, ocn, oct, zm_BadToken⟩, kt_BadToken_NoName⟩
    · exact ⟨C_NotBuildable, aC_NotBuildable, ⟨zg_NotBuildable, zk_NotBuildable, zs_NotBuildable, zd_NotBuildable, za_NotBuildable, ocn, oct, zm_NotBuildable⟩, kt_NotBuildable_NoName⟩
    · exact ⟨C_NotOpen, aC_NotOpen, ⟨zg_NotOpen, zk_NotOpen, zs_NotOpen, zd_NotOpen, za_NotOpen, ocn, oct, zm_NotOpen⟩, kt_NotOpen_NoName⟩
    · exact ⟨C_NotUndeclared, aC_NotUndeclared, ⟨zg_NotUndeclared, zk_NotUndeclared, zs_NotUndeclared, zd_NotUndeclared, za_NotUndeclared, ocn, oct, zm_NotUndeclared⟩, kt_NotUndeclared_NoName⟩
    · exact ⟨C_TooLong, aC_TooLong, ⟨zg_TooLong, zk_TooLong, zs_TooLong, zd_TooLong, za_TooLong, ocn, oct, zm_TooLong⟩, kt_TooLong_NoName⟩
    · exact ⟨C_Stuck, aC_Stuck, ⟨zg_Stuck, zk_Stuck, zs_Stuck, zd_Stuck, za_Stuck, ocn, oct, zm_Stuck⟩, kt_Stuck_NoName⟩
    · exact ⟨C_NothingThere, aC_NothingThere, ⟨zg_NothingThere, zk_NothingThere, zs_NothingThere, zd_NothingThere, za_NothingThere, ocn, oct, zm_NothingThere⟩, kt_NothingThere_NoName⟩
    · exact ⟨C_NoName, aC_NoName, ⟨zg_NoName, zk_NoName, zs_NoName, zd_NoName, za_NoName, ocn, oct, zm_NoName⟩, kt_NoName_NoName⟩
    · exact ⟨C_InvalidText, aC_InvalidText, ⟨zg_InvalidText, zk_InvalidText, zs_InvalidText, zd_InvalidText, za_InvalidText, ocn, oct, zm_InvalidText⟩, kt_InvalidText_NoName⟩
    · exact ⟨C_InvalidCommand, aC_InvalidCommand, ⟨zg_InvalidCommand, zk_InvalidCommand, zs_InvalidCommand, zd_InvalidCommand, za_InvalidCommand, ocn, oct, zm_InvalidCommand⟩, kt_InvalidCommand_NoName⟩
    · exact ⟨C_NoGoal, aC_NoGoal, ⟨zg_NoGoal, zk_NoGoal, zs_NoGoal, zd_NoGoal, za_NoGoal, ocn, oct, zm_NoGoal⟩, kt_NoGoal_NoName⟩
  have I_NotBuildable : IsxH K ["GapError", "BadLibrary", "Clash", "BadGoal", "BadToken", "NotBuildable", "NotOpen", "NotUndeclared", "TooLong", "Stuck", "NothingThere", "NoName", "InvalidText", "InvalidCommand", "NoGoal"] "NotBuildable" C_NotBuildable := isx_of aC_NotBuildable fun n hn => by
    simp only [List.mem_cons, List.not_mem_nil, or_false] at hn
    rcases hn with rfl | rfl | rfl | rfl | rfl | rfl | rfl | rfl | rfl | rfl | rfl | rfl | rfl | rfl | rfl
    · exact ⟨C_GapError, aC_GapError, ⟨zg_GapError, zk_GapError, zs_GapError, zd_GapError, za_GapError, ocn, oct, zm_GapError⟩, kt_GapError_NotBuildable⟩
    · exact ⟨C_BadLibrary, aC_BadLibrary, ⟨zg_BadLibrary, zk_BadLibrary, zs_BadLibrary, zd_BadLibrary, za_BadLibrary, ocn, oct, zm_BadLibrary⟩, kt_BadLibrary_NotBuildable⟩
    · exact ⟨C_Clash, aC_Clash, ⟨zg_Clash, zk_Clash, zs_Clash, zd_Clash, za_Clash, ocn, oct, zm_Clash⟩, kt_Clash_NotBuildable⟩
    · exact ⟨C_BadGoal, aC_BadGoal, ⟨zg_BadGoal, zk_BadGoal, zs_BadGoal, zd_BadGoal, za_BadGoal, ocn, oct, zm_BadGoal⟩, kt_BadGoal_NotBuildable⟩
    · exact ⟨C_BadToken, aC_BadToken, ⟨zg_BadToken, zk_BadToken, zs_BadToken, zd_BadToken, za_BadToken, ocn, oct, zm_BadToken⟩, kt_BadToken_NotBuildable⟩
    · exact ⟨C_NotBuildable, aC_NotBuildable, ⟨zg_NotBuildable, zk_NotBuildable, zs_NotBuildable, zd_NotBuildable, za_NotBuildable, ocn, oct, zm_NotBuildable⟩, kt_NotBuildable_NotBuildable⟩
    · exact ⟨C_NotOpen, aC_NotOpen, ⟨zg_NotOpen, zk_NotOpen, zs_NotOpen, zd_NotOpen, za_NotOpen, ocn, oct, zm_NotOpen⟩, kt_NotOpen_NotBuildable⟩
    · exact ⟨C_NotUndeclared, aC_NotUndeclared, ⟨zg_NotUndeclared, zk_NotUndeclared, zs_NotUndeclared, zd_NotUndeclared, za_NotUndeclared, ocn, oct, zm_NotUndeclared⟩, kt_NotUndeclared_NotBuildable⟩
    · exact ⟨C_TooLong, aC_TooLong, ⟨zg_TooLong, zk_TooLong, zs_TooLong, zd_TooLong, za_TooLong, ocn, oct, zm_TooLong⟩, kt_TooLong_NotBuildable⟩
    · exact ⟨C_Stuck, aC_Stuck, ⟨zg_Stuck, zk_Stuck, zs_Stuck, zd_Stuck, za_Stuck, ocn, oct, zm_Stuck⟩, kt_Stuck_NotBuildable⟩
    · exact ⟨C_NothingThere, aC_NothingThere, ⟨zg_NothingThere, zk_NothingThere, zs_NothingThere, zd_NothingThere, za_NothingThere, ocn, oct, zm_NothingThere⟩, kt_NothingThere_NotBuildable⟩
    · exact ⟨C_NoName, aC_NoName, ⟨zg_NoName, zk_NoName, zs_NoName, zd_NoName, za_NoName, ocn, oct, zm_NoName⟩, kt_NoName_NotBuildable⟩
    · exact ⟨C_InvalidText, aC_InvalidText, ⟨zg_InvalidText, zk_InvalidText, zs_InvalidText, zd_InvalidText, za_InvalidText, ocn, oct, zm_InvalidText⟩, kt_InvalidText_NotBuildable⟩
    · exact ⟨C_InvalidCommand, aC_InvalidCommand, ⟨zg_InvalidCommand, zk_InvalidCommand, zs_InvalidCommand, zd_InvalidCommand, za_InvalidCommand, ocn, oct, zm_InvalidCommand⟩, kt_InvalidCommand_NotBuildable⟩
    · exact ⟨C_NoGoal, aC_NoGoal, ⟨zg_NoGoal, zk_NoGoal, zs_NoGoal, zd_NoGoal, za_NoGoal, ocn, oct, zm_NoGoal⟩, kt_NoGoal_NotBuildable⟩
  have I_NotOpen : IsxH K ["GapError", "BadLibrary", "Clash", "BadGoal", "BadToken", "NotBuildable", "NotOpen", "NotUndeclared", "TooLong", "Stuck", "NothingThere", "NoName", "InvalidText", "InvalidCommand", "NoGoal"] "NotOpen" C_NotOpen := isx_of aC_NotOpen fun n hn => by
    simp only [List.mem_cons, List.not_mem_nil, or_false] at hn
    rcases hn with rfl | rfl | rfl | rfl | rfl | rfl | rfl | rfl | rfl | rfl | rfl | rfl | rfl | rfl | rfl
    · exact ⟨C_GapError, aC_GapError, ⟨zg_GapError, zk_GapError, zs_GapError, zd_GapError, za_GapError, ocn, oct, zm_GapError⟩, kt_GapError_NotOpen⟩
    · exact ⟨C_BadLibrary, aC_BadLibrary, ⟨zg_BadLibrary, zk_BadLibrary, zs_BadLibrary, zd_BadLibrary, za_BadLibrary, ocn, oct, zm_BadLibrary⟩, kt_BadLibrary_NotOpen⟩
    · exact ⟨C_Clash, aC_Clash, ⟨zg_Clash, zk_Clash, zs_Clash, zd_Clash, za_Clash, ocn, oct, zm_Clash⟩, kt_Clash_NotOpen⟩
    · exact ⟨C_BadGoal, aC_BadGoal, ⟨zg_BadGoal, zk_BadGoal, zs_BadGoal, zd_BadGoal, za_BadGoal, ocn, oct, zm_BadGoal⟩, kt_BadGoal_NotOpen⟩
    · exact ⟨C_BadToken, aC_BadToken, ⟨zg_BadToken, zk_BadToken, zs_BadToken, zd_BadToken, za_BadToken, ocn, oct, zm_BadToken⟩, kt_BadToken_NotOpen⟩
    · exact ⟨C_NotBuildable, aC_NotBuildable, ⟨zg_NotBuildable, zk_NotBuildable, zs_NotBuildable, zd_NotBuildable, za_NotBuildable, ocn, oct, zm_NotBuildable⟩, kt_NotBuildable_NotOpen⟩
    · exact ⟨C_NotOpen, aC_NotOpen, ⟨zg_NotOpen, zk_NotOpen, zs_NotOpen, zd_NotOpen, za_NotOpen, ocn, oct, zm_NotOpen⟩, kt_NotOpen_NotOpen⟩
    · exact ⟨C_NotUndeclared, aC_NotUndeclared, ⟨zg_NotUndeclared, zk_NotUndeclared, zs_NotUndeclared, zd_NotUndeclared, za_NotUndeclared, ocn, oct, zm_NotUndeclared⟩, kt_NotUndeclared_NotOpen⟩
    · exact ⟨C_TooLong, aC_TooLong, ⟨zg_TooLong, zk_TooLong, zs_TooLong, zd_TooLong, za_TooLong, ocn, oct, zm_TooLong⟩, kt_TooLong_NotOpen⟩
    · exact ⟨C_Stuck, aC_Stuck, ⟨zg_Stuck, zk_Stuck, zs_Stuck, zd_Stuck, za_Stuck, ocn, oct, zm_Stuck⟩, kt_Stuck_NotOpen⟩
    · exact ⟨C_NothingThere, aC_NothingThere, ⟨zg_NothingThere, zk_NothingThere, zs_NothingThere, zd_NothingThere, za_NothingThere, ocn, oct, zm_NothingThere⟩, kt_NothingThere_NotOpen⟩
    · exact ⟨C_NoName, aC_NoName, ⟨zg_NoName, zk_NoName, zs_NoName, zd_NoName, za_NoName, ocn, oct, zm_NoName⟩, kt_NoName_NotOpen⟩
    · exact ⟨C_InvalidText, aC_InvalidText, ⟨zg_InvalidText, zk_InvalidText, zs_InvalidText, zd_InvalidText, za_InvalidText, ocn, oct, zm_InvalidText⟩, kt_InvalidText_NotOpen⟩
    · exact ⟨C_InvalidCommand, aC_InvalidCommand, ⟨zg_InvalidCommand, zk_InvalidCommand, zs_InvalidCommand, zd_InvalidCommand, za_InvalidCommand, ocn, oct, zm_InvalidCommand⟩, kt_InvalidCommand_NotOpen⟩
    · exact ⟨C_NoGoal, aC_NoGoal, ⟨zg_NoGoal, zk_NoGoal, zs_NoGoal, zd_NoGoal, za_NoGoal, ocn, oct, zm_NoGoal⟩, kt_NoGoal_NotOpen⟩
  have I_NotUndeclared : IsxH K ["GapError", "BadLibrary", "Clash", "BadGoal", "BadToken", "NotBuildable", "NotOpen", "NotUndeclared", "TooLong", "Stuck", "NothingThere", "NoName", "InvalidText", "InvalidCommand", "NoGoal"] "NotUndeclared" C_NotUndeclared := isx_of aC_NotUndeclared fun n hn => by
    simp only [List.mem_cons, List.not_mem_nil, or_false] at hn
    rcases hn with rfl | rfl | rfl | rfl | rfl | rfl | rfl | rfl | rfl | rfl | rfl | rfl | rfl | rfl | rfl
    · exact ⟨C_GapError, aC_GapError, ⟨zg_GapError, zk_GapError, zs_GapError, zd_GapError, za_GapError, ocn, oct, zm_GapError⟩, kt_GapError_NotUndeclared⟩
    · exact ⟨C_BadLibrary, aC_BadLibrary, ⟨zg_BadLibrary, zk_BadLibrary, zs_BadLibrary, zd_BadLibrary, za_BadLibrary, ocn, oct, zm_BadLibrary⟩, kt_BadLibrary_NotUndeclared⟩
    · exact ⟨C_Clash, aC_Clash, ⟨zg_Clash, zk_Clash, zs_Clash, zd_Clash, za_Clash, ocn, oct, zm_Clash⟩, kt_Clash_NotUndeclared⟩
    · exact ⟨C_BadGoal, aC_BadGoal, ⟨zg_BadGoal, zk_BadGoal, zs_BadGoal, zd_BadGoal, za_BadGoal, ocn, oct, zm_BadGoal⟩, kt_BadGoal_NotUndeclared⟩
    · exact ⟨C_BadToken, aC_BadToken, ⟨zg_BadToken, zk_BadToken, zs_BadToken, zd_BadToken, za_BadToken, ocn, oct, zm_BadToken⟩, kt_BadToken_NotUndeclared⟩
    · exact ⟨C_NotBuildable, aC_NotBuildable, ⟨zg_NotBuildable, zk_NotBuildable, zs_NotBuildable, zd_NotBuildable, za_NotBuildable, ocn, oct, zm_NotBuildable⟩, kt_NotBuildable_NotUndeclared⟩
    · exact ⟨C_NotOpen, aC_NotOpen, ⟨zg_NotOpen, zk_NotOpen, zs_NotOpen, zd_NotOpen, za_NotOpen, ocn, oct, zm_NotOpen⟩, kt_NotOpen_NotUndeclared⟩
    · exact ⟨C_NotUndeclared, aC_NotUndeclared, ⟨zg_NotUndeclared, zk_NotUndeclared, zs_NotUndeclared, zd_NotUndeclared, za_NotUndeclared, ocn, oct, zm_NotUndeclared⟩, kt_NotUndeclared_NotUndeclared⟩
    · exact ⟨C_TooLong, aC_TooLong, ⟨zg_TooLong, zk_TooLong, zs_TooLong, zd_TooLong, za_TooLong, ocn, oct, zm_TooLong⟩, kt_TooLong_NotUndeclared⟩
    · exact ⟨C_Stuck, aC_Stuck, ⟨zg_Stuck, zk_Stuck, zs_Stuck, zd_Stuck, za_Stuck, ocn, oct, zm_Stuck⟩, kt_Stuck_NotUndeclared⟩
    · exact ⟨C_NothingThere, aC_NothingThere, ⟨zg_NothingThere, zk_NothingThere, zs_NothingThere, zd_NothingThere, za_NothingThere, ocn, oct, zm_NothingThere⟩, kt_NothingThere_NotUndeclared⟩
    · exact ⟨C_NoName, aC_NoName, ⟨zg_NoName, zk_NoName, zs_NoName, zd_NoName, za_NoName, ocn, oct, zm_NoName⟩, kt_NoName_NotUndeclared⟩
    · exact ⟨C_InvalidText, aC_InvalidText, ⟨zg_InvalidText, zk_InvalidText, zs_InvalidText, zd_InvalidText, za_InvalidText, ocn, oct, zm_InvalidText⟩, kt_InvalidText_NotUndeclared⟩
    · exact ⟨C_InvalidCommand, aC_InvalidCommand, ⟨zg_InvalidCommand, zk_InvalidCommand, zs_InvalidCommand, zd_InvalidCommand, za_InvalidCommand, ocn, oct, zm_InvalidCommand⟩, kt_InvalidCommand_NotUndeclared⟩
    · exact ⟨C_NoGoal, aC_NoGoal, ⟨zg_NoGoal, zk_NoGoal, zs_NoGoal, zd_NoGoal, za_NoGoal, ocn, oct, zm_NoGoal⟩, kt_NoGoal_NotUndeclared⟩
  have I_NothingThere : IsxH K ["GapError", "BadLibrary", "Clash", "BadGoal", "BadToken", "NotBuildable", "NotOpen", "NotUndeclared", "TooLong", "Stuck", "NothingThere", "NoName", "InvalidText", "InvalidCommand", "NoGoal"] "NothingThere" C_NothingThere := isx_of aC_NothingThere fun n hn => by
    simp only [List.mem_cons, List.not_mem_nil, or_false] at hn
    rcases hn with rfl | rfl | rfl | rfl | rfl | rfl | rfl | rfl | rfl | rfl | rfl | rfl | rfl | rfl | rfl
    · exact ⟨C_GapError, aC_GapError, ⟨zg_GapError, zk_GapError, zs_GapError, zd_GapError, za_GapError, ocn, oct, zm_GapError⟩, kt_GapError_NothingThere⟩
    · exact ⟨C_BadLibrary, aC_BadLibrary, ⟨zg_BadLibrary, zk_BadLibrary, zs_BadLibrary, zd_BadLibrary, za_BadLibrary, ocn, oct, zm_BadLibrary⟩, kt_BadLibrary_NothingThere⟩
    · exact ⟨C_Clash, aC_Clash, ⟨zg_Clash, zk_Clash, zs_Clash, zd_Clash, za_Clash, ocn, oct, zm_Clash⟩, kt_Clash_NothingThere⟩
    · exact ⟨C_BadGoal, aC_BadGoal, ⟨zg_BadGoal, zk_BadGoal, zs_BadGoal, zd_BadGoal, za_BadGoal, ocn, oct, zm_BadGoal⟩, kt_BadGoal_NothingThere⟩
    · exact ⟨C_BadToken, aC_BadToken, ⟨zg_BadToken, zk_BadToken, zs_BadToken, zd_BadToken, za_BadToken, ocn, oct, zm_BadToken⟩, kt_BadToken_NothingThere⟩
    · exact ⟨C_NotBuildable, aC_NotBuildable, ⟨zg_NotBuildable, zk_NotBuildable, zs_NotBuildable, zd_NotBuildable, za_NotBuildable, ocn, oct, zm_NotBuildable⟩, kt_NotBuildable_NothingThere⟩
    · exact ⟨C_NotOpen, aC_NotOpen, ⟨zg_NotOpen, zk_NotOpen, zs_NotOpen, zd_NotOpen, za_NotOpen, ocn, oct, zm_NotOpen⟩, kt_NotOpen_NothingThere⟩
    · exact ⟨C_NotUndeclared, aC_NotUndeclared, ⟨zg_NotUndeclared, zk_NotUndeclared, zs_NotUndeclared, zd_NotUndeclared, za_NotUndeclared, ocn, oct, zm_NotUndeclared⟩, kt_NotUndeclared_NothingThere⟩
    · exact ⟨C_TooLong, aC_TooLong, ⟨zg_TooLong, zk_TooLong, zs_TooLong, zd_TooLong, za_TooLong, ocn, oct, zm_TooLong⟩, kt_TooLong_NothingThere⟩
    · exact ⟨C_Stuck, aC_Stuck, ⟨zg_Stuck, zk_Stuck, zs_Stuck, zd_Stuck, za_Stuck, ocn, oct, zm_Stuck⟩, kt_Stuck_NothingThere⟩
    · exact ⟨C_NothingThere, aC_NothingThere, ⟨zg_NothingThere, zk_NothingThere, zs_NothingThere, zd_NothingThere, za_NothingThere, ocn, oct, zm_NothingThere⟩, kt_NothingThere_NothingThere⟩
    · exact ⟨C_NoName, aC_NoName, ⟨zg_NoName, zk_NoName, zs_NoName, zd_NoName, za_NoName, ocn, oct, zm_NoName⟩, kt_NoName_NothingThere⟩
    · exact ⟨C_InvalidText, aC_InvalidText, ⟨zg_InvalidText, zk_InvalidText, zs_InvalidText, zd_InvalidText, za_InvalidText, ocn, oct, zm_InvalidText⟩, kt_InvalidText_NothingThere⟩
    · exact ⟨C_InvalidCommand, aC_InvalidCommand, ⟨zg_InvalidCommand, zk_InvalidCommand, zs_InvalidCommand, zd_InvalidCommand, za_InvalidCommand, ocn, oct, zm_InvalidCommand⟩, kt_InvalidCommand_NothingThere⟩
    · exact ⟨C_NoGoal, aC_NoGoal, ⟨zg_NoGoal, zk_NoGoal, zs_NoGoal, zd_NoGoal, za_NoGoal, ocn, oct, zm_NoGoal⟩, kt_NoGoal_NothingThere⟩
  have I_Stuck : IsxH K ["GapError", "BadLibrary", "Clash", "BadGoal", "BadToken", "NotBuildable", "NotOpen", "NotUndeclared", "TooLong", "Stuck", "NothingThere", "NoName", "InvalidText", "InvalidCommand", "NoGoal"] "Stuck" C_Stuck := isx_of aC_Stuck fun n hn => by
    simp only [List.mem_cons, List.not_mem_nil, or_false] at hn
    rcases hn with rfl | rfl | rfl | rfl | rfl | rfl | rfl | rfl | rfl | rfl | rfl | rfl | rfl | rfl | rfl
    · exact ⟨C_GapError, aC_GapError, ⟨zg_GapError, zk_GapError, zs_GapError, zd_GapError, za_GapError, ocn, oct, zm_GapError⟩, kt_GapError_Stuck⟩
    · exact ⟨C_BadLibrary, aC_BadLibrary, ⟨zg_BadLibrary, zk_BadLibrary, zs_BadLibrary, zd_BadLibrary, za_BadLibrary, ocn, oct, zm_BadLibrary⟩, kt_BadLibrary_Stuck⟩
    · exact ⟨C_Clash, aC_Clash, ⟨zg_Clash, zk_Clash, zs_Clash, zd_Clash, za_Clash, ocn, oct, zm_Clash⟩, kt_Clash_Stuck⟩
    · exact ⟨C_BadGoal, aC_BadGoal, ⟨zg_BadGoal, zk_BadGoal, zs_BadGoal, zd_BadGoal, za_BadGoal, ocn, oct, zm_BadGoal⟩, kt_BadGoal_Stuck⟩
    · exact ⟨C_BadToken, aC_BadToken, ⟨zg_BadToken, zk_BadToken, zs_BadToken, zd_BadToken, za_BadToken, ocn, oct, zm_BadToken⟩, kt_BadToken_Stuck⟩
    · exact ⟨C_NotBuildable, aC_NotBuildable, ⟨zg_NotBuildable, zk_NotBuildable, zs_NotBuildable, zd_NotBuildable, za_NotBuildable, ocn, oct, zm_NotBuildable⟩, kt_NotBuildable_Stuck⟩
    · exact ⟨C_NotOpen, aC_NotOpen, ⟨zg_NotOpen, zk_NotOpen, zs_NotOpen, zd_NotOpen, za_NotOpen, ocn, oct, zm_NotOpen⟩, kt_NotOpen_Stuck⟩
    · exact ⟨C_NotUndeclared, aC_NotUndeclared, ⟨zg_NotUndeclared, zk_NotUndeclared, zs_NotUndeclared, zd_NotUndeclared, za_NotUndeclared, ocn, oct, zm_NotUndeclared⟩, kt_NotUndeclared_Stuck⟩
    · exact ⟨C_TooLong, aC_TooLong, ⟨zg_TooLong, zk_TooLong, zs_TooLong, zd_TooLong, za_TooLong, ocn, oct, zm_TooLong⟩, kt_TooLong_Stuck⟩
    · exact ⟨C_Stuck, aC_Stuck, ⟨zg_Stuck, zk_Stuck, zs_Stuck, zd_Stuck, za_Stuck, ocn, oct, zm_Stuck⟩, kt_Stuck_Stuck⟩
    · exact ⟨C_NothingThere, aC_NothingThere, ⟨zg_NothingThere, zk_NothingThere, zs_NothingThere, zd_NothingThere, za_NothingThere, ocn, oct, zm_NothingThere⟩, kt_NothingThere_Stuck⟩
    · exact ⟨C_NoName, aC_NoName, ⟨zg_NoName, zk_NoName, zs_NoName, zd_NoName, za_NoName, ocn, oct, zm_NoName⟩, kt_NoName_Stuck⟩
    · exact ⟨C_InvalidText, aC_InvalidText, ⟨zg_InvalidText, zk_InvalidText, zs_InvalidText, zd_InvalidText, za_InvalidText, ocn, oct, zm_InvalidText⟩, kt_InvalidText_Stuck⟩
    · exact ⟨C_InvalidCommand, aC_InvalidCommand, ⟨zg_InvalidCommand, zk_InvalidCommand, zs_InvalidCommand, zd_InvalidCommand, za_InvalidCommand, ocn, oct, zm_InvalidCommand⟩, kt_InvalidCommand_Stuck⟩
    · exact ⟨C_NoGoal, aC_NoGoal, ⟨zg_NoGoal, zk_NoGoal, zs_NoGoal, zd_NoGoal, za_NoGoal, ocn, oct, zm_NoGoal⟩, kt_NoGoal_Stuck⟩
  have I_TooLong : IsxH K ["GapError", "BadLibrary", "Clash", "BadGoal", "BadToken", "NotBuildable", "NotOpen", "NotUndeclared", "TooLong", "Stuck", "NothingThere", "NoName", "InvalidText", "InvalidCommand", "NoGoal"] "TooLong" C_TooLong := isx_of aC_TooLong fun n hn => by
    simp only [List.mem_cons, List.not_mem_nil, or_false] at hn
    rcases hn with rfl | rfl | rfl | rfl | rfl | rfl | rfl | rfl | rfl | rfl | rfl | rfl | rfl | rfl | rfl
    · exact ⟨C_GapError, aC_GapError, ⟨zg_GapError, zk_GapError, zs_GapError, zd_GapError, za_GapError, ocn, oct, zm_GapError⟩, kt_GapError_TooLong⟩
    · exact ⟨C_BadLibrary, aC_BadLibrary, ⟨zg_BadLibrary, zk_BadLibrary, zs_BadLibrary, zd_BadLibrary, za_BadLibrary, ocn, oct, zm_BadLibrary⟩, kt_BadLibrary_TooLong⟩
    · exact ⟨C_Clash, aC_Clash, ⟨zg_Clash, zk_Clash, zs_Clash, zd_Clash, za_Clash, ocn, oct, zm_Clash⟩, kt_Clash_TooLong⟩
    · exact ⟨C_BadGoal, aC_BadGoal, ⟨zg_BadGoal, zk_BadGoal, zs_BadGoal, zd_BadGoal, za_BadGoal, ocn, oct, zm_BadGoal⟩, kt_BadGoal_TooLong⟩
    · exact ⟨C_BadToken, aC_BadToken, ⟨zg_BadToken, zk_BadToken, zs_BadToken, zd_BadToken, za_BadToken, ocn, oct, zm_BadToken⟩, kt_BadToken_TooLong⟩
    · exact ⟨C_NotBuildable, aC_NotBuildable, ⟨zg_NotBuildable, zk_NotBuildable, zs_NotBuildable, zd_NotBuildable, za_NotBuildable, ocn, oct, zm_NotBuildable⟩, kt_NotBuildable_TooLong⟩
    · exact ⟨C_NotOpen, aC_NotOpen, ⟨zg_NotOpen, zk_NotOpen, zs_NotOpen, zd_NotOpen, za_NotOpen, ocn, oct, zm_NotOpen⟩, kt_NotOpen_TooLong⟩
    · exact ⟨C_NotUndeclared, aC_NotUndeclared, ⟨zg_NotUndeclared, zk_NotUndeclared, zs_NotUndeclared, zd_NotUndeclared, za_NotUndeclared, ocn, oct, zm_NotUndeclared⟩, kt_NotUndeclared_TooLong⟩
    · exact ⟨C_TooLong, aC_TooLong, ⟨zg_TooLong, zk_TooLong, zs_TooLong, zd_TooLong, za_TooLong, ocn, oct, zm_TooLong⟩, kt_TooLong_TooLong⟩
    · exact ⟨C_Stuck, aC_Stuck, ⟨zg_Stuck, zk_Stuck, zs_Stuck, zd_Stuck, za_Stuck, ocn, oct, zm_Stuck⟩, kt_Stuck_TooLong⟩
    · exact ⟨C_NothingThere, aC_NothingThere, ⟨zg_NothingThere, zk_NothingThere, zs_NothingThere, zd_NothingThere, za_NothingThere, ocn, oct, zm_NothingThere⟩, kt_NothingThere_TooLong⟩
    · exact ⟨C_NoName, aC_NoName, ⟨zg_NoName, zk_NoName, zs_NoName, zd_NoName, za_NoName, ocn, oct, zm_NoName⟩, kt_NoName_TooLong⟩
    · exact ⟨C_InvalidText, aC_InvalidText, ⟨zg_InvalidText, zk_InvalidText, zs_InvalidText, zd_InvalidText, za_InvalidText, ocn, oct, zm_InvalidText⟩, kt_InvalidText_TooLong⟩
    · exact ⟨C_InvalidCommand, aC_InvalidCommand, ⟨zg_InvalidCommand, zk_InvalidCommand, zs_InvalidCommand, zd_InvalidCommand, za_InvalidCommand, ocn, oct, zm_InvalidCommand⟩, kt_InvalidCommand_TooLong⟩
    · exact ⟨C_NoGoal, aC_NoGoal, ⟨zg_NoGoal, zk_NoGoal, zs_NoGoal, zd_NoGoal, za_NoGoal, ocn, oct, zm_NoGoal⟩, kt_NoGoal_TooLong⟩
  have B_Exception : IsbH K ["GapError", "BadLibrary", "Clash", "BadGoal", "BadToken", "NotBuildable", "NotOpen", "NotUndeclared", "TooLong", "Stuck", "NothingThere", "NoName", "InvalidText", "InvalidCommand", "NoGoal"] "Exception" := isb_of fun n hn => by
    simp only [List.mem_cons, List.not_mem_nil, or_false] at hn
    rcases hn with rfl | rfl | rfl | rfl | rfl | rfl | rfl | rfl | rfl | rfl | rfl | rfl | rfl | rfl | rfl
    · exact ⟨C_GapError, aC_GapError, ⟨zg_GapError, zk_GapError, zs_GapError, zd_GapError, za_GapError, ocn, oct, zm_GapError⟩, kb_GapError_Exception⟩
    · exact ⟨C_BadLibrary, aC_BadLibrary, ⟨zg_BadLibrary, zk_BadLibrary, zs_BadLibrary, zd_BadLibrary, za_BadLibrary, ocn, oct, zm_BadLibrary⟩, kb_BadLibrary_Exception⟩
    · exact ⟨C_Clash, aC_Clash, ⟨zg_Clash, zk_Clash, zs_Clash, zd_Clash, za_Clash, ocn, oct, zm_Clash⟩, kb_Clash_Exception⟩
    · exact ⟨C_BadGoal, aC_BadGoal, ⟨zg_BadGoal, zk_BadGoal, zs_BadGoal, zd_BadGoal, za_BadGoal, ocn, oct, zm_BadGoal⟩, kb_BadGoal_Exception⟩
    · exact ⟨C_BadToken, aC_BadToken, ⟨zg_BadToken, zk_BadToken, zs_BadToken, zd_BadToken, za_BadToken, ocn, oct, zm_BadToken⟩, kb_BadToken_Exception⟩
    · exact ⟨C_NotBuildable, aC_NotBuildable, ⟨zg_NotBuildable, zk_NotBuildable, zs_NotBuildable, zd_NotBuildable, za_NotBuildable, ocn, oct, zm_NotBuildable⟩, kb_NotBuildable_Exception⟩
    · exact ⟨C_NotOpen, aC_NotOpen, ⟨zg_NotOpen, zk_NotOpen, zs_NotOpen, zd_NotOpen, za_NotOpen, ocn, oct, zm_NotOpen⟩, kb_NotOpen_Exception⟩
    · exact ⟨C_NotUndeclared, aC_NotUndeclared, ⟨zg_NotUndeclared, zk_NotUndeclared, zs_NotUndeclared, zd_NotUndeclared, za_NotUndeclared, ocn, oct, zm_NotUndeclared⟩, kb_NotUndeclared_Exception⟩
    · exact ⟨C_TooLong, aC_TooLong, ⟨zg_TooLong, zk_TooLong, zs_TooLong, zd_TooLong, za_TooLong, ocn, oct, zm_TooLong⟩, kb_TooLong_Exception⟩
    · exact ⟨C_Stuck, aC_Stuck, ⟨zg_Stuck, zk_Stuck, zs_Stuck, zd_Stuck, za_Stuck, ocn, oct, zm_Stuck⟩, kb_Stuck_Exception⟩
    · exact ⟨C_NothingThere, aC_NothingThere, ⟨zg_NothingThere, zk_NothingThere, zs_NothingThere, zd_NothingThere, za_NothingThere, ocn, oct, zm_NothingThere⟩, kb_NothingThere_Exception⟩
    · exact ⟨C_NoName, aC_NoName, ⟨zg_NoName, zk_NoName, zs_NoName, zd_NoName, za_NoName, ocn, oct, zm_NoName⟩, kb_NoName_Exception⟩
    · exact ⟨C_InvalidText, aC_InvalidText, ⟨zg_InvalidText, zk_InvalidText, zs_InvalidText, zd_InvalidText, za_InvalidText, ocn, oct, zm_InvalidText⟩, kb_InvalidText_Exception⟩
    · exact ⟨C_InvalidCommand, aC_InvalidCommand, ⟨zg_InvalidCommand, zk_InvalidCommand, zs_InvalidCommand, zd_InvalidCommand, za_InvalidCommand, ocn, oct, zm_InvalidCommand⟩, kb_InvalidCommand_Exception⟩
    · exact ⟨C_NoGoal, aC_NoGoal, ⟨zg_NoGoal, zk_NoGoal, zs_NoGoal, zd_NoGoal, za_NoGoal, ocn, oct, zm_NoGoal⟩, kb_NoGoal_Exception⟩
  have U_0 : IsuH K ["GapError", "BadLibrary", "Clash", "BadGoal", "BadToken", "NotBuildable", "NotOpen", "NotUndeclared", "TooLong", "Stuck", "NothingThere", "NoName", "InvalidText", "InvalidCommand", "NoGoal"] ["ArithmeticError", "LookupError", "RuntimeError", "TypeError", "ValueError"] := isu_of fun n hn => by
    simp only [List.mem_cons, List.not_mem_nil, or_false] at hn
    rcases hn with rfl | rfl | rfl | rfl | rfl | rfl | rfl | rfl | rfl | rfl | rfl | rfl | rfl | rfl | rfl
    · exact ⟨C_GapError, aC_GapError, ⟨zg_GapError, zk_GapError, zs_GapError, zd_GapError, za_GapError, ocn, oct, zm_GapError⟩, ku_GapError_0⟩
    · exact ⟨C_BadLibrary, aC_BadLibrary, ⟨zg_BadLibrary, zk_BadLibrary, zs_BadLibrary, zd_BadLibrary, za_BadLibrary, ocn, oct, zm_BadLibrary⟩, ku_BadLibrary_0⟩
    · exact ⟨C_Clash, aC_Clash, ⟨zg_Clash, zk_Clash, zs_Clash, zd_Clash, za_Clash, ocn, oct, zm_Clash⟩, ku_Clash_0⟩
    · exact ⟨C_BadGoal, aC_BadGoal, ⟨zg_BadGoal, zk_BadGoal, zs_BadGoal, zd_BadGoal, za_BadGoal, ocn, oct, zm_BadGoal⟩, ku_BadGoal_0⟩
    · exact ⟨C_BadToken, aC_BadToken, ⟨zg_BadToken, zk_BadToken, zs_BadToken, zd_BadToken, za_BadToken, ocn, oct, zm_BadToken⟩, ku_BadToken_0⟩
    · exact ⟨C_NotBuildable, aC_NotBuildable, ⟨zg_NotBuildable, zk_NotBuildable, zs_NotBuildable, zd_NotBuildable, za_NotBuildable, ocn, oct, zm_NotBuildable⟩, ku_NotBuildable_0⟩
    · exact ⟨C_NotOpen, aC_NotOpen, ⟨zg_NotOpen, zk_NotOpen, zs_NotOpen, zd_NotOpen, za_NotOpen, ocn, oct, zm_NotOpen⟩, ku_NotOpen_0⟩
    · exact ⟨C_NotUndeclared, aC_NotUndeclared, ⟨zg_NotUndeclared, zk_NotUndeclared, zs_NotUndeclared, zd_NotUndeclared, za_NotUndeclared, ocn, oct, zm_NotUndeclared⟩, ku_NotUndeclared_0⟩
    · exact ⟨C_TooLong, aC_TooLong, ⟨zg_TooLong, zk_TooLong, zs_TooLong, zd_TooLong, za_TooLong, ocn, oct, zm_TooLong⟩, ku_TooLong_0⟩
    · exact ⟨C_Stuck, aC_Stuck, ⟨zg_Stuck, zk_Stuck, zs_Stuck, zd_Stuck, za_Stuck, ocn, oct, zm_Stuck⟩, ku_Stuck_0⟩
    · exact ⟨C_NothingThere, aC_NothingThere, ⟨zg_NothingThere, zk_NothingThere, zs_NothingThere, zd_NothingThere, za_NothingThere, ocn, oct, zm_NothingThere⟩, ku_NothingThere_0⟩
    · exact ⟨C_NoName, aC_NoName, ⟨zg_NoName, zk_NoName, zs_NoName, zd_NoName, za_NoName, ocn, oct, zm_NoName⟩, ku_NoName_0⟩
    · exact ⟨C_InvalidText, aC_InvalidText, ⟨zg_InvalidText, zk_InvalidText, zs_InvalidText, zd_InvalidText, za_InvalidText, ocn, oct, zm_InvalidText⟩, ku_InvalidText_0⟩
    · exact ⟨C_InvalidCommand, aC_InvalidCommand, ⟨zg_InvalidCommand, zk_InvalidCommand, zs_InvalidCommand, zd_InvalidCommand, za_InvalidCommand, ocn, oct, zm_InvalidCommand⟩, ku_InvalidCommand_0⟩
    · exact ⟨C_NoGoal, aC_NoGoal, ⟨zg_NoGoal, zk_NoGoal, zs_NoGoal, zd_NoGoal, za_NoGoal, ocn, oct, zm_NoGoal⟩, ku_NoGoal_0⟩
  have H0 := ok_l_hand (P := l.prog) (w := w) (base := base) (R := R_hand) n_list F0 b0 (PySem.W.mg_of X G a0) ln_hand rd_l_hand
  have H1 := ok_l_draw (P := l.prog) (w := w) (base := base) (R := R_draw) F1 b1 (PySem.W.mg_of X G a1) ln_draw rd_l_draw
  have H2 := ok_l_with_one (P := l.prog) (w := w) (base := base) (R := R_l_with_one) V_InvalidCommand V_InvalidText V_NoName V_Stuck V_TooLong V_NotUndeclared V_NotBuildable V_BadToken V_BadGoal V_BadLibrary F2 b2 (PySem.W.mg_of X G a2) ln_l_with_one rd_l_with_one
  have H3 := ok_l_places (P := l.prog) (w := w) (base := base) (R := R_l_places) n_enumerate n_isinstance I_NoGoal (PySem.W.mg_of X G aC_NoGoal) I_NothingThere (PySem.W.mg_of X G aC_NothingThere) I_NotOpen (PySem.W.mg_of X G aC_NotOpen) I_Clash (PySem.W.mg_of X G aC_Clash) I_InvalidCommand (PySem.W.mg_of X G aC_InvalidCommand) I_InvalidText (PySem.W.mg_of X G aC_InvalidText) I_NoName (PySem.W.mg_of X G aC_NoName) I_Stuck (PySem.W.mg_of X G aC_Stuck) I_TooLong (PySem.W.mg_of X G aC_TooLong) I_NotUndeclared (PySem.W.mg_of X G aC_NotUndeclared) I_NotBuildable (PySem.W.mg_of X G aC_NotBuildable) I_BadToken (PySem.W.mg_of X G aC_BadToken) I_BadGoal (PySem.W.mg_of X G aC_BadGoal) I_BadLibrary (PySem.W.mg_of X G aC_BadLibrary) F3 b3 (PySem.W.mg_of X G a3) ln_l_places rd_l_places
  have H4 := ok_l_value (P := l.prog) (w := w) (base := base) (R := R_l_value) H1 n_len n_tuple F4 b4 (PySem.W.mg_of X G a4) ln_l_value rd_l_value
  have H5 := ok_l_is_alone (P := l.prog) (w := w) (base := base) (R := R_l_is_alone) H3 n_isinstance n_ArithmeticError n_LookupError n_RuntimeError n_TypeError n_ValueError n_Exception I_GapError (PySem.W.mg_of X G aC_GapError) B_Exception U_0 F5 b5 (PySem.W.mg_of X G a5) ln_l_is_alone rd_l_is_alone
  have H6 := ok_l_right (P := l.prog) (w := w) (base := base) (R := R_l_right) H5 H2 n_repr n_enumerate V_Clash W_GapError W_NoGoal W_NothingThere W_NotOpen F6 b6 (PySem.W.mg_of X G a6) ln_l_right rd_l_right
  have H7 := ok_law (P := l.prog) (w := w) (base := base) (R := R_law) H6 H4 H0 n_range F7 b7 (PySem.W.mg_of X G a7) ln_law rd_law
  exact H7.fn
end K01
open PySem PySem.W PyProof.Rows
set_option maxHeartbeats 0 in
theorem PySem.Challenge.cw_finishable_k01_errors_by_hand_holds : PySem.Challenge.rw_finishable_k01_errors_by_hand.Holds := by
  w_on; o_law; k_head; (case hw => w_witness2)
  k_fill
  refine Fx.walkG (l := PySem.Challenge.rw_finishable_k01_errors_by_hand) (n := 63) (k := 4) (x := "_law_script") (R := K01.R_law) rfl (by decide) rfl ⟨rfl, by decide, by decide⟩ (fun w h Y => PySem.W.kIn_of Y) ?F K01.at_end
  case F =>
    intro w mg fa h KX G hmg
    refine' K01.all_mk KX G hmg ?a0 ?l0 ?c0 ?k0 ?a1 ?l1 ?c1 ?k1 ?a2 ?l2 ?c2 ?k2 ?a3 ?l3 ?c3 ?k3 ?a4 ?l4 ?c4 ?k4 ?a5 ?l5 ?c5 ?k5 ?a6 ?l6 ?c6 ?k6 ?a7 ?l7 ?c7 ?k7 ?m_ArithmeticError ?m_Exception ?m_LookupError ?m_RuntimeError ?m_TypeError ?m_ValueError ?m_enumerate ?m_isinstance ?m_len ?m_list ?m_range ?m_repr ?m_tuple ?m_super ?opq ?topn ?aC_GapError ?aC_BadLibrary ?aC_Clash ?aC_BadGoal ?aC_BadToken ?aC_NotBuildable ?aC_NotOpen ?aC_NotUndeclared ?aC_TooLong ?aC_Stuck ?aC_NothingThere ?aC_NoName ?aC_InvalidText ?aC_InvalidCommand ?aC_NoGoal ?xw_GapError ?kC_GapError ?xL_BadLibrary ?sa_BadLibrary ?nN_BadLibrary_0 ?iC_BadLibrary ?tC_BadLibrary ?sup_BadLibrary ?l1_BadLibrary ?c1_BadLibrary ?cel_BadLibrary ?cod_BadLibrary ?hv_BadLibrary ?hf_BadLibrary ?kC_BadLibrary ?eC_BadLibrary ?yC_BadLibrary ?ga_BadLibrary ?gg_BadLibrary ?hd_BadLibrary ?xL_Clash ?sa_Clash ?nN_Clash_0 ?nN_Clash_1 ?iC_Clash ?tC_Clash ?sup_Clash ?l1_Clash ?c1_Clash ?cel_Clash ?cod_Clash ?hv_Clash ?hf_Clash ?kC_Clash ?eC_Clash ?yC_Clash ?ga_Clash ?gg_Clash ?hd_Clash ?xL_BadGoal ?sa_BadGoal ?nN_BadGoal_0 ?iC_BadGoal ?tC_BadGoal ?sup_BadGoal ?l1_BadGoal ?c1_BadGoal ?cel_BadGoal ?cod_BadGoal ?hv_BadGoal ?hf_BadGoal ?kC_BadGoal ?eC_BadGoal ?yC_BadGoal ?ga_BadGoal ?gg_BadGoal ?hd_BadGoal ?xL_BadToken ?sa_BadToken ?nN_BadToken_0 ?iC_BadToken ?tC_BadToken ?sup_BadToken ?l1_BadToken ?c1_BadToken ?cel_BadToken ?cod_BadToken ?hv_BadToken ?hf_BadToken ?kC_BadToken ?eC_BadToken ?yC_BadToken ?ga_BadToken ?gg_BadToken ?hd_BadToken ?xL_NotBuildable ?sa_NotBuildable ?nN_NotBuildable_0 ?iC_NotBuildable ?tC_NotBuildable ?sup_NotBuildable ?l1_NotBuildable ?c1_NotBuildable ?cel_NotBuildable ?cod_NotBuildable ?hv_NotBuildable ?hf_NotBuildable ?kC_NotBuildable ?eC_NotBuildable ?yC_NotBuildable ?ga_NotBuildable ?gg_NotBuildable ?hd_NotBuildable ?xw_NotOpen ?kC_NotOpen ?xL_NotUndeclared ?sa_NotUndeclared ?nN_NotUndeclared_0 ?iC_NotUndeclared ?tC_NotUndeclared ?sup_NotUndeclared ?l1_NotUndeclared ?c1_NotUndeclared ?cel_NotUndeclared ?cod_NotUndeclared ?hv_NotUndeclared ?hf_NotUndeclared ?kC_NotUndeclared ?eC_NotUndeclared ?yC_NotUndeclared ?ga_NotUndeclared ?gg_NotUndeclared ?hd_NotUndeclared ?xL_TooLong ?sa_TooLong ?nN_TooLong_0 ?iC_TooLong ?tC_TooLong ?sup_TooLong ?l1_TooLong ?c1_TooLong ?cel_TooLong ?cod_TooLong ?hv_TooLong ?hf_TooLong ?kC_TooLong ?eC_TooLong ?yC_TooLong ?ga_TooLong ?gg_TooLong ?hd_TooLong ?xL_Stuck ?sa_Stuck ?nN_Stuck_0 ?iC_Stuck ?tC_Stuck ?sup_Stuck ?l1_Stuck ?c1_Stuck ?cel_Stuck ?cod_Stuck ?hv_Stuck ?hf_Stuck ?kC_Stuck ?eC_Stuck ?yC_Stuck ?ga_Stuck ?gg_Stuck ?hd_Stuck ?xw_NothingThere ?kC_NothingThere ?xL_NoName ?sa_NoName ?nN_NoName_0 ?iC_NoName ?tC_NoName ?sup_NoName ?l1_NoName ?c1_NoName ?cel_NoName ?cod_NoName ?hv_NoName ?hf_NoName ?kC_NoName ?eC_NoName ?yC_NoName ?ga_NoName ?gg_NoName ?hd_NoName ?xL_InvalidText ?sa_InvalidText ?nN_InvalidText_0 ?iC_InvalidText ?tC_InvalidText ?sup_InvalidText ?l1_InvalidText ?c1_InvalidText ?cel_InvalidText ?cod_InvalidText ?hv_InvalidText ?hf_InvalidText ?kC_InvalidText ?eC_InvalidText ?yC_InvalidText ?ga_InvalidText ?gg_InvalidText ?hd_InvalidText ?xL_InvalidCommand ?sa_InvalidCommand ?nN_InvalidCommand_0 ?iC_InvalidCommand ?tC_InvalidCommand ?sup_InvalidCommand ?l1_InvalidCommand ?c1_InvalidCommand ?cel_InvalidCommand ?cod_InvalidCommand ?hv_InvalidCommand ?hf_InvalidCommand ?kC_InvalidCommand ?eC_InvalidCommand ?yC_InvalidCommand ?ga_InvalidCommand ?gg_InvalidCommand ?hd_InvalidCommand ?xw_NoGoal ?kC_NoGoal ?ocn ?oct ?zg_GapError ?zk_GapError ?zs_GapError ?zd_GapError ?za_GapError ?zm_GapError ?zg_BadLibrary ?zk_BadLibrary ?zs_BadLibrary ?zd_BadLibrary ?za_BadLibrary ?zm_BadLibrary ?zg_Clash ?zk_Clash ?zs_Clash ?zd_Clash ?za_Clash ?zm_Clash ?zg_BadGoal ?zk_BadGoal ?zs_BadGoal ?zd_BadGoal ?za_BadGoal ?zm_BadGoal ?zg_BadToken ?zk_BadToken ?zs_BadToken ?zd_BadToken ?za_BadToken ?zm_BadToken ?zg_NotBuildable ?zk_NotBuildable ?zs_NotBuildable ?zd_NotBuildable ?za_NotBuildable ?zm_NotBuildable ?zg_NotOpen ?zk_NotOpen ?zs_NotOpen ?zd_NotOpen ?za_NotOpen ?zm_NotOpen ?zg_NotUndeclared ?zk_NotUndeclared ?zs_NotUndeclared ?zd_NotUndeclared ?za_NotUndeclared ?zm_NotUndeclared ?zg_TooLong ?zk_TooLong ?zs_TooLong ?zd_TooLong ?za_TooLong ?zm_TooLong ?zg_Stuck ?zk_Stuck ?zs_Stuck ?zd_Stuck ?za_Stuck ?zm_Stuck ?zg_NothingThere ?zk_NothingThere ?zs_NothingThere ?zd_NothingThere ?za_NothingThere ?zm_NothingThere ?zg_NoName ?zk_NoName ?zs_NoName ?zd_NoName ?za_NoName ?zm_NoName ?zg_InvalidText ?zk_InvalidText ?zs_InvalidText ?zd_InvalidText ?za_InvalidText ?zm_InvalidText ?zg_InvalidCommand ?zk_InvalidCommand ?zs_InvalidCommand ?zd_InvalidCommand ?za_InvalidCommand ?zm_InvalidCommand ?zg_NoGoal ?zk_NoGoal ?zs_NoGoal ?zd_NoGoal ?za_NoGoal ?zm_NoGoal ?kt_GapError_BadGoal ?kt_BadLibrary_BadGoal ?kt_Clash_BadGoal ?kt_BadGoal_BadGoal ?kt_BadToken_BadGoal ?kt_NotBuildable_BadGoal ?kt_NotOpen_BadGoal ?kt_NotUndeclared_BadGoal ?kt_TooLong_BadGoal ?kt_Stuck_BadGoal ?kt_NothingThere_BadGoal ?kt_NoName_BadGoal ?kt_InvalidText_BadGoal ?kt_InvalidCommand_BadGoal ?kt_NoGoal_BadGoal ?kt_GapError_BadLibrary ?kt_BadLibrary_BadLibrary ?kt_Clash_BadLibrary ?kt_BadGoal_BadLibrary ?kt_BadToken_BadLibrary ?kt_NotBuildable_BadLibrary ?kt_NotOpen_BadLibrary ?kt_NotUndeclared_BadLibrary ?kt_TooLong_BadLibrary ?kt_Stuck_BadLibrary ?kt_NothingThere_BadLibrary ?kt_NoName_BadLibrary ?kt_InvalidText_BadLibrary ?kt_InvalidCommand_BadLibrary ?kt_NoGoal_BadLibrary ?kt_GapError_BadToken ?kt_BadLibrary_BadToken ?kt_Clash_BadToken ?kt_BadGoal_BadToken ?kt_BadToken_BadToken ?kt_NotBuildable_BadToken ?kt_NotOpen_BadToken ?kt_NotUndeclared_BadToken ?kt_TooLong_BadToken ?kt_Stuck_BadToken ?kt_NothingThere_BadToken ?kt_NoName_BadToken ?kt_InvalidText_BadToken ?kt_InvalidCommand_BadToken ?kt_NoGoal_BadToken ?kt_GapError_Clash ?kt_BadLibrary_Clash ?kt_Clash_Clash ?kt_BadGoal_Clash ?kt_BadToken_Clash ?kt_NotBuildable_Clash ?kt_NotOpen_Clash ?kt_NotUndeclared_Clash ?kt_TooLong_Clash ?kt_Stuck_Clash ?kt_NothingThere_Clash ?kt_NoName_Clash ?kt_InvalidText_Clash ?kt_InvalidCommand_Clash ?kt_NoGoal_Clash ?kt_GapError_GapError ?kt_BadLibrary_GapError ?kt_Clash_GapError ?kt_BadGoal_GapError ?kt_BadToken_GapError ?kt_NotBuildable_GapError ?kt_NotOpen_GapError ?kt_NotUndeclared_GapError ?kt_TooLong_GapError ?kt_Stuck_GapError ?kt_NothingThere_GapError ?kt_NoName_GapError ?kt_InvalidText_GapError ?kt_InvalidCommand_GapError ?kt_NoGoal_GapError ?kt_GapError_InvalidCommand ?kt_BadLibrary_InvalidCommand ?kt_Clash_InvalidCommand ?kt_BadGoal_InvalidCommand ?kt_BadToken_InvalidCommand ?kt_NotBuildable_InvalidCommand ?kt_NotOpen_InvalidCommand ?kt_NotUndeclared_InvalidCommand ?kt_TooLong_InvalidCommand ?kt_Stuck_InvalidCommand ?kt_NothingThere_InvalidCommand ?kt_NoName_InvalidCommand ?kt_InvalidText_InvalidCommand ?kt_InvalidCommand_InvalidCommand ?kt_NoGoal_InvalidCommand ?kt_GapError_InvalidText ?kt_BadLibrary_InvalidText ?kt_Clash_InvalidText ?kt_BadGoal_InvalidText ?kt_BadToken_InvalidText ?kt_NotBuildable_InvalidText ?kt_NotOpen_InvalidText ?kt_NotUndeclared_InvalidText ?kt_TooLong_InvalidText ?kt_Stuck_InvalidText ?kt_NothingThere_InvalidText ?kt_NoName_InvalidText ?kt_InvalidText_InvalidText ?kt_InvalidCommand_InvalidText ?kt_NoGoal_InvalidText ?kt_GapError_NoGoal ?kt_BadLibrary_NoGoal ?kt_Clash_NoGoal ?kt_BadGoal_NoGoal ?kt_BadToken_NoGoal ?kt_NotBuildable_NoGoal ?kt_NotOpen_NoGoal ?kt_NotUndeclared_NoGoal ?kt_TooLong_NoGoal ?kt_Stuck_NoGoal ?kt_NothingThere_NoGoal ?kt_NoName_NoGoal ?kt_InvalidText_NoGoal ?kt_InvalidCommand_NoGoal ?kt_NoGoal_NoGoal ?kt_GapError_NoName ?kt_BadLibrary_NoName ?kt_Clash_NoName ?kt_BadGoal_NoName ?kt_BadToken_NoName ?kt_NotBuildable_NoName ?kt_NotOpen_NoName ?kt_NotUndeclared_NoName ?kt_TooLong_NoName ?kt_Stuck_NoName ?kt_NothingThere_NoName ?kt_NoName_NoName ?kt_InvalidText_NoName ?kt_InvalidCommand_NoName ?kt_NoGoal_NoName ?kt_GapError_NotBuildable ?kt_BadLibrary_NotBuildable ?kt_Clash_NotBuildable ?kt_BadGoal_NotBuildable ?kt_BadToken_NotBuildable ?kt_NotBuildable_NotBuildable ?kt_NotOpen_NotBuildable ?kt_NotUndeclared_NotBuildable ?kt_TooLong_NotBuildable ?kt_Stuck_NotBuildable ?kt_NothingThere_NotBuildable ?kt_NoName_NotBuildable ?kt_InvalidText_NotBuildable ?kt_InvalidCommand_NotBuildable ?kt_NoGoal_NotBuildable ?kt_GapError_NotOpen ?kt_BadLibrary_NotOpen ?kt_Clash_NotOpen ?kt_BadGoal_NotOpen ?kt_BadToken_NotOpen ?kt_NotBuildable_NotOpen ?kt_NotOpen_NotOpen ?kt_NotUndeclared_NotOpen ?kt_TooLong_NotOpen ?kt_Stuck_NotOpen ?kt_NothingThere_NotOpen ?kt_NoName_NotOpen ?kt_InvalidText_NotOpen ?kt_InvalidCommand_NotOpen ?kt_NoGoal_NotOpen ?kt_GapError_NotUndeclared ?kt_BadLibrary_NotUndeclared ?kt_Clash_NotUndeclared ?kt_BadGoal_NotUndeclared ?kt_BadToken_NotUndeclared ?kt_NotBuildable_NotUndeclared ?kt_NotOpen_NotUndeclared ?kt_NotUndeclared_NotUndeclared ?kt_TooLong_NotUndeclared ?kt_Stuck_NotUndeclared ?kt_NothingThere_NotUndeclared ?kt_NoName_NotUndeclared ?kt_InvalidText_NotUndeclared ?kt_InvalidCommand_NotUndeclared ?kt_NoGoal_NotUndeclared ?kt_GapError_NothingThere ?kt_BadLibrary_NothingThere ?kt_Clash_NothingThere ?kt_BadGoal_NothingThere ?kt_BadToken_NothingThere ?kt_NotBuildable_NothingThere ?kt_NotOpen_NothingThere ?kt_NotUndeclared_NothingThere ?kt_TooLong_NothingThere ?kt_Stuck_NothingThere ?kt_NothingThere_NothingThere ?kt_NoName_NothingThere ?kt_InvalidText_NothingThere ?kt_InvalidCommand_NothingThere ?kt_NoGoal_NothingThere ?kt_GapError_Stuck ?kt_BadLibrary_Stuck ?kt_Clash_Stuck ?kt_BadGoal_Stuck ?kt_BadToken_Stuck ?kt_NotBuildable_Stuck ?kt_NotOpen_Stuck ?kt_NotUndeclared_Stuck ?kt_TooLong_Stuck ?kt_Stuck_Stuck ?kt_NothingThere_Stuck ?kt_NoName_Stuck ?kt_InvalidText_Stuck ?kt_InvalidCommand_Stuck ?kt_NoGoal_Stuck ?kt_GapError_TooLong ?kt_BadLibrary_TooLong ?kt_Clash_TooLong ?kt_BadGoal_TooLong ?kt_BadToken_TooLong ?kt_NotBuildable_TooLong ?kt_NotOpen_TooLong ?kt_NotUndeclared_TooLong ?kt_TooLong_TooLong ?kt_Stuck_TooLong ?kt_NothingThere_TooLong ?kt_NoName_TooLong ?kt_InvalidText_TooLong ?kt_InvalidCommand_TooLong ?kt_NoGoal_TooLong ?kb_GapError_Exception ?kb_BadLibrary_Exception ?kb_Clash_Exception ?kb_BadGoal_Exception ?kb_BadToken_Exception ?kb_NotBuildable_Exception ?kb_NotOpen_Exception ?kb_NotUndeclared_Exception ?kb_TooLong_Exception ?kb_Stuck_Exception ?kb_NothingThere_Exception ?kb_NoName_Exception ?kb_InvalidText_Exception ?kb_InvalidCommand_Exception ?kb_NoGoal_Exception ?ku_GapError_0 ?ku_BadLibrary_0 ?ku_Clash_0 ?ku_BadGoal_0 ?ku_BadToken_0 ?ku_NotBuildable_0 ?ku_NotOpen_0 ?ku_NotUndeclared_0 ?ku_TooLong_0 ?ku_Stuck_0 ?ku_NothingThere_0 ?ku_NoName_0 ?ku_InvalidText_0 ?ku_InvalidCommand_0 ?ku_NoGoal_0
    (case a0 => k_is); (case l0 => k_is); (case c0 => k_is); (case k0 => k_is); (case a1 => k_is); (case l1 => k_is); (case c1 => k_is); (case k1 => k_is); (case a2 => k_is); (case l2 => k_is); (case c2 => k_is); (case k2 => k_is); (case a3 => k_is); (case l3 => k_is); (case c3 => k_is); (case k3 => k_is); (case a4 => k_is); (case l4 => k_is); (case c4 => k_is); (case k4 => k_is); (case a5 => k_is); (case l5 => k_is); (case c5 => k_is); (case k5 => k_is); (case a6 => k_is); (case l6 => k_is); (case c6 => k_is); (case k6 => k_is); (case a7 => k_is); (case l7 => k_is); (case c7 => k_is); (case k7 => k_is); (case m_ArithmeticError => k_is); (case m_Exception => k_is); (case m_LookupError => k_is); (case m_RuntimeError => k_is); (case m_TypeError => k_is); (case m_ValueError => k_is); (case m_enumerate => k_is); (case m_isinstance => k_is); (case m_len => k_is); (case m_list => k_is); (case m_range => k_is); (case m_repr => k_is); (case m_tuple => k_is); (case m_super => k_is); (case opq => k_is); (case topn => rfl); (case aC_GapError => k_is); (case aC_BadLibrary => k_is); (case aC_Clash => k_is); (case aC_BadGoal => k_is); (case aC_BadToken => k_is); (case aC_NotBuildable => k_is); (case aC_NotOpen => k_is); (case aC_NotUndeclared => k_is); (case aC_TooLong => k_is); (case aC_Stuck => k_is); (case aC_NothingThere => k_is); (case aC_NoName => k_is); (case aC_InvalidText => k_is); (case aC_InvalidCommand => k_is); (case aC_NoGoal => k_is); (case xw_GapError => first | k_is | rfl | kernel_rfl | decide +kernel); (case kC_GapError => k_is); (case xL_BadLibrary => k_is); (case sa_BadLibrary => k_is); (case nN_BadLibrary_0 => k_is); (case iC_BadLibrary => k_is); (case tC_BadLibrary => k_is); (case sup_BadLibrary => first | k_is | rfl | kernel_rfl | decide +kernel); (case l1_BadLibrary => k_is); (case c1_BadLibrary => k_is); (case cel_BadLibrary => k_is); (case cod_BadLibrary => k_is); (case hv_BadLibrary => rfl); (case hf_BadLibrary => decide +kernel); (case kC_BadLibrary => k_is); (case eC_BadLibrary => k_is); (case yC_BadLibrary => k_is); (case ga_BadLibrary => k_is); (case gg_BadLibrary => k_is); (case hd_BadLibrary => k_is); (case xL_Clash => k_is); (case sa_Clash => k_is); (case nN_Clash_0 => k_is); (case nN_Clash_1 => k_is); (case iC_Clash => k_is); (case tC_Clash => k_is); (case sup_Clash => first | k_is | rfl | kernel_rfl | decide +kernel); (case l1_Clash => k_is); (case c1_Clash => k_is); (case cel_Clash => k_is); (case cod_Clash => k_is); (case hv_Clash => rfl); (case hf_Clash => decide +kernel); (case kC_Clash => k_is); (case eC_Clash => k_is); (case yC_Clash => k_is); (case ga_Clash => k_is); (case gg_Clash => k_is); (case hd_Clash => k_is); (case xL_BadGoal => k_is); (case sa_BadGoal => k_is); (case nN_BadGoal_0 => k_is); (case iC_BadGoal => k_is); (case tC_BadGoal => k_is); (case sup_BadGoal => first | k_is | rfl | kernel_rfl | decide +kernel); (case l1_BadGoal => k_is); (case c1_BadGoal => k_is); (case cel_BadGoal => k_is); (case cod_BadGoal => k_is); (case hv_BadGoal => rfl); (case hf_BadGoal => decide +kernel); (case kC_BadGoal => k_is); (case eC_BadGoal => k_is); (case yC_BadGoal => k_is); (case ga_BadGoal => k_is); (case gg_BadGoal => k_is); (case hd_BadGoal => k_is); (case xL_BadToken => k_is); (case sa_BadToken => k_is); (case nN_BadToken_0 => k_is); (case iC_BadToken => k_is); (case tC_BadToken => k_is); (case sup_BadToken => first | k_is | rfl | kernel_rfl | decide +kernel); (case l1_BadToken => k_is); (case c1_BadToken => k_is); (case cel_BadToken => k_is); (case cod_BadToken => k_is); (case hv_BadToken => rfl); (case hf_BadToken => decide +kernel); (case kC_BadToken => k_is); (case eC_BadToken => k_is); (case yC_BadToken => k_is); (case ga_BadToken => k_is); (case gg_BadToken => k_is); (case hd_BadToken => k_is); (case xL_NotBuildable => k_is); (case sa_NotBuildable => k_is); (case nN_NotBuildable_0 => k_is); (case iC_NotBuildable => k_is); (case tC_NotBuildable => k_is); (case sup_NotBuildable => first | k_is | rfl | kernel_rfl | decide +kernel); (case l1_NotBuildable => k_is); (case c1_NotBuildable => k_is); (case cel_NotBuildable => k_is); (case cod_NotBuildable => k_is); (case hv_NotBuildable => rfl); (case hf_NotBuildable => decide +kernel); (case kC_NotBuildable => k_is); (case eC_NotBuildable => k_is); (case yC_NotBuildable => k_is); (case ga_NotBuildable => k_is); (case gg_NotBuildable => k_is); (case hd_NotBuildable => k_is); (case xw_NotOpen => first | k_is | rfl | kernel_rfl | decide +kernel); (case kC_NotOpen => k_is); (case xL_NotUndeclared => k_is); (case sa_NotUndeclared => k_is); (case nN_NotUndeclared_0 => k_is); (case iC_NotUndeclared => k_is); (case tC_NotUndeclared => k_is); (case sup_NotUndeclared => first | k_is | rfl | kernel_rfl | decide +kernel); (case l1_NotUndeclared => k_is); (case c1_NotUndeclared => k_is); (case cel_NotUndeclared => k_is); (case cod_NotUndeclared => k_is); (case hv_NotUndeclared => rfl); (case hf_NotUndeclared => decide +kernel); (case kC_NotUndeclared => k_is); (case eC_NotUndeclared => k_is); (case yC_NotUndeclared => k_is); (case ga_NotUndeclared => k_is); (case gg_NotUndeclared => k_is); (case hd_NotUndeclared => k_is); (case xL_TooLong => k_is); (case sa_TooLong => k_is); (case nN_TooLong_0 => k_is); (case iC_TooLong => k_is); (case tC_TooLong => k_is); (case sup_TooLong => first | k_is | rfl | kernel_rfl | decide +kernel); (case l1_TooLong => k_is); (case c1_TooLong => k_is); (case cel_TooLong => k_is); (case cod_TooLong => k_is); (case hv_TooLong => rfl); (case hf_TooLong => decide +kernel); (case kC_TooLong => k_is); (case eC_TooLong => k_is); (case yC_TooLong => k_is); (case ga_TooLong => k_is); (case gg_TooLong => k_is); (case hd_TooLong => k_is); (case xL_Stuck => k_is); (case sa_Stuck => k_is); (case nN_Stuck_0 => k_is); (case iC_Stuck => k_is); (case tC_Stuck => k_is); (case sup_Stuck => first | k_is | rfl | kernel_rfl | decide +kernel); (case l1_Stuck => k_is); (case c1_Stuck => k_is); (case cel_Stuck => k_is); (case cod_Stuck => k_is); (case hv_Stuck => rfl); (case hf_Stuck => decide +kernel); (case kC_Stuck => k_is); (case eC_Stuck => k_is); (case yC_Stuck => k_is); (case ga_Stuck => k_is); (case gg_Stuck => k_is); (case hd_Stuck => k_is); (case xw_NothingThere => first | k_is | rfl | kernel_rfl | decide +kernel); (case kC_NothingThere => k_is); (case xL_NoName => k_is); (case sa_NoName => k_is); (case nN_NoName_0 => k_is); (case iC_NoName => k_is); (case tC_NoName => k_is); (case sup_NoName => first | k_is | rfl | kernel_rfl | decide +kernel); (case l1_NoName => k_is); (case c1_NoName => k_is); (case cel_NoName => k_is); (case cod_NoName => k_is); (case hv_NoName => rfl); (case hf_NoName => decide +kernel); (case kC_NoName => k_is); (case eC_NoName => k_is); (case yC_NoName => k_is); (case ga_NoName => k_is); (case gg_NoName => k_is); (case hd_NoName => k_is); (case xL_InvalidText => k_is); (case sa_InvalidText => k_is); (case nN_InvalidText_0 => k_is); (case iC_InvalidText => k_is); (case tC_InvalidText => k_is); (case sup_InvalidText => first | k_is | rfl | kernel_rfl | decide +kernel); (case l1_InvalidText => k_is); (case c1_InvalidText => k_is); (case cel_InvalidText => k_is); (case cod_InvalidText => k_is); (case hv_InvalidText => rfl); (case hf_InvalidText => decide +kernel); (case kC_InvalidText => k_is); (case eC_InvalidText => k_is); (case yC_InvalidText => k_is); (case ga_InvalidText => k_is); (case gg_InvalidText => k_is); (case hd_InvalidText => k_is); (case xL_InvalidCommand => k_is); (case sa_InvalidCommand => k_is); (case nN_InvalidCommand_0 => k_is); (case iC_InvalidCommand => k_is); (case tC_InvalidCommand => k_is); (case sup_InvalidCommand => first | k_is | rfl | kernel_rfl | decide +kernel); (case l1_InvalidCommand => k_is); (case c1_InvalidCommand => k_is); (case cel_InvalidCommand => k_is); (case cod_InvalidCommand => k_is); (case hv_InvalidCommand => rfl); (case hf_InvalidCommand => decide +kernel); (case kC_InvalidCommand => k_is); (case eC_InvalidCommand => k_is); (case yC_InvalidCommand => k_is); (case ga_InvalidCommand => k_is); (case gg_InvalidCommand => k_is); (case hd_InvalidCommand => k_is); (case xw_NoGoal => first | k_is | rfl | kernel_rfl | decide +kernel); (case kC_NoGoal => k_is); (case ocn => k_is); (case oct => k_is); (case zg_GapError => k_is); (case zk_GapError => k_is); (case zs_GapError => k_is); (case zd_GapError => k_is); (case za_GapError => k_is); (case zm_GapError => k_is); (case zg_BadLibrary => k_is); (case zk_BadLibrary => k_is); (case zs_BadLibrary => k_is); (case zd_BadLibrary => k_is); (case za_BadLibrary => k_is); (case zm_BadLibrary => k_is); (case zg_Clash => k_is); (case zk_Clash => k_is); (case zs_Clash => k_is); (case zd_Clash => k_is); (case za_Clash => k_is); (case zm_Clash => k_is); (case zg_BadGoal => k_is); (case zk_BadGoal => k_is); (case zs_BadGoal => k_is); (case zd_BadGoal => k_is); (case za_BadGoal => k_is); (case zm_BadGoal => k_is); (case zg_BadToken => k_is); (case zk_BadToken => k_is); (case zs_BadToken => k_is); (case zd_BadToken => k_is); (case za_BadToken => k_is); (case zm_BadToken => k_is); (case zg_NotBuildable => k_is); (case zk_NotBuildable => k_is); (case zs_NotBuildable => k_is); (case zd_NotBuildable => k_is); (case za_NotBuildable => k_is); (case zm_NotBuildable => k_is); (case zg_NotOpen => k_is); (case zk_NotOpen => k_is); (case zs_NotOpen => k_is); (case zd_NotOpen => k_is); (case za_NotOpen => k_is); (case zm_NotOpen => k_is); (case zg_NotUndeclared => k_is); (case zk_NotUndeclared => k_is); (case zs_NotUndeclared => k_is); (case zd_NotUndeclared => k_is); (case za_NotUndeclared => k_is); (case zm_NotUndeclared => k_is); (case zg_TooLong => k_is); (case zk_TooLong => k_is); (case zs_TooLong => k_is); (case zd_TooLong => k_is); (case za_TooLong => k_is); (case zm_TooLong => k_is); (case zg_Stuck => k_is); (case zk_Stuck => k_is); (case zs_Stuck => k_is); (case zd_Stuck => k_is); (case za_Stuck => k_is); (case zm_Stuck => k_is); (case zg_NothingThere => k_is); (case zk_NothingThere => k_is); (case zs_NothingThere => k_is); (case zd_NothingThere => k_is); (case za_NothingThere => k_is); (case zm_NothingThere => k_is); (case zg_NoName => k_is); (case zk_NoName => k_is); (case zs_NoName => k_is); (case zd_NoName => k_is); (case za_NoName => k_is); (case zm_NoName => k_is); (case zg_InvalidText => k_is); (case zk_InvalidText => k_is); (case zs_InvalidText => k_is); (case zd_InvalidText => k_is); (case za_InvalidText => k_is); (case zm_InvalidText => k_is); (case zg_InvalidCommand => k_is); (case zk_InvalidCommand => k_is); (case zs_InvalidCommand => k_is); (case zd_InvalidCommand => k_is); (case za_InvalidCommand => k_is); (case zm_InvalidCommand => k_is); (case zg_NoGoal => k_is); (case zk_NoGoal => k_is); (case zs_NoGoal => k_is); (case zd_NoGoal => k_is); (case za_NoGoal => k_is); (case zm_NoGoal => k_is); (case kt_GapError_BadGoal => first | k_is | rfl | kernel_rfl | decide +kernel); (case kt_BadLibrary_BadGoal => first | k_is | rfl | kernel_rfl | decide +kernel); (case kt_Clash_BadGoal => first | k_is | rfl | kernel_rfl | decide +kernel); (case kt_BadGoal_BadGoal => first | k_is | rfl | kernel_rfl | decide +kernel); (case kt_BadToken_BadGoal => first | k_is | rfl | kernel_rfl | decide +kernel); (case kt_NotBuildable_BadGoal => first | k_is | rfl | kernel_rfl | decide +kernel); (case kt_NotOpen_BadGoal => first | k_is | rfl | kernel_rfl | decide +kernel); (case kt_NotUndeclared_BadGoal => first | k_is | rfl | kernel_rfl | decide +kernel); (case kt_TooLong_BadGoal => first | k_is | rfl | kernel_rfl | decide +kernel); (case kt_Stuck_BadGoal => first | k_is | rfl | kernel_rfl | decide +kernel); (case kt_NothingThere_BadGoal => first | k_is | rfl | kernel_rfl | decide +kernel); (case kt_NoName_BadGoal => first | k_is | rfl | kernel_rfl | decide +kernel); (case kt_InvalidText_BadGoal => first | k_is | rfl | kernel_rfl | decide +kernel); (case kt_InvalidCommand_BadGoal => first | k_is | rfl | kernel_rfl | decide +kernel); (case kt_NoGoal_BadGoal => first | k_is | rfl | kernel_rfl | decide +kernel); (case kt_GapError_BadLibrary => first | k_is | rfl | kernel_rfl | decide +kernel); (case kt_BadLibrary_BadLibrary => first | k_is | rfl | kernel_rfl | decide +kernel); (case kt_Clash_BadLibrary => first | k_is | rfl | kernel_rfl | decide +kernel); (case kt_BadGoal_BadLibrary => first | k_is | rfl | kernel_rfl | decide +kernel); (case kt_BadToken_BadLibrary => first | k_is | rfl | kernel_rfl | decide +kernel); (case kt_NotBuildable_BadLibrary => first | k_is | rfl | kernel_rfl | decide +kernel); (case kt_NotOpen_BadLibrary => first | k_is | rfl | kernel_rfl | decide +kernel); (case kt_NotUndeclared_BadLibrary => first | k_is | rfl | kernel_rfl | decide +kernel); (case kt_TooLong_BadLibrary => first | k_is | rfl | kernel_rfl | decide +kernel); (case kt_Stuck_BadLibrary => first | k_is | rfl | kernel_rfl | decide +kernel); (case kt_NothingThere_BadLibrary => first | k_is | rfl | kernel_rfl | decide +kernel); (case kt_NoName_BadLibrary => first | k_is | rfl | kernel_rfl | decide +kernel); (case kt_InvalidText_BadLibrary => first | k_is | rfl | kernel_rfl | decide +kernel); (case kt_InvalidCommand_BadLibrary => first | k_is | rfl | kernel_rfl | decide +kernel); (case kt_NoGoal_BadLibrary => first | k_is | rfl | kernel_rfl | decide +kernel); (case kt_GapError_BadToken => first | k_is | rfl | kernel_rfl | decide +kernel); (case kt_BadLibrary_BadToken => first | k_is | rfl | kernel_rfl | decide +kernel); (case kt_Clash_BadToken => first | k_is | rfl | kernel_rfl | decide +kernel); (case kt_BadGoal_BadToken => first | k_is | rfl | kernel_rfl | decide +kernel); (case kt_BadToken_BadToken => first | k_is | rfl | kernel_rfl | decide +kernel); (case kt_NotBuildable_BadToken => first | k_is | rfl | kernel_rfl | decide +kernel); (case kt_NotOpen_BadToken => first | k_is | rfl | kernel_rfl | decide +kernel); (case kt_NotUndeclared_BadToken => first | k_is | rfl | kernel_rfl | decide +kernel); (case kt_TooLong_BadToken => first | k_is | rfl | kernel_rfl | decide +kernel); (case kt_Stuck_BadToken => first | k_is | rfl | kernel_rfl | decide +kernel); (case kt_NothingThere_BadToken => first | k_is | rfl | kernel_rfl | decide +kernel); (case kt_NoName_BadToken => first | k_is | rfl | kernel_rfl | decide +kernel); (case kt_InvalidText_BadToken => first | k_is | rfl | kernel_rfl | decide +kernel); (case kt_InvalidCommand_BadToken => first | k_is | rfl | kernel_rfl | decide +kernel); (case kt_NoGoal_BadToken => first | k_is | rfl | kernel_rfl | decide +kernel); (case kt_GapError_Clash => first | k_is | rfl | kernel_rfl | decide +kernel); (case kt_BadLibrary_Clash => first | k_is | rfl | kernel_rfl | decide +kernel); (case kt_Clash_Clash => first | k_is | rfl | kernel_rfl | decide +kernel); (case kt_BadGoal_Clash => first | k_is | rfl | kernel_rfl | decide +kernel); (case kt_BadToken_Clash => first | k_is | rfl | kernel_rfl | decide +kernel); (case kt_NotBuildable_Clash => first | k_is | rfl | kernel_rfl | decide +kernel); (case kt_NotOpen_Clash => first | k_is | rfl | kernel_rfl | decide +kernel); (case kt_NotUndeclared_Clash => first | k_is | rfl | kernel_rfl | decide +kernel); (case kt_TooLong_Clash => first | k_is | rfl | kernel_rfl | decide +kernel); (case kt_Stuck_Clash => first | k_is | rfl | kernel_rfl | decide +kernel); (case kt_NothingThere_Clash => first | k_is | rfl | kernel_rfl | decide +kernel); (case kt_NoName_Clash => first | k_is | rfl | kernel_rfl | decide +kernel); (case kt_InvalidText_Clash => first | k_is | rfl | kernel_rfl | decide +kernel); (case kt_InvalidCommand_Clash => first | k_is | rfl | kernel_rfl | decide +kernel); (case kt_NoGoal_Clash => first | k_is | rfl | kernel_rfl | decide +kernel); (case kt_GapError_GapError => first | k_is | rfl | kernel_rfl | decide +kernel); (case kt_BadLibrary_GapError => first | k_is | rfl | kernel_rfl | decide +kernel); (case kt_Clash_GapError => first | k_is | rfl | kernel_rfl | decide +kernel); (case kt_BadGoal_GapError => first | k_is | rfl | kernel_rfl | decide +kernel); (case kt_BadToken_GapError => first | k_is | rfl | kernel_rfl | decide +kernel); (case kt_NotBuildable_GapError => first | k_is | rfl | kernel_rfl | decide +kernel); (case kt_NotOpen_GapError => first | k_is | rfl | kernel_rfl | decide +kernel); (case kt_NotUndeclared_GapError => first | k_is | rfl | kernel_rfl | decide +kernel); (case kt_TooLong_GapError => first | k_is | rfl | kernel_rfl | decide +kernel); (case kt_Stuck_GapError => first | k_is | rfl | kernel_rfl | decide +kernel); (case kt_NothingThere_GapError => first | k_is | rfl | kernel_rfl | decide +kernel); (case kt_NoName_GapError => first | k_is | rfl | kernel_rfl | decide +kernel); (case kt_InvalidText_GapError => first | k_is | rfl | kernel_rfl | decide +kernel); (case kt_InvalidCommand_GapError => first | k_is | rfl | kernel_rfl | decide +kernel); (case kt_NoGoal_GapError => first | k_is | rfl | kernel_rfl | decide +kernel); (case kt_GapError_InvalidCommand => first | k_is | rfl | kernel_rfl | decide +kernel); (case kt_BadLibrary_InvalidCommand => first | k_is | rfl | kernel_rfl | decide +kernel); (case kt_Clash_InvalidCommand => first | k_is | rfl | kernel_rfl | decide +kernel); (case kt_BadGoal_InvalidCommand => first | k_is | rfl | kernel_rfl | decide +kernel); (case kt_BadToken_InvalidCommand => first | k_is | rfl | kernel_rfl | decide +kernel); (case kt_NotBuildable_InvalidCommand => first | k_is | rfl | kernel_rfl | decide +kernel); (case kt_NotOpen_InvalidCommand => first | k_is | rfl | kernel_rfl | decide +kernel); (case kt_NotUndeclared_InvalidCommand => first | k_is | rfl | kernel_rfl | decide +kernel); (case kt_TooLong_InvalidCommand => first | k_is | rfl | kernel_rfl | decide +kernel); (case kt_Stuck_InvalidCommand => first | k_is | rfl | kernel_rfl | decide +kernel); (case kt_NothingThere_InvalidCommand => first | k_is | rfl | kernel_rfl | decide +kernel); (case kt_NoName_InvalidCommand => first | k_is | rfl | kernel_rfl | decide +kernel); (case kt_InvalidText_InvalidCommand => first | k_is | rfl | kernel_rfl | decide +kernel); (case kt_InvalidCommand_InvalidCommand => first | k_is | rfl | kernel_rfl | decide +kernel); (case kt_NoGoal_InvalidCommand => first | k_is | rfl | kernel_rfl | decide +kernel); (case kt_GapError_InvalidText => first | k_is | rfl | kernel_rfl | decide +kernel); (case kt_BadLibrary_InvalidText => first | k_is | rfl | kernel_rfl | decide +kernel); (case kt_Clash_InvalidText => first | k_is | rfl | kernel_rfl | decide +kernel); (case kt_BadGoal_InvalidText => first | k_is | rfl | kernel_rfl | decide +kernel); (case kt_BadToken_InvalidText => first | k_is | rfl | kernel_rfl | decide +kernel); (case kt_NotBuildable_InvalidText => first | k_is | rfl | kernel_rfl | decide +kernel); (case kt_NotOpen_InvalidText => first | k_is | rfl | kernel_rfl | decide +kernel); (case kt_NotUndeclared_InvalidText => first | k_is | rfl | kernel_rfl | decide +kernel); (case kt_TooLong_InvalidText => first | k_is | rfl | kernel_rfl | decide +kernel); (case kt_Stuck_InvalidText => first | k_is | rfl | kernel_rfl | decide +kernel); (case kt_NothingThere_InvalidText => first | k_is | rfl | kernel_rfl | decide +kernel); (case kt_NoName_InvalidText => first | k_is | rfl | kernel_rfl | decide +kernel); (case kt_InvalidText_InvalidText => first | k_is | rfl | kernel_rfl | decide +kernel); (case kt_InvalidCommand_InvalidText => first | k_is | rfl | kernel_rfl | decide +kernel); (case kt_NoGoal_InvalidText => first | k_is | rfl | kernel_rfl | decide +kernel); (case kt_GapError_NoGoal => first | k_is | rfl | kernel_rfl | decide +kernel); (case kt_BadLibrary_NoGoal => first | k_is | rfl | kernel_rfl | decide +kernel); (case kt_Clash_NoGoal => first | k_is | rfl | kernel_rfl | decide +kernel); (case kt_BadGoal_NoGoal => first | k_is | rfl | kernel_rfl | decide +kernel); (case kt_BadToken_NoGoal => first | k_is | rfl | kernel_rfl | decide +kernel); (case kt_NotBuildable_NoGoal => first | k_is | rfl | kernel_rfl | decide +kernel); (case kt_NotOpen_NoGoal => first | k_is | rfl | kernel_rfl | decide +kernel); (case kt_NotUndeclared_NoGoal => first | k_is | rfl | kernel_rfl | decide +kernel); (case kt_TooLong_NoGoal => first | k_is | rfl | kernel_rfl | decide +kernel); (case kt_Stuck_NoGoal => first | k_is | rfl | kernel_rfl | decide +kernel); (case kt_NothingThere_NoGoal => first | k_is | rfl | kernel_rfl | decide +kernel); (case kt_NoName_NoGoal => first | k_is | rfl | kernel_rfl | decide +kernel); (case kt_InvalidText_NoGoal => first | k_is | rfl | kernel_rfl | decide +kernel); (case kt_InvalidCommand_NoGoal => first | k_is | rfl | kernel_rfl | decide +kernel); (case kt_NoGoal_NoGoal => first | k_is | rfl | kernel_rfl | decide +kernel); (case kt_GapError_NoName => first | k_is | rfl | kernel_rfl | decide +kernel); (case kt_BadLibrary_NoName => first | k_is | rfl | kernel_rfl | decide +kernel); (case kt_Clash_NoName => first | k_is | rfl | kernel_rfl | decide +kernel); (case kt_BadGoal_NoName => first | k_is | rfl | kernel_rfl | decide +kernel); (case kt_BadToken_NoName => first | k_is | rfl | kernel_rfl | decide +kernel); (case kt_NotBuildable_NoName => first | k_is | rfl | kernel_rfl | decide +kernel); (case kt_NotOpen_NoName => first | k_is | rfl | kernel_rfl | decide +kernel); (case kt_NotUndeclared_NoName => first | k_is | rfl | kernel_rfl | decide +kernel); (case kt_TooLong_NoName => first | k_is | rfl | kernel_rfl | decide +kernel); (case kt_Stuck_NoName => first | k_is | rfl | kernel_rfl | decide +kernel); (case kt_NothingThere_NoName => first | k_is | rfl | kernel_rfl | decide +kernel); (case kt_NoName_NoName => first | k_is | rfl | kernel_rfl | decide +kernel); (case kt_InvalidText_NoName => first | k_is | rfl | kernel_rfl | decide +kernel); (case kt_InvalidCommand_NoName => first | k_is | rfl | kernel_rfl | decide +kernel); (case kt_NoGoal_NoName => first | k_is | rfl | kernel_rfl | decide +kernel); (case kt_GapError_NotBuildable => first | k_is | rfl | kernel_rfl | decide +kernel); (case kt_BadLibrary_NotBuildable => first | k_is | rfl | kernel_rfl | decide +kernel); (case kt_Clash_NotBuildable => first | k_is | rfl | kernel_rfl | decide +kernel); (case kt_BadGoal_NotBuildable => first | k_is | rfl | kernel_rfl | decide +kernel); (case kt_BadToken_NotBuildable => first | k_is | rfl | kernel_rfl | decide +kernel); (case kt_NotBuildable_NotBuildable => first | k_is | rfl | kernel_rfl | decide +kernel); (case kt_NotOpen_NotBuildable => first | k_is | rfl | kernel_rfl | decide +kernel); (case kt_NotUndeclared_NotBuildable => first | k_is | rfl | kernel_rfl | decide +kernel); (case kt_TooLong_NotBuildable => first | k_is | rfl | kernel_rfl | decide +kernel); (case kt_Stuck_NotBuildable => first | k_is | rfl | kernel_rfl | decide +kernel); (case kt_NothingThere_NotBuildable => first | k_is | rfl | kernel_rfl | decide +kernel); (case kt_NoName_NotBuildable => first | k_is | rfl | kernel_rfl | decide +kernel); (case kt_InvalidText_NotBuildable => first | k_is | rfl | kernel_rfl | decide +kernel); (case kt_InvalidCommand_NotBuildable => first | k_is | rfl | kernel_rfl | decide +kernel); (case kt_NoGoal_NotBuildable => first | k_is | rfl | kernel_rfl | decide +kernel); (case kt_GapError_NotOpen => first | k_is | rfl | kernel_rfl | decide +kernel); (case kt_BadLibrary_NotOpen => first | k_is | rfl | kernel_rfl | decide +kernel); (case kt_Clash_NotOpen => first | k_is | rfl | kernel_rfl | decide +kernel); (case kt_BadGoal_NotOpen => first | k_is | rfl | kernel_rfl | decide +kernel); (case kt_BadToken_NotOpen => first | k_is | rfl | kernel_rfl | decide +kernel); (case kt_NotBuildable_NotOpen => first | k_is | rfl | kernel_rfl | decide +kernel); (case kt_NotOpen_NotOpen => first | k_is | rfl | kernel_rfl | decide +kernel); (case kt_NotUndeclared_NotOpen => first | k_is | rfl | kernel_rfl | decide +kernel); (case kt_TooLong_NotOpen => first | k_is | rfl | kernel_rfl | decide +kernel); (case kt_Stuck_NotOpen => first | k_is | rfl | kernel_rfl | decide +kernel); (case kt_NothingThere_NotOpen => first | k_is | rfl | kernel_rfl | decide +kernel); (case kt_NoName_NotOpen => first | k_is | rfl | kernel_rfl | decide +kernel); (case kt_InvalidText_NotOpen => first | k_is | rfl | kernel_rfl | decide +kernel); (case kt_InvalidCommand_NotOpen => first | k_is | rfl | kernel_rfl | decide +kernel); (case kt_NoGoal_NotOpen => first | k_is | rfl | kernel_rfl | decide +kernel); (case kt_GapError_NotUndeclared => first | k_is | rfl | kernel_rfl | decide +kernel); (case kt_BadLibrary_NotUndeclared => first | k_is | rfl | kernel_rfl | decide +kernel); (case kt_Clash_NotUndeclared => first | k_is | rfl | kernel_rfl | decide +kernel); (case kt_BadGoal_NotUndeclared => first | k_is | rfl | kernel_rfl | decide +kernel); (case kt_BadToken_NotUndeclared => first | k_is | rfl | kernel_rfl | decide +kernel); (case kt_NotBuildable_NotUndeclared => first | k_is | rfl | kernel_rfl | decide +kernel); (case kt_NotOpen_NotUndeclared => first | k_is | rfl | kernel_rfl | decide +kernel); (case kt_NotUndeclared_NotUndeclared => first | k_is | rfl | kernel_rfl | decide +kernel); (case kt_TooLong_NotUndeclared => first | k_is | rfl | kernel_rfl | decide +kernel); (case kt_Stuck_NotUndeclared => first | k_is | rfl | kernel_rfl | decide +kernel); (case kt_NothingThere_NotUndeclared => first | k_is | rfl | kernel_rfl | decide +kernel); (case kt_NoName_NotUndeclared => first | k_is | rfl | kernel_rfl | decide +kernel); (case kt_InvalidText_NotUndeclared => first | k_is | rfl | kernel_rfl | decide +kernel); (case kt_InvalidCommand_NotUndeclared => first | k_is | rfl | kernel_rfl | decide +kernel); (case kt_NoGoal_NotUndeclared => first | k_is | rfl | kernel_rfl | decide +kernel); (case kt_GapError_NothingThere => first | k_is | rfl | kernel_rfl | decide +kernel); (case kt_BadLibrary_NothingThere => first | k_is | rfl | kernel_rfl | decide +kernel); (case kt_Clash_NothingThere => first | k_is | rfl | kernel_rfl | decide +kernel); (case kt_BadGoal_NothingThere => first | k_is | rfl | kernel_rfl | decide +kernel); (case kt_BadToken_NothingThere => first | k_is | rfl | kernel_rfl | decide +kernel); (case kt_NotBuildable_NothingThere => first | k_is | rfl | kernel_rfl | decide +kernel); (case kt_NotOpen_NothingThere => first | k_is | rfl | kernel_rfl | decide +kernel); (case kt_NotUndeclared_NothingThere => first | k_is | rfl | kernel_rfl | decide +kernel); (case kt_TooLong_NothingThere => first | k_is | rfl | kernel_rfl | decide +kernel); (case kt_Stuck_NothingThere => first | k_is | rfl | kernel_rfl | decide +kernel); (case kt_NothingThere_NothingThere => first | k_is | rfl | kernel_rfl | decide +kernel); (case kt_NoName_NothingThere => first | k_is | rfl | kernel_rfl | decide +kernel); (case kt_InvalidText_NothingThere => first | k_is | rfl | kernel_rfl | decide +kernel); (case kt_InvalidCommand_NothingThere => first | k_is | rfl | kernel_rfl | decide +kernel); (case kt_NoGoal_NothingThere => first | k_is | rfl | kernel_rfl | decide +kernel); (case kt_GapError_Stuck => first | k_is | rfl | kernel_rfl | decide +kernel); (case kt_BadLibrary_Stuck => first | k_is | rfl | kernel_rfl | decide +kernel); (case kt_Clash_Stuck => first | k_is | rfl | kernel_rfl | decide +kernel); (case kt_BadGoal_Stuck => first | k_is | rfl | kernel_rfl | decide +kernel); (case kt_BadToken_Stuck => first | k_is | rfl | kernel_rfl | decide +kernel); (case kt_NotBuildable_Stuck => first | k_is | rfl | kernel_rfl | decide +kernel); (case kt_NotOpen_Stuck => first | k_is | rfl | kernel_rfl | decide +kernel); (case kt_NotUndeclared_Stuck => first | k_is | rfl | kernel_rfl | decide +kernel); (case kt_TooLong_Stuck => first | k_is | rfl | kernel_rfl | decide +kernel); (case kt_Stuck_Stuck => first | k_is | rfl | kernel_rfl | decide +kernel); (case kt_NothingThere_Stuck => first | k_is | rfl | kernel_rfl | decide +kernel); (case kt_NoName_Stuck => first | k_is | rfl | kernel_rfl | decide +kernel); (case kt_InvalidText_Stuck => first | k_is | rfl | kernel_rfl | decide +kernel); (case kt_InvalidCommand_Stuck => first | k_is | rfl | kernel_rfl | decide +kernel); (case kt_NoGoal_Stuck => first | k_is | rfl | kernel_rfl | decide +kernel); (case kt_GapError_TooLong => first | k_is | rfl | kernel_rfl | decide +kernel); (case kt_BadLibrary_TooLong => first | k_is | rfl | kernel_rfl | decide +kernel); (case kt_Clash_TooLong => first | k_is | rfl | kernel_rfl | decide +kernel); (case kt_BadGoal_TooLong => first | k_is | rfl | kernel_rfl | decide +kernel); (case kt_BadToken_TooLong => first | k_is | rfl | kernel_rfl | decide +kernel); (case kt_NotBuildable_TooLong => first | k_is | rfl | kernel_rfl | decide +kernel); (case kt_NotOpen_TooLong => first | k_is | rfl | kernel_rfl | decide +kernel); (case kt_NotUndeclared_TooLong => first | k_is | rfl | kernel_rfl | decide +kernel); (case kt_TooLong_TooLong => first | k_is | rfl | kernel_rfl | decide +kernel); (case kt_Stuck_TooLong => first | k_is | rfl | kernel_rfl | decide +kernel); (case kt_NothingThere_TooLong => first | k_is | rfl | kernel_rfl | decide +kernel); (case kt_NoName_TooLong => first | k_is | rfl | kernel_rfl | decide +kernel); (case kt_InvalidText_TooLong => first | k_is | rfl | kernel_rfl | decide +kernel); (case kt_InvalidCommand_TooLong => first | k_is | rfl | kernel_rfl | decide +kernel); (case kt_NoGoal_TooLong => first | k_is | rfl | kernel_rfl | decide +kernel); (case kb_GapError_Exception => first | k_is | rfl | kernel_rfl | decide +kernel); (case kb_BadLibrary_Exception => first | k_is | rfl | kernel_rfl | decide +kernel); (case kb_Clash_Exception => first | k_is | rfl | kernel_rfl | decide +kernel); (case kb_BadGoal_Exception => first | k_is | rfl | kernel_rfl | decide +kernel); (case kb_BadToken_Exception => first | k_is | rfl | kernel_rfl | decide +kernel); (case kb_NotBuildable_Exception => first | k_is | rfl | kernel_rfl | decide +kernel); (case kb_NotOpen_Exception => first | k_is | rfl | kernel_rfl | decide +kernel); (case kb_NotUndeclared_Exception => first | k_is | rfl | kernel_rfl | decide +kernel); (case kb_TooLong_Exception => first | k_is | rfl | kernel_rfl | decide +kernel); (case kb_Stuck_Exception => first | k_is | rfl | kernel_rfl | decide +kernel); (case kb_NothingThere_Exception => first | k_is | rfl | kernel_rfl | decide +kernel); (case kb_NoName_Exception => first | k_is | rfl | kernel_rfl | decide +kernel); (case kb_InvalidText_Exception => first | k_is | rfl | kernel_rfl | decide +kernel); (case kb_InvalidCommand_Exception => first | k_is | rfl | kernel_rfl | decide +kernel); (case kb_NoGoal_Exception => first | k_is | rfl | kernel_rfl | decide +kernel); (case ku_GapError_0 => first | k_is | rfl | kernel_rfl | decide +kernel); (case ku_BadLibrary_0 => first | k_is | rfl | kernel_rfl | decide +kernel); (case ku_Clash_0 => first | k_is | rfl | kernel_rfl | decide +kernel); (case ku_BadGoal_0 => first | k_is | rfl | kernel_rfl | decide +kernel); (case ku_BadToken_0 => first | k_is | rfl | kernel_rfl | decide +kernel); (case ku_NotBuildable_0 => first | k_is | rfl | kernel_rfl | decide +kernel); (case ku_NotOpen_0 => first | k_is | rfl | kernel_rfl | decide +kernel); (case ku_NotUndeclared_0 => first | k_is | rfl | kernel_rfl | decide +kernel); (case ku_TooLong_0 => first | k_is | rfl | kernel_rfl | decide +kernel); (case ku_Stuck_0 => first | k_is | rfl | kernel_rfl | decide +kernel); (case ku_NothingThere_0 => first | k_is | rfl | kernel_rfl | decide +kernel); (case ku_NoName_0 => first | k_is | rfl | kernel_rfl | decide +kernel); (case ku_InvalidText_0 => first | k_is | rfl | kernel_rfl | decide +kernel); (case ku_InvalidCommand_0 => first | k_is | rfl | kernel_rfl | decide +kernel); (case ku_NoGoal_0 => first | k_is | rfl | kernel_rfl | decide +kernel)

